import PyProof.Rows.All
import Wide.All
import OpenK.AllK
import Wide.FinOn
import HandS.ForMost
import HandS.Defaults
import HandS.HeadHook2
import KE.KStateDown
import Lean
import HandS.Head0
import HandS.Head1
import HandS.Head2
import HandS.HeadEnd
import HandS.HeadHook1
import HandS.DictComp
import HandS.Walk
import HandS.Conv
import KE.KeyNested
import KE.SortData
import KE.DataEq
import HandS.IsInst
import HandS.TupAny
import HandS.TupMul
import HandS.Style
import HandS.Flow
import HandS.Zip
import KE.KStar
import KE.KEqDat
import KE.GoesEnum
import KE.GoesMore
import KE.KTupSum
import HandS.Rev
import KE.KDictDisplayH
import KE.KDictKeyed
import HandS.IterVal
import PySem.Challenge.RW_fillerfed_k79_whole_long_walks_and_great
set_option Elab.async false
set_option linter.all false
set_option maxRecDepth 100000
/-! the defs of the top, by their places -/
namespace K79
open PySem PySem.Spec PyProof.Rows L2
def top (i : Nat) : Stmt := PySem.Challenge.pw_fillerfed_k79_whole_long_walks_and_great.main.body.getD i (.Pass ⟨0, 0, 0, 0⟩)
abbrev s_names_of : Stmt := top 6
abbrev s_machine_of : Stmt := top 7
abbrev s_time_of : Stmt := top 8
abbrev s_purses_of : Stmt := top 9
abbrev s_pace_of : Stmt := top 10
abbrev s_purse_places : Stmt := top 11
abbrev s_arcs_of : Stmt := top 13
abbrev s_start_of : Stmt := top 14
abbrev s_end_of : Stmt := top 15
abbrev s_growth_of : Stmt := top 16
abbrev s_does_end : Stmt := top 17
abbrev s_arcs_from : Stmt := top 18
abbrev s_is_integer : Stmt := top 21
abbrev s_is_count : Stmt := top 22
abbrev s_is_row_forms : Stmt := top 23
abbrev s_is_name : Stmt := top 25
abbrev s_is_arc : Stmt := top 26
abbrev s_still_arcs : Stmt := top 28
abbrev s_least_back : Stmt := top 29
abbrev s_dead_ring : Stmt := top 30
abbrev s_is_live : Stmt := top 31
abbrev s_full_state : Stmt := top 37
abbrev s_behind : Stmt := top 38
abbrev s_inner_arcs : Stmt := top 39
abbrev s_states_of : Stmt := top 40
abbrev s_gain_behind : Stmt := top 42
abbrev s_home_arc : Stmt := top 45
abbrev s_searched : Stmt := top 46
abbrev s_gains : Stmt := top 47
abbrev s_is_way : Stmt := top 49
abbrev s_is_walk : Stmt := top 50
abbrev s_indexes : Stmt := top 51
abbrev s_index_of : Stmt := top 52
abbrev s_ended : Stmt := top 53
abbrev s_ways_home : Stmt := top 54
abbrev s_way_to_filler : Stmt := top 55
abbrev s_grown : Stmt := top 57
abbrev s_stops_of : Stmt := top 58
abbrev s_ticks_with : Stmt := top 59
abbrev s_ticks_of : Stmt := top 60
abbrev s_gain_of : Stmt := top 61
abbrev s_pays : Stmt := top 62
abbrev s_led_back : Stmt := top 64
abbrev s_round_of : Stmt := top 65
abbrev s_way_from_full : Stmt := top 66
abbrev s_gain_along : Stmt := top 67
abbrev s_rounds_walk : Stmt := top 68
abbrev s_paying_walk : Stmt := top 69
abbrev s_verdict : Stmt := top 70
abbrev s_is_verdict : Stmt := top 71
abbrev s__law_take : Stmt := top 73
abbrev s__law_some : Stmt := top 74
abbrev s__law_mixed : Stmt := top 75
abbrev s__law_full : Stmt := top 76
abbrev s__law_names : Stmt := top 77
abbrev s__law_arcs : Stmt := top 78
abbrev s__law_behind : Stmt := top 79
abbrev s__law_way_ticks : Stmt := top 80
abbrev s__law_machine : Stmt := top 81
abbrev s__law_pace : Stmt := top 82
abbrev s__law_bag : Stmt := top 83
abbrev s__law_led : Stmt := top 84
abbrev s__law_is_int : Stmt := top 85
abbrev s__law_counts : Stmt := top 86
abbrev s__law_is_arc : Stmt := top 87
abbrev s__law_is_way : Stmt := top 88
abbrev s__law_ends_at : Stmt := top 89
abbrev s__law_gain : Stmt := top 90
abbrev s__law_is_paying : Stmt := top 91
abbrev s__law_alike : Stmt := top 92
abbrev s__law_is_live : Stmt := top 93
abbrev s__law_is_state : Stmt := top 94
abbrev s__law_is_table : Stmt := top 95
abbrev s__law_is_verdict : Stmt := top 96
abbrev s__law_paced : Stmt := top 97
abbrev s__law_gains : Stmt := top 98
abbrev s__law_slow : Stmt := top 99
abbrev s__law_gain_of : Stmt := top 100
abbrev s_law : Stmt := top 101
end K79

set_option Elab.async false
set_option linter.all false
set_option maxRecDepth 100000
/-! the defs -/
namespace K79
open PySem PySem.Spec PyProof.Rows L2
def d_names_of : He.DefD := ⟨("names_of", none), "names_of", "names_of", defArgs s_names_of, defBody s_names_of, defScope s_names_of, [], []⟩
def d_machine_of : He.DefD := ⟨("machine_of", none), "machine_of", "machine_of", defArgs s_machine_of, defBody s_machine_of, defScope s_machine_of, [], []⟩
def d_time_of : He.DefD := ⟨("time_of", none), "time_of", "time_of", defArgs s_time_of, defBody s_time_of, defScope s_time_of, [], []⟩
def d_purses_of : He.DefD := ⟨("purses_of", none), "purses_of", "purses_of", defArgs s_purses_of, defBody s_purses_of, defScope s_purses_of, [], []⟩
def d_pace_of : He.DefD := ⟨("pace_of", none), "pace_of", "pace_of", defArgs s_pace_of, defBody s_pace_of, defScope s_pace_of, [], []⟩
def d_purse_places : He.DefD := ⟨("purse_places", none), "purse_places", "purse_places", defArgs s_purse_places, defBody s_purse_places, defScope s_purse_places, [], []⟩
def d_arcs_of : He.DefD := ⟨("arcs_of", none), "arcs_of", "arcs_of", defArgs s_arcs_of, defBody s_arcs_of, defScope s_arcs_of, [], []⟩
def d_start_of : He.DefD := ⟨("start_of", none), "start_of", "start_of", defArgs s_start_of, defBody s_start_of, defScope s_start_of, [], []⟩
def d_end_of : He.DefD := ⟨("end_of", none), "end_of", "end_of", defArgs s_end_of, defBody s_end_of, defScope s_end_of, [], []⟩
def d_growth_of : He.DefD := ⟨("growth_of", none), "growth_of", "growth_of", defArgs s_growth_of, defBody s_growth_of, defScope s_growth_of, [], []⟩
def d_does_end : He.DefD := ⟨("does_end", none), "does_end", "does_end", defArgs s_does_end, defBody s_does_end, defScope s_does_end, [], []⟩
def d_arcs_from : He.DefD := ⟨("arcs_from", none), "arcs_from", "arcs_from", defArgs s_arcs_from, defBody s_arcs_from, defScope s_arcs_from, [], []⟩
def d_is_integer : He.DefD := ⟨("is_integer", none), "is_integer", "is_integer", defArgs s_is_integer, defBody s_is_integer, defScope s_is_integer, [], []⟩
def d_is_count : He.DefD := ⟨("is_count", none), "is_count", "is_count", defArgs s_is_count, defBody s_is_count, defScope s_is_count, [], []⟩
def d_is_row_forms : He.DefD := ⟨("is_row_forms", none), "is_row", "is_row", defArgs s_is_row_forms, defBody s_is_row_forms, defScope s_is_row_forms, [], []⟩
def d_is_name : He.DefD := ⟨("is_name", none), "is_name", "is_name", defArgs s_is_name, defBody s_is_name, defScope s_is_name, [], []⟩
def d_is_arc : He.DefD := ⟨("is_arc", none), "is_arc", "is_arc", defArgs s_is_arc, defBody s_is_arc, defScope s_is_arc, [], []⟩
def d_still_arcs : He.DefD := ⟨("still_arcs", none), "still_arcs", "still_arcs", defArgs s_still_arcs, defBody s_still_arcs, defScope s_still_arcs, [], []⟩
def d_least_back : He.DefD := ⟨("least_back", none), "least_back", "least_back", defArgs s_least_back, defBody s_least_back, defScope s_least_back, [], []⟩
def d_dead_ring : He.DefD := ⟨("dead_ring", none), "dead_ring", "dead_ring", defArgs s_dead_ring, defBody s_dead_ring, defScope s_dead_ring, [], []⟩
def d_is_live : He.DefD := ⟨("is_live", none), "is_live", "is_live", defArgs s_is_live, defBody s_is_live, defScope s_is_live, [], []⟩
def d_full_state : He.DefD := ⟨("full_state", none), "full_state", "full_state", defArgs s_full_state, defBody s_full_state, defScope s_full_state, [], []⟩
def d_behind : He.DefD := ⟨("behind", none), "behind", "behind", defArgs s_behind, defBody s_behind, defScope s_behind, [], []⟩
def d_inner_arcs : He.DefD := ⟨("inner_arcs", none), "inner_arcs", "inner_arcs", defArgs s_inner_arcs, defBody s_inner_arcs, defScope s_inner_arcs, [], []⟩
def d_states_of : He.DefD := ⟨("states_of", none), "states_of", "states_of", defArgs s_states_of, defBody s_states_of, defScope s_states_of, [], []⟩
def d_gain_behind : He.DefD := ⟨("gain_behind", none), "gain_behind", "gain_behind", defArgs s_gain_behind, defBody s_gain_behind, defScope s_gain_behind, [], []⟩
def d_home_arc : He.DefD := ⟨("home_arc", none), "home_arc", "home_arc", defArgs s_home_arc, defBody s_home_arc, defScope s_home_arc, [], []⟩
def d_searched : He.DefD := ⟨("searched", none), "searched", "searched", defArgs s_searched, defBody s_searched, defScope s_searched, [], []⟩
def d_gains : He.DefD := ⟨("gains", none), "gains", "gains", defArgs s_gains, defBody s_gains, defScope s_gains, [], []⟩
def d_is_way : He.DefD := ⟨("is_way", none), "is_way", "is_way", defArgs s_is_way, defBody s_is_way, defScope s_is_way, [], []⟩
def d_is_walk : He.DefD := ⟨("is_walk", none), "is_walk", "is_walk", defArgs s_is_walk, defBody s_is_walk, defScope s_is_walk, [], []⟩
def d_indexes : He.DefD := ⟨("indexes", none), "indexes", "indexes", defArgs s_indexes, defBody s_indexes, defScope s_indexes, [], []⟩
def d_index_of : He.DefD := ⟨("index_of", none), "index_of", "index_of", defArgs s_index_of, defBody s_index_of, defScope s_index_of, [], []⟩
def d_ended : He.DefD := ⟨("ended", none), "ended", "ended", defArgs s_ended, defBody s_ended, defScope s_ended, [], []⟩
def d_ways_home : He.DefD := ⟨("ways_home", none), "ways_home", "ways_home", defArgs s_ways_home, defBody s_ways_home, defScope s_ways_home, [], []⟩
def d_way_to_filler : He.DefD := ⟨("way_to_filler", none), "way_to_filler", "way_to_filler", defArgs s_way_to_filler, defBody s_way_to_filler, defScope s_way_to_filler, [], []⟩
def d_grown : He.DefD := ⟨("grown", none), "grown", "grown", defArgs s_grown, defBody s_grown, defScope s_grown, [], []⟩
def d_stops_of : He.DefD := ⟨("stops_of", none), "stops_of", "stops_of", defArgs s_stops_of, defBody s_stops_of, defScope s_stops_of, [], []⟩
def d_ticks_with : He.DefD := ⟨("ticks_with", none), "ticks_with", "ticks_with", defArgs s_ticks_with, defBody s_ticks_with, defScope s_ticks_with, [], []⟩
def d_ticks_of : He.DefD := ⟨("ticks_of", none), "ticks_of", "ticks_of", defArgs s_ticks_of, defBody s_ticks_of, defScope s_ticks_of, [], []⟩
def d_gain_of : He.DefD := ⟨("gain_of", none), "gain_of", "gain_of", defArgs s_gain_of, defBody s_gain_of, defScope s_gain_of, [], []⟩
def d_pays : He.DefD := ⟨("pays", none), "pays", "pays", defArgs s_pays, defBody s_pays, defScope s_pays, [], []⟩
def d_led_back : He.DefD := ⟨("led_back", none), "led_back", "led_back", defArgs s_led_back, defBody s_led_back, defScope s_led_back, [], []⟩
def d_round_of : He.DefD := ⟨("round_of", none), "round_of", "round_of", defArgs s_round_of, defBody s_round_of, defScope s_round_of, [], []⟩
def d_way_from_full : He.DefD := ⟨("way_from_full", none), "way_from_full", "way_from_full", defArgs s_way_from_full, defBody s_way_from_full, defScope s_way_from_full, [], []⟩
def d_gain_along : He.DefD := ⟨("gain_along", none), "gain_along", "gain_along", defArgs s_gain_along, defBody s_gain_along, defScope s_gain_along, [], []⟩
def d_rounds_walk : He.DefD := ⟨("rounds_walk", none), "rounds_walk", "rounds_walk", defArgs s_rounds_walk, defBody s_rounds_walk, defScope s_rounds_walk, [], []⟩
def d_paying_walk : He.DefD := ⟨("paying_walk", none), "paying_walk", "paying_walk", defArgs s_paying_walk, defBody s_paying_walk, defScope s_paying_walk, [], []⟩
def d_verdict : He.DefD := ⟨("verdict", none), "verdict", "verdict", defArgs s_verdict, defBody s_verdict, defScope s_verdict, [], []⟩
def d_is_verdict : He.DefD := ⟨("is_verdict", none), "is_verdict", "is_verdict", defArgs s_is_verdict, defBody s_is_verdict, defScope s_is_verdict, [], []⟩
def d__law_take : He.DefD := ⟨("_law_take", none), "_law_take", "_law_take", defArgs s__law_take, defBody s__law_take, defScope s__law_take, [], []⟩
def d__law_some : He.DefD := ⟨("_law_some", none), "_law_some", "_law_some", defArgs s__law_some, defBody s__law_some, defScope s__law_some, [], []⟩
def d__law_mixed : He.DefD := ⟨("_law_mixed", none), "_law_mixed", "_law_mixed", defArgs s__law_mixed, defBody s__law_mixed, defScope s__law_mixed, [], []⟩
def d__law_full : He.DefD := ⟨("_law_full", none), "_law_full", "_law_full", defArgs s__law_full, defBody s__law_full, defScope s__law_full, [], []⟩
def d__law_names : He.DefD := ⟨("_law_names", none), "_law_names", "_law_names", defArgs s__law_names, defBody s__law_names, defScope s__law_names, [], []⟩
def d__law_arcs : He.DefD := ⟨("_law_arcs", none), "_law_arcs", "_law_arcs", defArgs s__law_arcs, defBody s__law_arcs, defScope s__law_arcs, [], []⟩
def d__law_behind : He.DefD := ⟨("_law_behind", none), "_law_behind", "_law_behind", defArgs s__law_behind, defBody s__law_behind, defScope s__law_behind, [], []⟩
def d__law_way_ticks : He.DefD := ⟨("_law_way_ticks", none), "_law_way_ticks", "_law_way_ticks", defArgs s__law_way_ticks, defBody s__law_way_ticks, defScope s__law_way_ticks, [], []⟩
def d__law_machine : He.DefD := ⟨("_law_machine", none), "_law_machine", "_law_machine", defArgs s__law_machine, defBody s__law_machine, defScope s__law_machine, [], []⟩
def d__law_pace : He.DefD := ⟨("_law_pace", none), "_law_pace", "_law_pace", defArgs s__law_pace, defBody s__law_pace, defScope s__law_pace, [], []⟩
def d__law_bag : He.DefD := ⟨("_law_bag", none), "_law_bag", "_law_bag", defArgs s__law_bag, defBody s__law_bag, defScope s__law_bag, [], []⟩
def d__law_led : He.DefD := ⟨("_law_led", none), "_law_led", "_law_led", defArgs s__law_led, defBody s__law_led, defScope s__law_led, [], []⟩
def d__law_is_int : He.DefD := ⟨("_law_is_int", none), "_law_is_int", "_law_is_int", defArgs s__law_is_int, defBody s__law_is_int, defScope s__law_is_int, [], []⟩
def d__law_counts : He.DefD := ⟨("_law_counts", none), "_law_counts", "_law_counts", defArgs s__law_counts, defBody s__law_counts, defScope s__law_counts, [], []⟩
def d__law_is_arc : He.DefD := ⟨("_law_is_arc", none), "_law_is_arc", "_law_is_arc", defArgs s__law_is_arc, defBody s__law_is_arc, defScope s__law_is_arc, [], []⟩
def d__law_is_way : He.DefD := ⟨("_law_is_way", none), "_law_is_way", "_law_is_way", defArgs s__law_is_way, defBody s__law_is_way, defScope s__law_is_way, [], []⟩
def d__law_ends_at : He.DefD := ⟨("_law_ends_at", none), "_law_ends_at", "_law_ends_at", defArgs s__law_ends_at, defBody s__law_ends_at, defScope s__law_ends_at, [], []⟩
def d__law_gain : He.DefD := ⟨("_law_gain", none), "_law_gain", "_law_gain", defArgs s__law_gain, defBody s__law_gain, defScope s__law_gain, [], []⟩
def d__law_is_paying : He.DefD := ⟨("_law_is_paying", none), "_law_is_paying", "_law_is_paying", defArgs s__law_is_paying, defBody s__law_is_paying, defScope s__law_is_paying, [], []⟩
def d__law_alike : He.DefD := ⟨("_law_alike", none), "_law_alike", "_law_alike", defArgs s__law_alike, defBody s__law_alike, defScope s__law_alike, [], []⟩
def d__law_is_live : He.DefD := ⟨("_law_is_live", none), "_law_is_live", "_law_is_live", defArgs s__law_is_live, defBody s__law_is_live, defScope s__law_is_live, [], []⟩
def d__law_is_state : He.DefD := ⟨("_law_is_state", none), "_law_is_state", "_law_is_state", defArgs s__law_is_state, defBody s__law_is_state, defScope s__law_is_state, [], []⟩
def d__law_is_table : He.DefD := ⟨("_law_is_table", none), "_law_is_table", "_law_is_table", defArgs s__law_is_table, defBody s__law_is_table, defScope s__law_is_table, [], []⟩
def d__law_is_verdict : He.DefD := ⟨("_law_is_verdict", none), "_law_is_verdict", "_law_is_verdict", defArgs s__law_is_verdict, defBody s__law_is_verdict, defScope s__law_is_verdict, [], []⟩
def d__law_paced : He.DefD := ⟨("_law_paced", none), "_law_paced", "_law_paced", defArgs s__law_paced, defBody s__law_paced, defScope s__law_paced, [], []⟩
def d__law_gains : He.DefD := ⟨("_law_gains", none), "_law_gains", "_law_gains", defArgs s__law_gains, defBody s__law_gains, defScope s__law_gains, [], []⟩
def d__law_slow : He.DefD := ⟨("_law_slow", none), "_law_slow", "_law_slow", defArgs s__law_slow, defBody s__law_slow, defScope s__law_slow, [], []⟩
def d__law_gain_of : He.DefD := ⟨("_law_gain_of", none), "_law_gain_of", "_law_gain_of", defArgs s__law_gain_of, defBody s__law_gain_of, defScope s__law_gain_of, [], []⟩
def d_law : He.DefD := ⟨("law", none), "law", "law", defArgs s_law, defBody s_law, defScope s_law, [], []⟩
end K79

set_option Elab.async false
set_option linter.all false
set_option maxRecDepth 100000
set_option maxHeartbeats 0
/-! the head: what the top leaves, by names -/
namespace K79
open PySem PySem.Spec PyProof.Rows L2
def fnList : List He.DefD := [d_names_of, d_machine_of, d_time_of, d_purses_of, d_pace_of, d_purse_places, d_arcs_of, d_start_of, d_end_of, d_growth_of, d_does_end, d_arcs_from, d_is_integer, d_is_count, d_is_row_forms, d_is_name, d_is_arc, d_still_arcs, d_least_back, d_dead_ring, d_is_live, d_full_state, d_behind, d_inner_arcs, d_states_of, d_gain_behind, d_home_arc, d_searched, d_gains, d_is_way, d_is_walk, d_indexes, d_index_of, d_ended, d_ways_home, d_way_to_filler, d_grown, d_stops_of, d_ticks_with, d_ticks_of, d_gain_of, d_pays, d_led_back, d_round_of, d_way_from_full, d_gain_along, d_rounds_walk, d_paying_walk, d_verdict, d_is_verdict, d__law_take, d__law_some, d__law_mixed, d__law_full, d__law_names, d__law_arcs, d__law_behind, d__law_way_ticks, d__law_machine, d__law_pace, d__law_bag, d__law_led, d__law_is_int, d__law_counts, d__law_is_arc, d__law_is_way, d__law_ends_at, d__law_gain, d__law_is_paying, d__law_alike, d__law_is_live, d__law_is_state, d__law_is_table, d__law_is_verdict, d__law_paced, d__law_gains, d__law_slow, d__law_gain_of, d_law]
def faList : List He.Fa := [.glo "names_of", .glo "machine_of", .glo "time_of", .glo "purses_of", .glo "pace_of", .glo "purse_places", .glo "arcs_of", .glo "start_of", .glo "end_of", .glo "growth_of", .glo "does_end", .glo "arcs_from", .glo "is_integer", .glo "is_count", .glo "is_row_forms", .glo "is_name", .glo "is_arc", .glo "still_arcs", .glo "least_back", .glo "dead_ring", .glo "is_live", .glo "full_state", .glo "behind", .glo "inner_arcs", .glo "states_of", .glo "gain_behind", .glo "home_arc", .glo "searched", .glo "gains", .glo "is_way", .glo "is_walk", .glo "indexes", .glo "index_of", .glo "ended", .glo "ways_home", .glo "way_to_filler", .glo "grown", .glo "stops_of", .glo "ticks_with", .glo "ticks_of", .glo "gain_of", .glo "pays", .glo "led_back", .glo "round_of", .glo "way_from_full", .glo "gain_along", .glo "rounds_walk", .glo "paying_walk", .glo "verdict", .glo "is_verdict", .glo "_law_take", .glo "_law_some", .glo "_law_mixed", .glo "_law_full", .glo "_law_names", .glo "_law_arcs", .glo "_law_behind", .glo "_law_way_ticks", .glo "_law_machine", .glo "_law_pace", .glo "_law_bag", .glo "_law_led", .glo "_law_is_int", .glo "_law_counts", .glo "_law_is_arc", .glo "_law_is_way", .glo "_law_ends_at", .glo "_law_gain", .glo "_law_is_paying", .glo "_law_alike", .glo "_law_is_live", .glo "_law_is_state", .glo "_law_is_table", .glo "_law_is_verdict", .glo "_law_paced", .glo "_law_gains", .glo "_law_slow", .glo "_law_gain_of", .glo "law", .free "len", .free "range", .free "tuple", .free "list", .free "int", .free "str", .free "bool", .free "dict", .free "isinstance", .free "sum", .free "min", .free "max", .free "sorted", .free "all", .free "any", .free "zip", .free "enumerate", .free "abs", .free "repr", .int "MOST_STATES" 20000, .str "LETTERS" "abcdefghijklmnopqrstuvwxyz"]
abbrev R : PySem.W.OpenRow := PySem.W.OpenLaw.row PySem.Challenge.rw_fillerfed_k79_whole_long_walks_and_great
abbrev hk : PySem.W.Hook := He.hookD 2 faList fnList
def ob (s : PySem.W.SharedT) : He.AlD := He.obsDG 2 faList fnList (HandSHeadRun.getT s)
theorem ob_eq (s : PySem.W.SharedT) : ob s = hk.obs s.abs := He.obsDG_eq (HandSHeadRun.getT_eq s)
def loose0 : List PySem.Str := ["HallError", "Dead", "NoMachine", "TooMany", "names_of", "machine_of", "time_of", "purses_of", "pace_of", "purse_places", "arcs_of", "start_of"]
def loose1 : List PySem.Str := ["end_of", "growth_of", "does_end", "arcs_from", "LETTERS", "is_integer", "is_count", "is_row", "is_row_forms", "is_name", "is_arc", "still_arcs"]
def loose2 : List PySem.Str := ["least_back", "dead_ring", "is_live", "MOST_STATES", "is_row_states", "is_state", "full_state", "behind", "inner_arcs", "states_of", "gain_behind", "is_kept"]
def loose3 : List PySem.Str := ["is_table", "home_arc", "searched", "gains", "is_way", "is_walk", "indexes", "index_of", "ended", "ways_home", "way_to_filler", "grown"]
def loose4 : List PySem.Str := ["stops_of", "ticks_with", "ticks_of", "gain_of", "pays", "led_back", "round_of", "way_from_full", "gain_along", "rounds_walk", "paying_walk", "verdict"]
def loose5 : List PySem.Str := ["is_verdict", "_law_take", "_law_some", "_law_mixed", "_law_full", "_law_names", "_law_arcs", "_law_behind", "_law_way_ticks", "_law_machine", "_law_pace", "_law_bag"]
def loose6 : List PySem.Str := ["_law_led", "_law_is_int", "_law_counts", "_law_is_arc", "_law_is_way", "_law_ends_at", "_law_gain", "_law_is_paying", "_law_alike", "_law_is_live", "_law_is_state", "_law_is_table"]
def loose7 : List PySem.Str := ["_law_is_verdict", "_law_paced", "_law_gains", "_law_slow", "_law_gain_of"]
def loose : List PySem.Str := loose0 ++ loose1 ++ loose2 ++ loose3 ++ loose4 ++ loose5 ++ loose6 ++ loose7
theorem run (w : World) : HandSHeadRun.RunEq R (PySem.W.view R.prog [101]) hk ob 4000 loose w := by
  intro os
  kernel_rfl
end K79

set_option Elab.async false
set_option linter.all false
set_option maxRecDepth 100000
set_option maxHeartbeats 2000000
/-! Data on the abstract heap: tuples, lists, dicts with nested tuple keys; what the model does with such dicts -/
namespace K79
open PySem PySem.Spec PyProof.Rows L2

/-- H' holds what H holds -/
def Ex (H H' : Hp) : Prop := ∀ (at_ : Addr) (it : HO), H at_ = some it → H' at_ = some it
theorem Ex.rfl' {H : Hp} : Ex H H := fun _ _ h => h
theorem Ex.trans {H H1 H2 : Hp} (one : Ex H H1) (two : Ex H1 H2) : Ex H H2 := fun at_ it held => two at_ it (one at_ it held)
theorem Ex.new {H : Hp} {p : Addr} {o : HO} (free : H p = none) : Ex H (upd H p o) := fun at_ it held => (upd_ne (ne_of_none held free)).trans held
theorem Ex.back {H H' : Hp} {p : Addr} (e : Ex H H') (h : H' p = none) : H p = none := by
  cases q : H p with
  | none => rfl
  | some o => rw [e p o q] at h; cases h

/-- the object o stands at a -/
def dob (a : Addr) (o : Obj) : HO := .ext fun h => h.get? a = some o
abbrev Ent := NestedKey × Addr × Value
/-- a table with nested keys, with text keys -/
abbrev Tab := List (NestedKey × PyData)
abbrev STab := List (Str × PyData)
def tabD (t : Tab) : PyData := .dict (t.map fun p => (p.1.data, p.2))
/-- marked by a first pair, to be told from the other kind -/
def stabD (t : STab) : PyData := .dict ((.bool true, .none) :: t.map fun p => (.str p.1, p.2))
/-- the list at a is a bag of the law's draws: three ints, the list at q -/
def bagO (a q : Addr) : HO := .ext fun h => ∃ (i j k : Int) (its : List Value) (n : Nat), Vals [.int i, .int j, .int k, .ref q] its ∧ h.get? a = some { cls := .type "list", data := .seq its.toArray n }
/-- marked, to be told from tables -/
def bagD : PyData := .dict [(.bool false, .none)]
/-- o is a dict of these entries -/
structure NObj (P : Program) (w : World) (a : Addr) (o : Obj) (xs : List Ent) : Prop where
  ex : o.ExactDict
  dat : ∃ es ep, o.data = .dict es ep ∧ es.toList = xs.map (entryOfKey (nestedKind P w))
  nd : (xs.map (·.1)).Nodup
  le : xs.length ≤ sizeLine
  low : (a == sysModules) = false

mutual
inductive Dr (P : Program) (w : World) (H : Hp) : V → PyData → Prop
  | non : Dr P w H .non .none
  | bl (b : Bool) : Dr P w H (.bl b) (.bool b)
  | int (i : Int) : Dr P w H (.int i) (.int i)
  | str (x : Str) : Dr P w H (.str x) (.str x)
  | lst {a : Addr} {xs : List V} {ds : List PyData} : H a = some (.lst xs) → DrA P w H xs ds → Dr P w H (.ref a) (.list ds)
  | tup {a : Addr} {xs : List V} {ds : List PyData} : H a = some (.tup xs) → DrA P w H xs ds → Dr P w H (.ref a) (.tuple ds)
  | dic {a : Addr} {o : Obj} {xs : List Ent} {t : Tab} : H a = some (dob a o) → NObj P w a o xs → DrK P w H xs t → Dr P w H (.ref a) (tabD t)
  | dks {a : Addr} {ks : List (Key × V)} {t : STab} : H a = some (.dK ks) → DrS P w H ks t → Dr P w H (.ref a) (stabD t)
  | bag {a q : Addr} {ns : List Int} : H a = some (bagO a q) → H q = some (.lst (ns.map V.int)) → ns.length ≤ 1000 → Dr P w H (.ref a) bagD
inductive DrA (P : Program) (w : World) (H : Hp) : List V → List PyData → Prop
  | nil : DrA P w H [] []
  | cons {v : V} {vs : List V} {d : PyData} {ds : List PyData} : Dr P w H v d → DrA P w H vs ds → DrA P w H (v :: vs) (d :: ds)
inductive DrK (P : Program) (w : World) (H : Hp) : List Ent → Tab → Prop
  | nil : DrK P w H [] []
  | cons {k : NestedKey} {a : Addr} {u : Value} {v : V} {d : PyData} {xs : List Ent} {t : Tab} : Dr P w H (.ref a) k.data → k.depth ≤ 8 → RelV v u → Dr P w H v d → DrK P w H xs t →
      DrK P w H ((k, a, u) :: xs) ((k, d) :: t)
inductive DrS (P : Program) (w : World) (H : Hp) : List (Key × V) → STab → Prop
  | nil : DrS P w H [] []
  | cons {x : Str} {v : V} {d : PyData} {ks : List (Key × V)} {t : STab} : Dr P w H v d → DrS P w H ks t → DrS P w H ((Sum.inr x, v) :: ks) ((x, d) :: t)
end

section
variable {P : Program} {w : World} {H H' : Hp}
mutual
theorem Dr.mono (e : Ex H H') : ∀ {v : V} {d : PyData}, Dr P w H v d → Dr P w H' v d
  | _, _, .non => .non
  | _, _, .bl b => .bl b
  | _, _, .int i => .int i
  | _, _, .str x => .str x
  | _, _, .lst h r => .lst (e _ _ h) (r.mono e)
  | _, _, .tup h r => .tup (e _ _ h) (r.mono e)
  | _, _, .dic h n r => .dic (e _ _ h) n (r.mono e)
  | _, _, .dks h r => .dks (e _ _ h) (r.mono e)
  | _, _, .bag h r l => .bag (e _ _ h) (e _ _ r) l
theorem DrA.mono (e : Ex H H') : ∀ {vs : List V} {ds : List PyData}, DrA P w H vs ds → DrA P w H' vs ds
  | _, _, .nil => .nil
  | _, _, .cons h r => .cons (h.mono e) (r.mono e)
theorem DrK.mono (e : Ex H H') : ∀ {xs : List Ent} {t : Tab}, DrK P w H xs t → DrK P w H' xs t
  | _, _, .nil => .nil
  | _, _, .cons hk hz hr hv r => .cons (hk.mono e) hz hr (hv.mono e) (r.mono e)
theorem DrS.mono (e : Ex H H') : ∀ {xs : List (Key × V)} {t : STab}, DrS P w H xs t → DrS P w H' xs t
  | _, _, .nil => .nil
  | _, _, .cons h r => .cons (h.mono e) (r.mono e)
end
theorem DrA.length : ∀ {vs : List V} {ds : List PyData}, DrA P w H vs ds → vs.length = ds.length
  | _, _, .nil => rfl
  | _, _, .cons _ r => congrArg (· + 1) r.length
theorem DrA.get : ∀ {vs : List V} {ds : List PyData} {i : Nat} {d : PyData}, DrA P w H vs ds → ds[i]? = some d → ∃ v, vs[i]? = some v ∧ Dr P w H v d
  | _, _, 0, _, .cons h _, e => by simp at e; subst e; exact ⟨_, rfl, h⟩
  | _, _, i + 1, _, .cons _ r, e => by
    obtain ⟨v, h1, h2⟩ := r.get (i := i) (by simpa using e)
    exact ⟨v, by simpa using h1, h2⟩
theorem DrA.getV : ∀ {vs : List V} {ds : List PyData} {i : Nat} {v : V}, DrA P w H vs ds → vs[i]? = some v → ∃ d, ds[i]? = some d ∧ Dr P w H v d
  | _, _, 0, _, .cons h _, e => by simp at e; subst e; exact ⟨_, rfl, h⟩
  | _, _, i + 1, _, .cons _ r, e => by
    obtain ⟨v, h1, h2⟩ := r.getV (i := i) (by simpa using e)
    exact ⟨v, by simpa using h1, h2⟩
theorem DrA.append : ∀ {vs us : List V} {ds es : List PyData}, DrA P w H vs ds → DrA P w H us es → DrA P w H (vs ++ us) (ds ++ es)
  | _, _, _, _, .nil, q => q
  | _, _, _, _, .cons h r, q => .cons h (r.append q)
theorem DrA.take : ∀ {vs : List V} {ds : List PyData} (n : Nat), DrA P w H vs ds → DrA P w H (vs.take n) (ds.take n)
  | _, _, 0, _ => by simp; exact .nil
  | _, _, n + 1, .nil => by simp; exact .nil
  | _, _, n + 1, .cons h r => by simp only [List.take_succ_cons]; exact .cons h (r.take n)
theorem DrA.drop : ∀ {vs : List V} {ds : List PyData} (n : Nat), DrA P w H vs ds → DrA P w H (vs.drop n) (ds.drop n)
  | _, _, 0, q => by simpa using q
  | _, _, n + 1, .nil => by simp; exact .nil
  | _, _, n + 1, .cons h r => by simp only [List.drop_succ_cons]; exact r.drop n
theorem DrA.reverse : ∀ {vs : List V} {ds : List PyData}, DrA P w H vs ds → DrA P w H vs.reverse ds.reverse
  | _, _, .nil => .nil
  | _, _, .cons h r => by
    rw [List.reverse_cons, List.reverse_cons]
    exact r.reverse.append (.cons h .nil)
theorem DrA.set {v : V} {d : PyData} (h : Dr P w H v d) : ∀ {vs : List V} {ds : List PyData} (n : Nat), DrA P w H vs ds → DrA P w H (vs.set n v) (ds.set n d)
  | _, _, _, .nil => .nil
  | _, _, 0, .cons _ r => .cons h r
  | _, _, n + 1, .cons q r => .cons q (r.set h n)
theorem DrA.flatRep {vs : List V} {ds : List PyData} (h : DrA P w H vs ds) : ∀ k : Nat, DrA P w H (List.replicate k vs).flatten (List.replicate k ds).flatten
  | 0 => .nil
  | k + 1 => by
    rw [List.replicate_succ, List.flatten_cons, List.replicate_succ, List.flatten_cons]
    exact h.append (h.flatRep k)

/-! a dict-free datum is the library's -/
mutual
theorem Dr.dp {K : PySem.W.Frag} : ∀ {v : V} {d : PyData}, Dr P w H v d → d.plain = true → Dp K H v d
  | _, _, .non, _ => .non
  | _, _, .bl b, _ => .bl b
  | _, _, .int i, _ => .int i
  | _, _, .str x, _ => .str x
  | _, _, .lst h r, q => .lst (.of h) (r.dp (by simpa [PyData.plain] using q))
  | _, _, .tup h r, q => .tup (.of h) (r.dp (by simpa [PyData.plain] using q))
  | _, _, .dic h n r, q => by simp [tabD, PyData.plain] at q
  | _, _, .dks h r, q => by simp [stabD, PyData.plain] at q
  | _, _, .bag h r l, q => by simp [bagD, PyData.plain] at q
theorem DrA.dp {K : PySem.W.Frag} : ∀ {vs : List V} {ds : List PyData}, DrA P w H vs ds → PyData.plainAll ds = true → DpAll K H vs ds
  | _, _, .nil, _ => .nil
  | _, _, .cons h r, q => by
    rw [PyData.plainAll, Bool.and_eq_true] at q
    exact .cons (h.dp q.1) (r.dp q.2)
end
/-! a nested key of data -/
mutual
theorem Dr.nest {h : Heap} (ok : HOk P w H h) : ∀ (k : NestedKey) (v : V) (u : Value), Dr P w H v k.data → RelV v u → NestedIs h k u
  | .none, _, _, r, q => by
    cases (show Dr P w H _ PyData.none from r)
    cases q
    exact .none
  | .num i, _, _, r, q => by
    cases (show Dr P w H _ (PyData.int i) from r)
    obtain ⟨t, rfl⟩ := q
    exact .int i t
  | .text x, _, _, r, q => by
    cases (show Dr P w H _ (PyData.str x) from r)
    obtain ⟨t, rfl⟩ := q
    exact .text x t
  | .tup ks, _, _, r, q => by
    cases (show Dr P w H _ (PyData.tuple (NestedKey.datas ks)) from r) with
    | @tup a xs _ e ra =>
      obtain rfl := (show _ = Value.ref a from q)
      obtain ⟨_, its, rv, o, ho, hc, n, hd⟩ := (show ObjOk P w H h a (.tup xs) from ok a _ e)
      exact .tup ho hc hd (by simpa using DrA.nest ok ks xs its ra rv)
theorem DrA.nest {h : Heap} (ok : HOk P w H h) : ∀ (ks : List NestedKey) (vs : List V) (us : List Value), DrA P w H vs (NestedKey.datas ks) → Vals vs us → NestedAll h ks us
  | [], _, _, r, q => by
    cases (show DrA P w H _ [] from r)
    cases q
    exact .nil
  | k :: ks, _, _, r, q => by
    cases (show DrA P w H _ (k.data :: NestedKey.datas ks) from r) with
    | cons hk rk =>
      cases q with
      | cons a b => exact .cons (Dr.nest ok k _ _ hk a) (DrA.nest ok ks _ _ rk b)
end
mutual
theorem data_inj : ∀ (a b : NestedKey), a.data = b.data → a = b
  | .none, .none, _ => rfl
  | .num i, .num j, e => by simp only [NestedKey.data, PyData.int.injEq] at e; rw [e]
  | .text x, .text y, e => by simp only [NestedKey.data, PyData.str.injEq] at e; rw [e]
  | .tup xs, .tup ys, e => by simp only [NestedKey.data, PyData.tuple.injEq] at e; rw [datas_inj xs ys e]
  | .none, .num _, e => by simp [NestedKey.data] at e
  | .none, .text _, e => by simp [NestedKey.data] at e
  | .none, .tup _, e => by simp [NestedKey.data] at e
  | .num _, .none, e => by simp [NestedKey.data] at e
  | .num _, .text _, e => by simp [NestedKey.data] at e
  | .num _, .tup _, e => by simp [NestedKey.data] at e
  | .text _, .none, e => by simp [NestedKey.data] at e
  | .text _, .num _, e => by simp [NestedKey.data] at e
  | .text _, .tup _, e => by simp [NestedKey.data] at e
  | .tup _, .none, e => by simp [NestedKey.data] at e
  | .tup _, .num _, e => by simp [NestedKey.data] at e
  | .tup _, .text _, e => by simp [NestedKey.data] at e
theorem datas_inj : ∀ (a b : List NestedKey), NestedKey.datas a = NestedKey.datas b → a = b
  | [], [], _ => rfl
  | x :: xs, y :: ys, e => by
    simp only [NestedKey.datas, List.cons.injEq] at e
    rw [data_inj x y e.1, datas_inj xs ys e.2]
  | [], _ :: _, e => by simp [NestedKey.datas] at e
  | _ :: _, [], e => by simp [NestedKey.datas] at e
end
end

theorem tab_inj : ∀ {a b : Tab}, a.map (fun p => (p.1.data, p.2)) = b.map (fun p => (p.1.data, p.2)) → a = b
  | [], [], _ => rfl
  | [], _ :: _, e => by simp at e
  | _ :: _, [], e => by simp at e
  | (k, d) :: a, (k', d') :: b, e => by
    simp only [List.map_cons, List.cons.injEq, Prod.mk.injEq] at e
    rw [data_inj k k' e.1.1, e.1.2, tab_inj e.2]
theorem stab_inj : ∀ {a b : STab}, a.map (fun p => (PyData.str p.1, p.2)) = b.map (fun p => (PyData.str p.1, p.2)) → a = b
  | [], [], _ => rfl
  | [], _ :: _, e => by simp at e
  | _ :: _, [], e => by simp at e
  | (k, d) :: a, (k', d') :: b, e => by
    simp only [List.map_cons, List.cons.injEq, Prod.mk.injEq, PyData.str.injEq] at e
    rw [e.1.1, e.1.2, stab_inj e.2]
theorem Dr.tab {P : Program} {w : World} {H : Hp} {v : V} {t : Tab} (h : Dr P w H v (tabD t)) : ∃ a o xs, v = .ref a ∧ H a = some (dob a o) ∧ NObj P w a o xs ∧ DrK P w H xs t := by
  generalize e : tabD t = d at h
  cases h with
  | @dic a o xs t' h1 h2 h3 =>
    have := tab_inj (PyData.dict.inj e)
    subst this
    exact ⟨a, o, xs, rfl, h1, h2, h3⟩
  | @dks a ks t' h1 h2 =>
    exfalso
    have e1 := PyData.dict.inj e
    cases t with
    | nil => simp at e1
    | cons p r =>
      simp only [List.map_cons, List.cons.injEq, Prod.mk.injEq] at e1
      obtain ⟨k, x⟩ := p
      cases k <;> simp [NestedKey.data] at e1
  | @bag a q ns h1 h2 h3 =>
    exfalso
    have e1 := PyData.dict.inj e
    cases t with
    | nil => simp at e1
    | cons p r =>
      simp only [List.map_cons, List.cons.injEq, Prod.mk.injEq] at e1
      obtain ⟨k, x⟩ := p
      cases k <;> simp [NestedKey.data] at e1
  | _ => simp [tabD] at e
theorem Dr.stab {P : Program} {w : World} {H : Hp} {v : V} {t : STab} (h : Dr P w H v (stabD t)) : ∃ a ks, v = .ref a ∧ H a = some (.dK ks) ∧ DrS P w H ks t := by
  generalize e : stabD t = d at h
  cases h with
  | @dic a o xs t' h1 h2 h3 =>
    exfalso
    have e1 := PyData.dict.inj e
    cases t' with
    | nil => simp at e1
    | cons p r =>
      obtain ⟨k, x⟩ := p
      cases k <;> simp [NestedKey.data] at e1
  | @dks a ks t' h1 h2 =>
    have e1 := PyData.dict.inj e
    have e2 := stab_inj (List.cons.inj e1).2
    subst e2
    exact ⟨a, ks, rfl, h1, h2⟩
  | @bag a q ns h1 h2 h3 =>
    exfalso
    have e1 := PyData.dict.inj e
    simp at e1
  | _ => simp [stabD] at e
/-! ### tables -/
section
variable {κ α : Type} [DecidableEq κ]
def tget (t : List (κ × α)) (k : κ) : Option α := (t.find? fun p => decide (p.1 = k)).map (·.2)
def tput (t : List (κ × α)) (k : κ) (d : α) : List (κ × α) := if (tget t k).isSome then t.map (fun p => if p.1 = k then (p.1, d) else p) else t ++ [(k, d)]
theorem tget_nil {k : κ} : tget ([] : List (κ × α)) k = none := rfl
theorem tget_cons {p : κ × α} {t : List (κ × α)} {k : κ} : tget (p :: t) k = if p.1 = k then some p.2 else tget t k := by
  unfold tget
  rw [List.find?_cons]
  by_cases h : p.1 = k
  · rw [if_pos h, decide_eq_true h]; rfl
  · rw [if_neg h, decide_eq_false h]
theorem tput_new {t : List (κ × α)} {k : κ} {d : α} (h : tget t k = none) : tput t k d = t ++ [(k, d)] := by simp [tput, h]
theorem tput_length (t : List (κ × α)) (k : κ) (d : α) : (tput t k d).length ≤ t.length + 1 := by
  unfold tput
  split <;> simp
end
section
variable {P : Program} {w : World} {H : Hp}
theorem DrK.get {k : NestedKey} : ∀ {xs : List Ent} {t : Tab}, DrK P w H xs t → (∃ d, tget t k = some d) → ∃ a u v d, atKey xs k = some (a, u) ∧ tget t k = some d ∧ RelV v u ∧ Dr P w H v d
  | _, _, .nil, ⟨d, e⟩ => nomatch e
  | _, _, @DrK.cons _ _ _ k' a u v d xs t hk hz hr hv r, ⟨d', e⟩ => by
    by_cases q : k' = k
    · exact ⟨a, u, v, d, by simp [atKey, q], by rw [tget_cons, if_pos q], hr, hv⟩
    · rw [tget_cons, if_neg q] at e
      obtain ⟨a', u', v', d'', h1, h2, h3⟩ := r.get (k := k) ⟨_, e⟩
      refine ⟨a', u', v', d'', ?_, by rw [tget_cons, if_neg q]; exact h2, h3⟩
      rw [← h1]; unfold atKey; rw [List.find?_cons, decide_eq_false q]
theorem DrK.some_iff {k : NestedKey} : ∀ {xs : List Ent} {t : Tab}, DrK P w H xs t → (atKey xs k).isSome = (tget t k).isSome
  | _, _, .nil => rfl
  | _, _, @DrK.cons _ _ _ k' a u v d xs t hk hz hr hv r => by
    by_cases q : k' = k
    · rw [tget_cons, if_pos q]; simp [atKey, q]
    · rw [tget_cons, if_neg q, ← r.some_iff]
      unfold atKey; rw [List.find?_cons, decide_eq_false q]
theorem DrK.keys : ∀ {xs : List Ent} {t : Tab}, DrK P w H xs t → xs.map (·.1) = t.map (·.1)
  | _, _, .nil => rfl
  | _, _, .cons _ _ _ _ r => by rw [List.map_cons, List.map_cons, r.keys]
theorem DrK.length {xs : List Ent} {t : Tab} (h : DrK P w H xs t) : xs.length = t.length := by
  have := congrArg List.length h.keys
  simpa using this
theorem DrK.snoc {k : NestedKey} {a : Addr} {u : Value} {v : V} {d : PyData} (hk : Dr P w H (.ref a) k.data) (hz : k.depth ≤ 8) (hr : RelV v u) (hv : Dr P w H v d) : ∀ {xs : List Ent} {t : Tab}, DrK P w H xs t → DrK P w H (xs ++ [(k, a, u)]) (t ++ [(k, d)])
  | _, _, .nil => .cons hk hz hr hv .nil
  | _, _, .cons a b c d r => .cons a b c d (r.snoc hk hz hr hv)
theorem DrK.repl {k : NestedKey} {u : Value} {v : V} {d : PyData} (hr : RelV v u) (hv : Dr P w H v d) : ∀ {xs : List Ent} {t : Tab}, DrK P w H xs t → DrK P w H (xs.map (putAt k u)) (t.map fun p => if p.1 = k then (p.1, d) else p)
  | _, _, .nil => .nil
  | _, _, @DrK.cons _ _ _ k' a u' v' d' xs t hk hz hr' hv' r => by
    rw [List.map_cons, List.map_cons]
    by_cases q : k' = k
    · have e1 : putAt k u (k', a, u') = (k', a, u) := by simp [putAt, q]
      rw [e1, if_pos q]
      exact .cons hk hz hr hv (r.repl hr hv)
    · have e1 : putAt k u (k', a, u') = (k', a, u') := by simp [putAt, q]
      rw [e1, if_neg q]
      exact .cons hk hz hr' hv' (r.repl hr hv)
theorem DrK.put {k : NestedKey} {a : Addr} {u : Value} {v : V} {d : PyData} (hk : Dr P w H (.ref a) k.data) (hz : k.depth ≤ 8) (hr : RelV v u) (hv : Dr P w H v d) {xs : List Ent} {t : Tab} (r : DrK P w H xs t) : DrK P w H (storedH xs k a u) (tput t k d) := by
  unfold storedH tput
  rw [r.some_iff]
  split
  · exact r.repl hr hv
  · exact r.snoc hk hz hr hv
theorem DrK.all_is {h : Heap} {Hd : Hp} (ok : HOk P w H h) (ex : Ex Hd H) : ∀ {xs : List Ent} {t : Tab}, DrK P w Hd xs t → ∀ x ∈ xs, (nestedKind P w).is h x.1 x.2.1
  | _, _, .nil => fun x hx => nomatch hx
  | _, _, .cons hk hz hr hv r => fun x hx => by
    rcases List.mem_cons.mp hx with e | hx
    · subst e
      exact ⟨Dr.nest ok _ _ _ (hk.mono ex) rfl, hz⟩
    · exact r.all_is ok ex x hx
end

/-! ### what the model does -/
section
variable {X : Cx} {pins : List (Addr × Obj)} {σ : L2.St} {H Hd : Hp} {s : Shared} {a b : Addr} {o : Obj} {xs : List Ent} {t : Tab} {k : NestedKey} {A : Around} {E : Value → Shared → Prop}
theorem dob_get (I : Inv X pins σ H s) (e : H a = some (dob a o)) : s.heap.get? a = some o := (show ObjOk X.prog X.w H s.heap a (dob a o) from I.hok a _ e).1
theorem nd_of (I : Inv X pins σ H s) (e : H a = some (dob a o)) (N : NObj X.prog X.w a o xs) (r : DrK X.prog X.w Hd xs t) (ex : Ex Hd H) : s.heap.DictOfH (nestedKind X.prog X.w) a xs := by
  obtain ⟨es, ep, h1, h2⟩ := N.dat
  exact ⟨o, es, ep, dob_get I e, N.ex, h1, h2, r.all_is I.hok ex, N.nd⟩
theorem key_is (I : Inv X pins σ H s) (hk : Dr X.prog X.w H (.ref b) k.data) (hz : k.depth ≤ 8) : (nestedKind X.prog X.w).is s.heap k b := ⟨Dr.nest I.hok _ _ _ hk rfl, hz⟩
theorem roomN (hu : A.units + 16 < cLine) : (nestedKind X.prog X.w).room A.in1 := by
  show A.units + 1 + 8 < cLine
  omega
/-- d[k], there -/
theorem n_get {d : PyData} {Q : Value → Shared → Prop} (hu : A.units + 16 < cLine) (I : Inv X pins σ H s) (e : H a = some (dob a o)) (N : NObj X.prog X.w a o xs) (r : DrK X.prog X.w Hd xs t) (ex : Ex Hd H)
    (hk : Dr X.prog X.w H (.ref b) k.data) (hz : k.depth ≤ 8) (hg : tget t k = some d) (h : ∀ v u s', Inv X pins σ H s' → RelV v u → Dr X.prog X.w Hd v d → Q u s') :
    wpAny (model X.prog X.w) A (getItem (.ref a) (.ref b)) Q E s := by
  obtain ⟨a', u, v, d', h1, h2, h3, h4⟩ := r.get ⟨d, hg⟩
  rw [hg] at h2; cases h2
  exact wpAny_getItem_heap (roomN hu) (key_is I hk hz) (nd_of I e N r ex) h1 (h v u _ (I.tok _) h3 h4)
/-- k in d -/
theorem n_in {Q : Value → Shared → Prop} (hu : A.units + 16 < cLine) (I : Inv X pins σ H s) (e : H a = some (dob a o)) (N : NObj X.prog X.w a o xs) (r : DrK X.prog X.w Hd xs t) (ex : Ex Hd H)
    (hk : Dr X.prog X.w H (.ref b) k.data) (hz : k.depth ≤ 8) (h : ∀ s', Inv X pins σ H s' → Q (.bool (tget t k).isSome) s') : wpAny (model X.prog X.w) A (compareOp .In (.ref b) (.ref a)) Q E s := by
  refine wpAny_in_heap (roomN hu) (key_is I hk hz) N.low (nd_of I e N r ex) ?_
  rw [r.some_iff]
  exact h _ (I.tok _)
theorem n_notIn {Q : Value → Shared → Prop} (hu : A.units + 16 < cLine) (I : Inv X pins σ H s) (e : H a = some (dob a o)) (N : NObj X.prog X.w a o xs) (r : DrK X.prog X.w Hd xs t) (ex : Ex Hd H)
    (hk : Dr X.prog X.w H (.ref b) k.data) (hz : k.depth ≤ 8) (h : ∀ s', Inv X pins σ H s' → Q (.bool (!(tget t k).isSome)) s') : wpAny (model X.prog X.w) A (compareOp .NotIn (.ref b) (.ref a)) Q E s := by
  refine wpAny_notIn_heap (roomN hu) (key_is I hk hz) N.low (nd_of I e N r ex) ?_
  rw [r.some_iff]
  exact h _ (I.tok _)
/-- a dict's object is another one -/
theorem n_write {h' : Heap} {t' : Nat} {o' : Obj} (I : Inv X pins σ H s) (e : H a = some (dob a o)) (hs : Heap.SameBut a s.heap h') (he : h'.get? a = some o') : Inv X pins σ (upd H a (dob a o')) { s with heap := h', toks := t' } :=
  I.write (x := a) (e := a) (by rw [e]; exact True.intro) (.inl rfl) (fun b q hb z => (hs.2 b hb).trans z) ⟨_, he⟩ ⟨he, ⟨_, he⟩, fun h1 h2 p st => st _ p⟩
theorem nobj_of {h' : Heap} {ys : List Ent} (lo : (a == sysModules) = false) (hl : ys.length ≤ sizeLine) (dd : h'.DictOfH (nestedKind X.prog X.w) a ys) : ∃ o', h'.get? a = some o' ∧ NObj X.prog X.w a o' ys := by
  obtain ⟨o', es, ep, h1, h2, h3, h4, _, h5⟩ := dd
  exact ⟨o', h1, h2, ⟨es, ep, h3, h4⟩, h5, hl, lo⟩
theorem storedH_le {xs : List Ent} {k : NestedKey} {b : Addr} {u : Value} : (storedH xs k b u).length ≤ xs.length + 1 := by
  unfold storedH
  split <;> simp
/-- d[k] = v -/
theorem n_set {u : Value} {Q : Unit → Shared → Prop} (hu : A.units + 16 < cLine) (I : Inv X pins σ H s) (e : H a = some (dob a o)) (N : NObj X.prog X.w a o xs) (r : DrK X.prog X.w Hd xs t) (ex : Ex Hd H)
    (hk : Dr X.prog X.w H (.ref b) k.data) (hz : k.depth ≤ 8) (hl : t.length < sizeLine) (h : ∀ o' s', Inv X pins σ (upd H a (dob a o')) s' → NObj X.prog X.w a o' (storedH xs k b u) → Q () s') :
    wpAny (model X.prog X.w) A (setItem (.ref a) (.ref b) u) Q E s := by
  refine wpAny_setItem_heap (hsz := N.le) (roomN hu) (key_is I hk hz) (nd_of I e N r ex) fun h' dd hs => ?_
  have hn := r.length
  obtain ⟨o', h1, h2⟩ := nobj_of (X := X) N.low (by have := @storedH_le xs k b u; omega) dd
  exact h o' _ (n_write I e hs h1) h2
theorem n_dictSet {u : Value} {Q : Unit → Shared → Prop} (hu : A.units + 16 < cLine) (I : Inv X pins σ H s) (e : H a = some (dob a o)) (N : NObj X.prog X.w a o xs) (r : DrK X.prog X.w Hd xs t) (ex : Ex Hd H)
    (hk : Dr X.prog X.w H (.ref b) k.data) (hz : k.depth ≤ 8) (hl : t.length < sizeLine) (h : ∀ o' s', Inv X pins σ (upd H a (dob a o')) s' → NObj X.prog X.w a o' (storedH xs k b u) → Q () s') :
    wpAny (model X.prog X.w) A (dictSet a (.ref b) u) Q E s := by
  have hn := r.length
  have hroom : (nestedKind X.prog X.w).room A := by show A.units + 8 < cLine; omega
  refine wpAny_dictSet_heap (hsz := N.le) hroom (key_is I hk hz) (nd_of I e N r ex) fun h' dd hs => ?_
  obtain ⟨o', h1, h2⟩ := nobj_of (X := X) N.low (by have := @storedH_le xs k b u; omega) dd
  exact h o' _ (n_write I e hs h1) h2
end
end K79

set_option Elab.async false
set_option linter.all false
set_option maxRecDepth 100000
set_option maxHeartbeats 2000000
/-! Pure readings: what an expression evaluates to, as data; what a statement does to an environment of data -/
namespace K79
open PySem PySem.Spec PyProof.Rows L2

/-! ### what is owned is hidden -/
abbrev Own := Addr → Bool
def hide (O : Own) (H : Hp) : Hp := fun a => if O a = true then none else H a
theorem hide_sub {O : Own} {H : Hp} : Ex (hide O H) H := fun a o h => by
  unfold hide at h
  split at h
  · cases h
  · exact h
theorem hide_at {O : Own} {H : Hp} {a : Addr} (h : O a = false) : hide O H a = H a := by
  unfold hide; rw [if_neg (by rw [h]; decide)]
theorem hide_own {O : Own} {H : Hp} {a : Addr} (h : O a = true) : hide O H a = none := by
  unfold hide; rw [if_pos h]
theorem hide_some {O : Own} {H : Hp} {a : Addr} {o : HO} (h : hide O H a = some o) : O a = false ∧ H a = some o := by
  cases q : O a with
  | true => rw [hide_own q] at h; cases h
  | false => rw [hide_at q] at h; exact ⟨rfl, h⟩
def Live (O : Own) (H : Hp) : Prop := ∀ a, O a = true → ∃ o, H a = some o
theorem Live.ex {O : Own} {H H' : Hp} (l : Live O H) (e : Ex H H') : Live O H' := fun a h => let ⟨o, q⟩ := l a h; ⟨o, e _ _ q⟩
theorem Live.no {O : Own} {H : Hp} {p : Addr} (l : Live O H) (h : H p = none) : O p = false := by
  cases q : O p with
  | false => rfl
  | true => obtain ⟨o, r⟩ := l p q; rw [h] at r; cases r
theorem hide_ex {O : Own} {H H' : Hp} (e : Ex H H') : Ex (hide O H) (hide O H') := fun a o h => by
  obtain ⟨h1, h2⟩ := hide_some h
  rw [hide_at h1]; exact e _ _ h2
def add (O : Own) (p : Addr) : Own := fun a => O a || decide (a = p)
def del (O : Own) (p : Addr) : Own := fun a => O a && !decide (a = p)
theorem add_self {O : Own} {p : Addr} : add O p p = true := by simp [add]
theorem add_other {O : Own} {p a : Addr} (h : a ≠ p) : add O p a = O a := by simp [add, h]
theorem del_self {O : Own} {p : Addr} : del O p p = false := by simp [del]
theorem del_other {O : Own} {p a : Addr} (h : a ≠ p) : del O p a = O a := by simp [del, h]
theorem hide_add {O : Own} {p : Addr} {H : Hp} : Ex (hide (add O p) H) (hide O H) := fun a o h => by
  obtain ⟨h1, h2⟩ := hide_some h
  have h3 : O a = false := by
    cases q : O a with
    | false => rfl
    | true => simp [add, q] at h1
  rw [hide_at h3]; exact h2
theorem hide_del {O : Own} {p : Addr} {H : Hp} : Ex (hide O H) (hide (del O p) H) := fun a o h => by
  obtain ⟨h1, h2⟩ := hide_some h
  rw [hide_at (by simp [del, h1])]; exact h2
theorem hide_upd {O : Own} {p : Addr} {H : Hp} {o : HO} (h : O p = true) : hide O (upd H p o) = hide O H := by
  funext a
  by_cases q : a = p
  · subst q; rw [hide_own h, hide_own h]
  · unfold hide; rw [upd_ne q]
/-- where a new object p is owned, the rest is as it was -/
theorem hide_new {O : Own} {p : Addr} {H H' : Hp} (e : Ex H H') (h : H p = none) : Ex (hide O H) (hide (add O p) H') := fun a o q => by
  obtain ⟨h1, h2⟩ := hide_some q
  have hne : a ≠ p := ne_of_none h2 h
  rw [hide_at (by rw [add_other hne]; exact h1)]
  exact e _ _ h2

/-! ### environments of data -/
inductive PV where
  | dat (d : PyData)
  | lst (ds : List PyData)
  | dic (t : Tab)
  | dks (t : STab)
def PV.own : PV → Bool
  | .dat _ => false
  | _ => true
abbrev Env := List (Option PV)
/-- the value v is pv: data in what is not owned; an owned object -/
inductive RP (P : Program) (w : World) (O0 O : Own) (H : Hp) : V → PV → Prop
  | dat {v : V} {d : PyData} : Dr P w (hide O H) v d → RP P w O0 O H v (.dat d)
  | lst {p : Addr} {vs : List V} {ds : List PyData} : O p = true → O0 p = false → H p = some (.lst vs) → DrA P w (hide O H) vs ds → RP P w O0 O H (.ref p) (.lst ds)
  | dic {p : Addr} {o : Obj} {xs : List Ent} {t : Tab} : O p = true → O0 p = false → H p = some (dob p o) → NObj P w p o xs → DrK P w (hide O H) xs t → RP P w O0 O H (.ref p) (.dic t)
  | dks {p : Addr} {ks : List (Key × V)} {t : STab} : O p = true → O0 p = false → H p = some (.dK ks) → DrS P w (hide O H) ks t → RP P w O0 O H (.ref p) (.dks t)
structure RS (P : Program) (w : World) (O0 O : Own) (H : Hp) (σ : L2.St) (ρ : Env) : Prop where
  len : σ.length = ρ.length
  at_ : ∀ (i : Nat) (pv : PV), ρ[i]? = some (some pv) → ∃ v, σ[i]? = some (some v) ∧ RP P w O0 O H v pv
  apart : ∀ (i j : Nat) (pv qv : PV) (p q : Addr), i ≠ j → ρ[i]? = some (some pv) → ρ[j]? = some (some qv) → pv.own = true → qv.own = true → σ[i]? = some (some (.ref p)) → σ[j]? = some (some (.ref q)) → p ≠ q
section
variable {P : Program} {w : World} {O0 O O' : Own} {H H' : Hp} {v : V} {pv : PV} {σ : L2.St} {ρ : Env}
theorem RP.grow (e : Ex H H') (hh : Ex (hide O H) (hide O' H')) (ho : ∀ a, O a = true → O' a = true) (r : RP P w O0 O H v pv) : RP P w O0 O' H' v pv := by
  cases r with
  | dat h => exact .dat (h.mono hh)
  | lst h1 h2 h3 h4 => exact .lst (ho _ h1) h2 (e _ _ h3) (h4.mono hh)
  | dic h1 h2 h3 h4 h5 => exact .dic (ho _ h1) h2 (e _ _ h3) h4 (h5.mono hh)
  | dks h1 h2 h3 h4 => exact .dks (ho _ h1) h2 (e _ _ h3) (h4.mono hh)
theorem RS.grow (e : Ex H H') (hh : Ex (hide O H) (hide O' H')) (ho : ∀ a, O a = true → O' a = true) (r : RS P w O0 O H σ ρ) : RS P w O0 O' H' σ ρ :=
  ⟨r.len, fun i pv h => let ⟨v, h1, h2⟩ := r.at_ i pv h; ⟨v, h1, h2.grow e hh ho⟩, r.apart⟩
theorem RS.ex (e : Ex H H') (r : RS P w O0 O H σ ρ) : RS P w O0 O H' σ ρ := r.grow e (hide_ex e) fun _ h => h
/-- a slot gets data -/
theorem RS.setD {i : Nat} {d : PyData} (r : RS P w O0 O H σ ρ) (h : Dr P w (hide O H) v d) : RS P w O0 O H (σ.set i (some v)) (ρ.set i (some (.dat d))) where
  len := by simp [r.len]
  at_ := fun j pv e => by
    by_cases q : i = j
    · subst q
      have hl : i < ρ.length := by
        have := (List.getElem?_eq_some_iff.mp e).1
        simpa using this
      rw [List.getElem?_set_self hl] at e
      cases e
      exact ⟨v, by rw [List.getElem?_set_self (by rw [r.len]; exact hl)], .dat h⟩
    · rw [List.getElem?_set_ne q] at e ⊢
      exact r.at_ j pv e
  apart := fun j k pv qv p q hne e1 e2 o1 o2 s1 s2 => by
    by_cases a : i = j
    · subst a
      have hl : i < ρ.length := by have := (List.getElem?_eq_some_iff.mp e1).1; simpa using this
      rw [List.getElem?_set_self hl] at e1; cases e1; cases o1
    · by_cases b : i = k
      · subst b
        have hl : i < ρ.length := by have := (List.getElem?_eq_some_iff.mp e2).1; simpa using this
        rw [List.getElem?_set_self hl] at e2; cases e2; cases o2
      · rw [List.getElem?_set_ne a] at e1 s1
        rw [List.getElem?_set_ne b] at e2 s2
        exact r.apart j k pv qv p q hne e1 e2 o1 o2 s1 s2
/-- a slot gets an owned object that no other slot has -/
theorem RS.setO {i : Nat} {p : Addr} (r : RS P w O0 O H σ ρ) (h : RP P w O0 O H (.ref p) pv) (no : ∀ (j : Nat) (qv : PV) (q : Addr), j ≠ i → ρ[j]? = some (some qv) → qv.own = true → σ[j]? = some (some (.ref q)) → q ≠ p) :
    RS P w O0 O H (σ.set i (some (.ref p))) (ρ.set i (some pv)) where
  len := by simp [r.len]
  at_ := fun j qv e => by
    by_cases q : i = j
    · subst q
      have hl : i < ρ.length := by have := (List.getElem?_eq_some_iff.mp e).1; simpa using this
      rw [List.getElem?_set_self hl] at e
      cases e
      exact ⟨_, by rw [List.getElem?_set_self (by rw [r.len]; exact hl)], h⟩
    · rw [List.getElem?_set_ne q] at e ⊢
      exact r.at_ j qv e
  apart := fun j k qv rv a b hne e1 e2 o1 o2 s1 s2 => by
    have hl : ∀ {m : Nat} {x : PV}, (ρ.set i (some pv))[m]? = some (some x) → m < ρ.length := fun e => by have := (List.getElem?_eq_some_iff.mp e).1; simpa using this
    by_cases c : i = j
    · subst c
      have hk : i ≠ k := hne
      rw [List.getElem?_set_self (by rw [r.len]; exact hl e1)] at s1
      cases s1
      rw [List.getElem?_set_ne hk] at e2 s2
      exact (no k rv b (Ne.symm hk) e2 o2 s2).symm
    · by_cases d : i = k
      · subst d
        rw [List.getElem?_set_self (by rw [r.len]; exact hl e2)] at s2
        cases s2
        rw [List.getElem?_set_ne c] at e1 s1
        exact no j qv a (Ne.symm c) e1 o1 s1
      · rw [List.getElem?_set_ne c] at e1 s1
        rw [List.getElem?_set_ne d] at e2 s2
        exact r.apart j k qv rv a b hne e1 e2 o1 o2 s1 s2
theorem RS.notOwned {p : Addr} (r : RS P w O0 O H σ ρ) (hp : O p = false) {j : Nat} {qv : PV} {q : Addr} (e : ρ[j]? = some (some qv)) (o : qv.own = true) (s : σ[j]? = some (some (.ref q))) : q ≠ p := by
  obtain ⟨v, h1, h2⟩ := r.at_ j qv e
  rw [s] at h1; cases h1
  intro z; subst z
  cases h2 with
  | dat _ => cases o
  | lst a _ _ _ => rw [hp] at a; cases a
  | dic a _ _ _ _ => rw [hp] at a; cases a
  | dks a _ _ _ => rw [hp] at a; cases a
/-- a slot is forgotten -/
theorem RS.forget {i : Nat} (r : RS P w O0 O H σ ρ) : RS P w O0 O H σ (ρ.set i none) where
  len := by simp [r.len]
  at_ := fun j pv e => by
    by_cases q : i = j
    · subst q
      have hl : i < ρ.length := by have := (List.getElem?_eq_some_iff.mp e).1; simpa using this
      rw [List.getElem?_set_self hl] at e; cases e
    · rw [List.getElem?_set_ne q] at e
      exact r.at_ j pv e
  apart := fun j k pv qv a b hne e1 e2 o1 o2 s1 s2 => by
    have key : ∀ {m : Nat} {x : PV}, (ρ.set i none)[m]? = some (some x) → ρ[m]? = some (some x) := fun {m x} e => by
      by_cases q : i = m
      · subst q
        have hl : i < ρ.length := by have := (List.getElem?_eq_some_iff.mp e).1; simpa using this
        rw [List.getElem?_set_self hl] at e; cases e
      · rw [List.getElem?_set_ne q] at e; exact e
    exact r.apart j k pv qv a b hne (key e1) (key e2) o1 o2 s1 s2
end

/-! ### no star -/
def notStar : Expr → Bool
  | .Starred _ _ => false
  | _ => true
theorem star_of {e : Expr} {es : List Expr} {env : PySem.Env} (h : notStar e = true) : starEach (e :: es) env = (false, eval e env) :: starEach es env := by
  cases e with
  | Starred a b => cases h
  | _ => rfl
/-! ### the weakest readings -/
section
variable (X : Cx)
structure WE (e : Expr) (σ : L2.St) (H : Hp) (Q : VK) : Prop where
  run : ∀ (pins : List (Addr × Obj)) (s : Shared), Inv X pins σ H s → wpAny (model X.prog X.w) X.A (eval e X.env) (EP X pins σ Q) X.xe s
structure WT (c : Expr) (σ : L2.St) (H : Hp) (Q : Bool → Hp → Prop) : Prop where
  run : ∀ (pins : List (Addr × Obj)) (s : Shared), Inv X pins σ H s → wpAny (model X.prog X.w) X.A (isTrue c X.env (eval c X.env)) (TP X pins σ Q) X.xe s
structure WW (c : Expr) (σ : L2.St) (H : Hp) (Q : Bool → Hp → Prop) : Prop where
  run : ∀ (whole : Sem Value) (pins : List (Addr × Obj)) (s : Shared), Inv X pins σ H s → wpAny (model X.prog X.w) X.A (isTrue c X.env whole) (TP X pins σ Q) X.xe s
structure WA (es : List Expr) (σ : L2.St) (H : Hp) (Q : List V → Hp → Prop) : Prop where
  run : ∀ (pos : Pos) (pins : List (Addr × Obj)) (s : Shared), Inv X pins σ H s → wpAny (model X.prog X.w) X.A (spliced (backTo pos (starEach es X.env))) (AP X pins σ Q) X.xe s
structure WS (st : Stmt) (D : Ends) (σ : L2.St) (H : Hp) : Prop where
  run : ∀ (pins : List (Addr × Obj)) (s : Shared), Inv X pins σ H s → wpAny (model X.prog X.w) X.A (exec st X.env) (SP X pins D) X.xe s
structure WSs (sts : List Stmt) (D : Ends) (σ : L2.St) (H : Hp) : Prop where
  run : ∀ (pins : List (Addr × Obj)) (s : Shared), Inv X pins σ H s → wpAny (model X.prog X.w) X.A (execs sts X.env) (SP X pins D) X.xe s
structure WG (t : Expr) (v : V) (σ : L2.St) (H : Hp) (Q : L2.St → Hp → Prop) : Prop where
  run : ∀ (pins : List (Addr × Obj)) (s : Shared) (u : Value), Inv X pins σ H s → RelV v u → wpAny (model X.prog X.w) X.A (assign t X.env u) (fun _ s' => ∃ σ' H', Inv X pins σ' H' s' ∧ Q σ' H') X.xe s
structure WTs (ifs : List Expr) (σ : L2.St) (H : Hp) (Q : Bool → Hp → Prop) : Prop where
  run : ∀ (pins : List (Addr × Obj)) (s : Shared), Inv X pins σ H s →
    wpAny (model X.prog X.w) X.A (forIn ifs true fun c r => if r = true then do let ok ← isTrue c X.env (eval c X.env); pure (ForInStep.yield ok) else pure (ForInStep.yield r)) (TP X pins σ Q) X.xe s
end
section
variable {X : Cx} {e : Expr} {σ : L2.St} {H : Hp}
theorem pw_e : PE X e (WE X e) := ⟨fun pins s _ _ _ I h => h.run pins s I⟩
theorem pw_t : PT X e (WT X e) := ⟨fun pins s _ _ _ I h => h.run pins s I⟩
theorem pw_w : PW X e (WW X e) := ⟨fun wh pins s _ _ _ I h => h.run wh pins s I⟩
theorem pw_a {es : List Expr} : PA X es (WA X es) := ⟨fun pos pins s _ _ _ I h => h.run pos pins s I⟩
theorem pw_s {st : Stmt} : PS X st (WS X st) := ⟨fun pins s _ _ _ I h => h.run pins s I⟩
theorem pw_ss {sts : List Stmt} : PSs X sts (WSs X sts) := ⟨fun pins s _ _ _ I h => h.run pins s I⟩
theorem pw_g {t : Expr} : PG X t (WG X t) := ⟨fun pins s _ _ _ u _ I r h => h.run pins s u I r⟩
theorem pw_ts {ifs : List Expr} : PTs X ifs (WTs X ifs) := ⟨fun pins s _ _ _ I h => h.run pins s I⟩
theorem we_of {t : TE} (h : PE X e t) {Q : VK} (q : t σ H Q) : WE X e σ H Q := ⟨fun pins s I => h.run pins s σ H Q I q⟩
theorem wt_of {t : TT} (h : PT X e t) {Q : Bool → Hp → Prop} (q : t σ H Q) : WT X e σ H Q := ⟨fun pins s I => h.run pins s σ H Q I q⟩
theorem ww_of {t : TT} (h : PW X e t) {Q : Bool → Hp → Prop} (q : t σ H Q) : WW X e σ H Q := ⟨fun wh pins s I => h.run wh pins s σ H Q I q⟩
theorem wa_of {es : List Expr} {t : TA} (h : PA X es t) {Q : List V → Hp → Prop} (q : t σ H Q) : WA X es σ H Q := ⟨fun pos pins s I => h.run pos pins s σ H Q I q⟩
theorem ws_of {st : Stmt} {t : TS} (h : PS X st t) {D : Ends} (q : t D σ H) : WS X st D σ H := ⟨fun pins s I => h.run pins s σ H D I q⟩
theorem wss_of {sts : List Stmt} {t : TS} (h : PSs X sts t) {D : Ends} (q : t D σ H) : WSs X sts D σ H := ⟨fun pins s I => h.run pins s σ H D I q⟩
theorem wg_of {t : Expr} {g : TG} {v : V} (h : PG X t g) {Q : L2.St → Hp → Prop} (q : g v σ H Q) : WG X t v σ H Q := ⟨fun pins s u I r => h.run pins s σ H v u Q I r q⟩
end

/-! ### what an expression evaluates to -/
section
variable (X : Cx)
def ED (e : Expr) (ρ : Env) (d : PyData) : Prop := ∀ (O0 O : Own) (H : Hp) (σ : L2.St), Live O H → RS X.prog X.w O0 O H σ ρ → ∀ Q : VK, (∀ v H', Ex H H' → Dr X.prog X.w (hide O H') v d → Q v H') → WE X e σ H Q
def ET (c : Expr) (ρ : Env) (b : Bool) : Prop := ∀ (O0 O : Own) (H : Hp) (σ : L2.St), Live O H → RS X.prog X.w O0 O H σ ρ → ∀ Q : Bool → Hp → Prop, (∀ H', Ex H H' → Q b H') → WT X c σ H Q
def EW (c : Expr) (ρ : Env) (b : Bool) : Prop := ∀ (O0 O : Own) (H : Hp) (σ : L2.St), Live O H → RS X.prog X.w O0 O H σ ρ → ∀ Q : Bool → Hp → Prop, (∀ H', Ex H H' → Q b H') → WW X c σ H Q
def EA (es : List Expr) (ρ : Env) (ds : List PyData) : Prop := ∀ (O0 O : Own) (H : Hp) (σ : L2.St), Live O H → RS X.prog X.w O0 O H σ ρ → ∀ Q : List V → Hp → Prop, (∀ vs H', Ex H H' → DrA X.prog X.w (hide O H') vs ds → Q vs H') → WA X es σ H Q
/-- a list or a tuple, read -/
inductive SqR (P : Program) (w : World) (Hd H : Hp) : V → List PyData → Prop
  | lst {p : Addr} {vs : List V} {ds : List PyData} : H p = some (.lst vs) → DrA P w Hd vs ds → SqR P w Hd H (.ref p) ds
  | tup {p : Addr} {vs : List V} {ds : List PyData} : H p = some (.tup vs) → DrA P w Hd vs ds → SqR P w Hd H (.ref p) ds
def EQ (e : Expr) (ρ : Env) (ds : List PyData) : Prop := ∀ (O0 O : Own) (H : Hp) (σ : L2.St), Live O H → RS X.prog X.w O0 O H σ ρ → ∀ Q : VK, (∀ v H', Ex H H' → SqR X.prog X.w (hide O H') H' v ds → Q v H') → WE X e σ H Q
/-- a list, read -/
inductive LsR (P : Program) (w : World) (Hd H : Hp) : V → List PyData → Prop
  | lst {p : Addr} {vs : List V} {ds : List PyData} : H p = some (.lst vs) → DrA P w Hd vs ds → LsR P w Hd H (.ref p) ds
def EL (e : Expr) (ρ : Env) (ds : List PyData) : Prop := ∀ (O0 O : Own) (H : Hp) (σ : L2.St), Live O H → RS X.prog X.w O0 O H σ ρ → ∀ Q : VK, (∀ v H', Ex H H' → LsR X.prog X.w (hide O H') H' v ds → Q v H') → WE X e σ H Q
/-- a dict with nested keys, read -/
inductive DcR (P : Program) (w : World) (Hd H : Hp) : V → Tab → Prop
  | dic {p : Addr} {o : Obj} {xs : List Ent} {t : Tab} : H p = some (dob p o) → NObj P w p o xs → DrK P w Hd xs t → DcR P w Hd H (.ref p) t
def EK (e : Expr) (ρ : Env) (t : Tab) : Prop := ∀ (O0 O : Own) (H : Hp) (σ : L2.St), Live O H → RS X.prog X.w O0 O H σ ρ → ∀ Q : VK, (∀ v H', Ex H H' → DcR X.prog X.w (hide O H') H' v t → Q v H') → WE X e σ H Q
end
section
variable {X : Cx} {a b c e : Expr} {ρ : Env} {d : PyData} {i : Nat} {x : Str} {pos : Pos} {ds : List PyData}

/-! names -/
theorem ed_var (i : Nat) (h : ρ[i]? = some (some (.dat d))) (hN : X.N[i]? = some x := by rfl) (hv : Vis X.env.scope x := by first | exact Or.inl rfl | exact Or.inr (Or.inl rfl) | exact Or.inr (Or.inr rfl)) (hd : (x == ("__debug__" : Str)) = false := by decide)
    (hcd : (x == ("__classdict__" : Str)) = false := by decide) : ED X (.Name x pos) ρ d := fun O0 O H σ L r Q q => by
  obtain ⟨v, h1, h2⟩ := r.at_ _ _ h
  cases h2 with
  | dat h2 => exact we_of (pe_var hN hv hd hcd) ⟨v, h1, q v H .rfl' h2⟩
theorem el_own (i : Nat) (h : ρ[i]? = some (some (.lst ds))) (hN : X.N[i]? = some x := by rfl) (hv : Vis X.env.scope x := by first | exact Or.inl rfl | exact Or.inr (Or.inl rfl) | exact Or.inr (Or.inr rfl)) (hd : (x == ("__debug__" : Str)) = false := by decide)
    (hcd : (x == ("__classdict__" : Str)) = false := by decide) : EL X (.Name x pos) ρ ds := fun O0 O H σ L r Q q => by
  obtain ⟨v, h1, h2⟩ := r.at_ _ _ h
  cases h2 with
  | lst _ _ h3 h4 => exact we_of (pe_var hN hv hd hcd) ⟨_, h1, q _ H .rfl' (.lst h3 h4)⟩
theorem ek_own {t : Tab} (i : Nat) (h : ρ[i]? = some (some (.dic t))) (hN : X.N[i]? = some x := by rfl) (hv : Vis X.env.scope x := by first | exact Or.inl rfl | exact Or.inr (Or.inl rfl) | exact Or.inr (Or.inr rfl)) (hd : (x == ("__debug__" : Str)) = false := by decide)
    (hcd : (x == ("__classdict__" : Str)) = false := by decide) : EK X (.Name x pos) ρ t := fun O0 O H σ L r Q q => by
  obtain ⟨v, h1, h2⟩ := r.at_ _ _ h
  cases h2 with
  | dic _ _ h3 h4 h5 => exact we_of (pe_var hN hv hd hcd) ⟨_, h1, q _ H .rfl' (.dic h3 h4 h5)⟩
theorem el_ed (h : ED X e ρ (.list ds)) : EL X e ρ ds := fun O0 O H σ L r Q q => h O0 O H σ L r Q fun v H' ex h' => by
  cases h' with
  | lst h1 h2 => exact q _ _ ex (.lst (hide_sub _ _ h1) h2)
theorem eq_el (h : EL X e ρ ds) : EQ X e ρ ds := fun O0 O H σ L r Q q => h O0 O H σ L r Q fun v H' ex h' => by
  cases h' with
  | lst h1 h2 => exact q _ _ ex (.lst h1 h2)
theorem eq_l (h : ED X e ρ (.list ds)) : EQ X e ρ ds := eq_el (el_ed h)
theorem eq_t (h : ED X e ρ (.tuple ds)) : EQ X e ρ ds := fun O0 O H σ L r Q q => h O0 O H σ L r Q fun v H' ex h' => by
  cases h' with
  | tup h1 h2 => exact q _ _ ex (.tup (hide_sub _ _ h1) h2)
theorem ek_ed {t : Tab} (h : ED X e ρ (tabD t)) : EK X e ρ t := fun O0 O H σ L r Q q => h O0 O H σ L r Q fun v H' ex h' => by
  obtain ⟨a, o, xs, rfl, h1, h2, h3⟩ := h'.tab
  exact q _ _ ex (.dic (hide_sub _ _ h1) h2 h3)
end
end K79

set_option Elab.async false
set_option linter.all false
set_option maxRecDepth 100000
set_option maxHeartbeats 2000000
/-! Rules: what expressions evaluate to -/
namespace K79
open PySem PySem.Spec PyProof.Rows L2

/-- what every body may lean on -/
structure Gd (X : Cx) : Prop where
  calm : X.calm = true
  hu : X.A.units + 180 < cLine
  len : X.mg "len" = none
  range : X.mg "range" = none
  tuple : X.mg "tuple" = none
  list : X.mg "list" = none
  int : X.mg "int" = none
  str : X.mg "str" = none
  bool : X.mg "bool" = none
  dict : X.mg "dict" = none
  isi : X.mg "isinstance" = none
  sum : X.mg "sum" = none
  min : X.mg "min" = none
  max : X.mg "max" = none
  sorted : X.mg "sorted" = none
  all : X.mg "all" = none
  any : X.mg "any" = none
  zip : X.mg "zip" = none
  enum : X.mg "enumerate" = none
  abs : X.mg "abs" = none
  repr : X.mg "repr" = none
theorem Gd.blk {X : Cx} (g : Gd X) (s : Shared) (H : Hp) (scope : Scope) (cenv : PySem.Env) (fp : List Addr) : Gd (X.blk s H scope cenv fp) :=
  ⟨g.calm, g.hu, g.len, g.range, g.tuple, g.list, g.int, g.str, g.bool, g.dict, g.isi, g.sum, g.min, g.max, g.sorted, g.all, g.any, g.zip, g.enum, g.abs, g.repr⟩

section
variable {X : Cx} {a b c e : Expr} {ρ : Env} {d d1 d2 : PyData} {i j : Int} {x : Str} {pos : Pos} {ds : List PyData} {k : Nat}

/-! ### constants -/
theorem ed_int : ED X (.Constant (.int i) k pos) ρ (.int i) := fun O0 O H σ L r Q q => we_of pe_int (q _ H .rfl' (.int i))
theorem ed_str : ED X (.Constant (.str x) k pos) ρ (.str x) := fun O0 O H σ L r Q q => we_of pe_str (q _ H .rfl' (.str x))
theorem ed_bl {v : Bool} : ED X (.Constant (.bool v) k pos) ρ (.bool v) := fun O0 O H σ L r Q q => we_of pe_bl (q _ H .rfl' (.bl v))
theorem ed_non : ED X (.Constant .none k pos) ρ .none := fun O0 O H σ L r Q q => we_of pe_non (q _ H .rfl' .non)
/-- a module's constant -/
theorem ed_gint {u : Value} (hg : Gl X x) (hm : X.mg x = some u) (r : RelV (.int i) u) (hd : (x == ("__debug__" : Str)) = false := by decide) : ED X (.Name x pos) ρ (.int i) := fun O0 O H σ L rs Q q => we_of (pe_glob hg hm r hd) (q _ H .rfl' (.int i))
theorem ed_gstr {y : Str} {u : Value} (hg : Gl X x) (hm : X.mg x = some u) (r : RelV (.str y) u) (hd : (x == ("__debug__" : Str)) = false := by decide) : ED X (.Name x pos) ρ (.str y) := fun O0 O H σ L rs Q q => we_of (pe_glob hg hm r hd) (q _ H .rfl' (.str y))

/-! ### two in a row -/
theorem ed_bin {r : R2} (hp : PE X e (tOp r (WE X a) (WE X b))) (ha : ED X a ρ d1) (hb : ED X b ρ d2)
    (hr : ∀ (O : Own) (H : Hp) (x y : V) (Q : VK), Live O H → Dr X.prog X.w (hide O H) x d1 → Dr X.prog X.w (hide O H) y d2 → (∀ v H', Ex H H' → Dr X.prog X.w (hide O H') v d → Q v H') → r x y H Q) : ED X e ρ d := fun O0 O H σ L rs Q q =>
  we_of hp (ha O0 O H σ L rs _ fun x H1 e1 h1 => hb O0 O H1 σ (L.ex e1) (rs.ex e1) _ fun y H2 e2 h2 => hr O H2 x y Q ((L.ex e1).ex e2) (h1.mono (hide_ex e2)) h2 fun v H' e3 h3 => q v H' ((e1.trans e2).trans e3) h3)
theorem ed_add (ha : ED X a ρ (.int i)) (hb : ED X b ρ (.int j)) : ED X (.BinOp a .Add b pos) ρ (.int (i + j)) :=
  ed_bin (pe_op op_add pw_e pw_e) ha hb fun O H x y Q L h1 h2 q => by
    cases h1; cases h2
    exact ⟨i, j, rfl, rfl, q _ H .rfl' (.int _)⟩
theorem ed_sub (ha : ED X a ρ (.int i)) (hb : ED X b ρ (.int j)) : ED X (.BinOp a .Sub b pos) ρ (.int (i - j)) :=
  ed_bin (pe_op op_sub pw_e pw_e) ha hb fun O H x y Q L h1 h2 q => by
    cases h1; cases h2
    exact ⟨i, j, rfl, rfl, q _ H .rfl' (.int _)⟩
theorem ed_mul (ha : ED X a ρ (.int i)) (hb : ED X b ρ (.int j)) (hc : CMul i j) : ED X (.BinOp a .Mult b pos) ρ (.int (i * j)) :=
  ed_bin (pe_op op_mul pw_e pw_e) ha hb fun O H x y Q L h1 h2 q => by
    cases h1; cases h2
    exact ⟨i, j, rfl, rfl, hc, q _ H .rfl' (.int _)⟩
theorem ed_fdiv (ha : ED X a ρ (.int i)) (hb : ED X b ρ (.int j)) (hc : CDiv i j) : ED X (.BinOp a .FloorDiv b pos) ρ (.int (i / j)) :=
  ed_bin (pe_op op_fdiv pw_e pw_e) ha hb fun O H x y Q L h1 h2 q => by
    cases h1; cases h2
    exact ⟨i, j, rfl, rfl, hc, q _ H .rfl' (.int _)⟩
theorem ed_mod (ha : ED X a ρ (.int i)) (hb : ED X b ρ (.int j)) (hc : 0 < j) : ED X (.BinOp a .Mod b pos) ρ (.int (i % j)) :=
  ed_bin (pe_op op_mod pw_e pw_e) ha hb fun O H x y Q L h1 h2 q => by
    cases h1; cases h2
    exact ⟨i, j, rfl, rfl, hc, q _ H .rfl' (.int _)⟩
theorem ed_pow (ha : ED X a ρ (.int i)) (hb : ED X b ρ (.int j)) (hc : CPow i j) : ED X (.BinOp a .Pow b pos) ρ (.int (i ^ j.toNat)) :=
  ed_bin (pe_op op_pow pw_e pw_e) ha hb fun O H x y Q L h1 h2 q => by
    cases h1; cases h2
    exact ⟨i, j, rfl, rfl, hc, q _ H .rfl' (.int _)⟩
theorem ed_neg (ha : ED X a ρ (.int i)) : ED X (.UnaryOp .USub a pos) ρ (.int (-i)) := fun O0 O H σ L rs Q q =>
  we_of (pe_un un_neg pw_e) (ha O0 O H σ L rs _ fun x H1 e1 h1 => by
    cases h1
    exact ⟨i, rfl, q _ H1 e1 (.int _)⟩)
/-- tuple + tuple -/
theorem ed_cat {xs ys : List PyData} (ha : ED X a ρ (.tuple xs)) (hb : ED X b ρ (.tuple ys)) (hz : xs.length + ys.length ≤ sizeLine) : ED X (.BinOp a .Add b pos) ρ (.tuple (xs ++ ys)) :=
  ed_bin (pe_op op_catA pw_e pw_e) ha hb fun O H x y Q L h1 h2 q => by
    cases h1 with
    | tup h1 r1 =>
      cases h2 with
      | tup h2 r2 =>
        rename_i p vs p2 vs2
        have l1 := r1.length
        have l2 := r2.length
        refine ⟨p, p2, vs, vs2, rfl, rfl, .of (hide_sub _ _ h1), .of (hide_sub _ _ h2), by omega, fun e => ?_, fun _ e => ?_, fun _ _ p' np => ?_⟩
        · subst e
          cases r1
          exact q _ H .rfl' (.tup h2 r2)
        · subst e
          cases r2
          rw [List.append_nil] at *
          exact q _ H .rfl' (.tup h1 r1)
        · refine q _ _ (.new np) (.tup (xs := vs ++ vs2) ?_ ((r1.append r2).mono (hide_ex (.new np))))
          rw [hide_at (L.no np), upd_same]

/-! ### several -/
theorem ea_nil : EA X [] ρ [] := fun O0 O H σ L rs Q q => wa_of pa_nil (q _ H .rfl' .nil)
theorem ea_cons {es : List Expr} (ha : ED X e ρ d) (hb : EA X es ρ ds) (hs : starEach (e :: es) X.env = (false, eval e X.env) :: starEach es X.env := by exact star_of rfl) : EA X (e :: es) ρ (d :: ds) := fun O0 O H σ L rs Q q =>
  wa_of (pa_cons pw_e pw_a hs) (ha O0 O H σ L rs _ fun x H1 e1 h1 => hb O0 O H1 σ (L.ex e1) (rs.ex e1) _ fun xs H2 e2 h2 => q _ H2 (e1.trans e2) (.cons (h1.mono (hide_ex e2)) h2))
theorem collect_tup {pins : List (Addr × Obj)} {s : Shared} {σ : L2.St} {H : Hp} {p : Addr} {vs : List V} {Q : List Value → Shared → Prop} {A : Around} {E : Value → Shared → Prop} (I : Inv X pins σ H s) (h : H p = some (.tup vs)) (hq : ∀ us s', Inv X pins σ H s' → Vals vs us → Q us s') :
    PySem.W.StarOf (model X.prog X.w) A E (.ref p) Q s := by
  obtain ⟨its, r, ⟨o, ho, hc, n, hd⟩, hz⟩ := I.tuple (SqT.of h)
  have ht : s.TypeIs (.ref p) "tuple" := ⟨o, ho, hc⟩
  have z : wpAny (model X.prog X.w) A (collect (.ref p)) Q E s := by
    refine wpAny_collect_seq p (.inr rfl) ho hc hd (fun h' hk => ?_) (by have := r.length; rw [List.size_toArray]; omega)
    exact hq its _ (I.kept (t' := s.toks) hk) r
  unfold PySem.W.StarOf notIterableAtAll
  exact wpAny_bind (wpAny_specialOf ht PySem.F.slot_tuple_iter.lookup (wpAny_pure ⟨rfl, z⟩))
/-- *e, .. -/
theorem ea_star {es : List Expr} {p : Pos} {xs : List PyData} (ha : ED X e ρ (.tuple xs)) (hb : EA X es ρ ds) (hs : starEach (.Starred e p :: es) X.env = (true, eval e X.env) :: starEach es X.env := by rfl) : EA X (.Starred e p :: es) ρ (xs ++ ds) := fun O0 O H σ L rs Q q => by
  refine ⟨fun pos pins s I => ?_⟩
  refine PySem.W.items_star (thn ((ha O0 O H σ L rs (fun v H1 => ∀ s1, Inv X pins σ H1 s1 → ∀ u, RelV v u → PySem.W.StarOf (model X.prog X.w) X.A X.xe u (fun here s₂ => wpAny (model X.prog X.w) X.A (spliced (backTo pos (starEach es X.env))) (fun vs s₃ => AP X pins σ Q (here ++ vs) s₃) X.xe s₂) s1) fun v H1 e1 h1 => ?_).run pins s I) fun u s1 ⟨v, H1, I1, r1, q1⟩ => q1 s1 I1 u r1) hs
  intro s1 I1 u r1
  cases h1 with
  | tup h1 d1 =>
    cases r1
    refine collect_tup I1 (hide_sub _ _ h1) fun us s2 I2 rv => ?_
    refine thn ((hb O0 O H1 σ (L.ex e1) (rs.ex e1) (fun ys H2 => Ex H1 H2 ∧ DrA X.prog X.w (hide O H2) ys ds) (fun ys H2 e2 h2 => ⟨e2, h2⟩)).run pos pins s2 I2) fun ws s3 ⟨ys, H2, I3, rv2, e2, h2⟩ => ?_
    exact ⟨_, H2, I3, rv.append rv2, q _ H2 (e1.trans e2) ((d1.mono (hide_ex e2)).append h2)⟩
theorem ed_tup {es : List Expr} {k' : Nat} (h : EA X es ρ ds) (hz : ds.length ≤ sizeLine) : ED X (.Tuple es k' pos) ρ (.tuple ds) := fun O0 O H σ L rs Q q =>
  we_of (pe_tup pw_a) (h O0 O H σ L rs _ fun vs H1 e1 h1 => ⟨by rw [h1.length]; exact hz, fun p np => q _ _ (e1.trans (.new np)) (.tup (by rw [hide_at ((L.ex e1).no np), upd_same]) (h1.mono (hide_ex (.new np))))⟩)

/-! ### read in the whole heap -/
/-- dict-free data, read in the whole heap -/
def EF (X : Cx) (e : Expr) (ρ : Env) (d : PyData) : Prop := ∀ (O0 O : Own) (H : Hp) (σ : L2.St), Live O H → RS X.prog X.w O0 O H σ ρ → ∀ Q : VK, (∀ v H', Ex H H' → Dr X.prog X.w H' v d → Q v H') → WE X e σ H Q
theorem ef_ed (h : ED X e ρ d) : EF X e ρ d := fun O0 O H σ L rs Q q => h O0 O H σ L rs Q fun v H' ex h' => q v H' ex (h'.mono hide_sub)
theorem ef_el (h : EL X e ρ ds) : EF X e ρ (.list ds) := fun O0 O H σ L rs Q q => h O0 O H σ L rs Q fun v H' ex h' => by
  cases h' with
  | lst h1 h2 => exact q _ H' ex (.lst h1 (h2.mono hide_sub))
theorem ed_cmpF {r : R2} {v : Bool} (hp : PE X e (tOp r (WE X a) (WE X b))) (ha : EF X a ρ d1) (hb : EF X b ρ d2)
    (hr : ∀ (H : Hp) (x y : V) (Q : VK), Dr X.prog X.w H x d1 → Dr X.prog X.w H y d2 → Q (.bl v) H → r x y H Q) : ED X e ρ (.bool v) := fun O0 O H σ L rs Q q =>
  we_of hp (ha O0 O H σ L rs _ fun x H1 e1 h1 => hb O0 O H1 σ (L.ex e1) (rs.ex e1) _ fun y H2 e2 h2 => hr H2 x y Q (h1.mono e2) h2 (q _ H2 (e1.trans e2) (.bl v)))

/-! ### comparisons -/
/-- data that == looks through: no dict, not deep -/
def Eqb (d : PyData) : Prop := d.plain = true ∧ d.depth ≤ 60
def rEqP (K : PySem.W.Frag) (neg : Bool) : R2 := fun x y H Q => ∃ d e, Dp K H x d ∧ Dp K H y e ∧ Eqb d ∧ Eqb e ∧ Q (.bl (neg ^^ PyData.eqv d e)) H
theorem op_eqP (G : Gd X) : OpR X (compareOp .Eq) (rEqP X.K false) := by
  intro pins s σ H x y v u Q I rx ry h
  obtain ⟨one, two, is1, is2, sd, se, q⟩ := h
  obtain ⟨at1, r1⟩ := Dp.reads I one x v is1 rx
  obtain ⟨at2, r2⟩ := Dp.reads I two y u is2 ry
  have hu := G.hu
  exact SeqAt.eq_plain r1 r2 sd.1 se.1 (by have := sd.2; omega) ⟨.bl _, H, I, rfl, by simpa using q⟩
theorem op_neP (G : Gd X) : OpR X (compareOp .NotEq) (rEqP X.K true) := by
  intro pins s σ H x y v u Q I rx ry h
  obtain ⟨one, two, is1, is2, sd, se, q⟩ := h
  obtain ⟨at1, r1⟩ := Dp.reads I one x v is1 rx
  obtain ⟨at2, r2⟩ := Dp.reads I two y u is2 ry
  have hu := G.hu
  exact SeqAt.ne_plain r1 r2 sd.1 se.1 (by have := sd.2; omega) ⟨.bl _, H, I, rfl, by simpa using q⟩
theorem ed_eq (G : Gd X) (ha : EF X a ρ d1) (hb : EF X b ρ d2) (h1 : Eqb d1) (h2 : Eqb d2) : ED X (.Compare a [.Eq] [b] pos) ρ (.bool (PyData.eqv d1 d2)) :=
  ed_cmpF (pe_cmpR (op_eqP G) pw_e pw_e (nomark _)) ha hb fun H x y Q r1 r2 q => ⟨d1, d2, r1.dp h1.1, r2.dp h2.1, h1, h2, by simpa using q⟩
theorem ed_ne (G : Gd X) (ha : EF X a ρ d1) (hb : EF X b ρ d2) (h1 : Eqb d1) (h2 : Eqb d2) : ED X (.Compare a [.NotEq] [b] pos) ρ (.bool (!PyData.eqv d1 d2)) :=
  ed_cmpF (pe_cmpR (op_neP G) pw_e pw_e (nomark _)) ha hb fun H x y Q r1 r2 q => ⟨d1, d2, r1.dp h1.1, r2.dp h2.1, h1, h2, by simpa using q⟩
theorem ed_eqS {x y : Str} (ha : ED X a ρ (.str x)) (hb : ED X b ρ (.str y)) : ED X (.Compare a [.Eq] [b] pos) ρ (.bool (decide (x = y))) :=
  ed_cmpF (pe_cmpR op_eq pw_e pw_e (nomark _)) (ef_ed ha) (ef_ed hb) fun H u v Q r1 r2 q => by
    cases r1; cases r2
    exact ⟨rfl, by rw [show decide (V.str x = V.str y) = decide (x = y) by simp]; exact q⟩
theorem ed_neS {x y : Str} (ha : ED X a ρ (.str x)) (hb : ED X b ρ (.str y)) : ED X (.Compare a [.NotEq] [b] pos) ρ (.bool (!decide (x = y))) :=
  ed_cmpF (pe_cmpR op_ne pw_e pw_e (nomark _)) (ef_ed ha) (ef_ed hb) fun H u v Q r1 r2 q => by
    cases r1; cases r2
    exact ⟨rfl, by rw [show decide (V.str x = V.str y) = decide (x = y) by simp]; exact q⟩
theorem ed_eqI (ha : ED X a ρ (.int i)) (hb : ED X b ρ (.int j)) : ED X (.Compare a [.Eq] [b] pos) ρ (.bool (decide (i = j))) :=
  ed_cmpF (pe_cmpR op_eq pw_e pw_e (nomark _)) (ef_ed ha) (ef_ed hb) fun H u v Q r1 r2 q => by
    cases r1; cases r2
    exact ⟨rfl, by rw [show decide (V.int i = V.int j) = decide (i = j) by simp]; exact q⟩
theorem ed_neI (ha : ED X a ρ (.int i)) (hb : ED X b ρ (.int j)) : ED X (.Compare a [.NotEq] [b] pos) ρ (.bool (!decide (i = j))) :=
  ed_cmpF (pe_cmpR op_ne pw_e pw_e (nomark _)) (ef_ed ha) (ef_ed hb) fun H u v Q r1 r2 q => by
    cases r1; cases r2
    exact ⟨rfl, by rw [show decide (V.int i = V.int j) = decide (i = j) by simp]; exact q⟩
theorem ed_lt (ha : ED X a ρ (.int i)) (hb : ED X b ρ (.int j)) : ED X (.Compare a [.Lt] [b] pos) ρ (.bool (decide (i < j))) :=
  ed_cmpF (pe_cmpR op_lt pw_e pw_e (nomark _)) (ef_ed ha) (ef_ed hb) fun H x y Q r1 r2 q => by
    cases r1; cases r2
    exact ⟨i, j, rfl, rfl, q⟩
theorem ed_le (ha : ED X a ρ (.int i)) (hb : ED X b ρ (.int j)) : ED X (.Compare a [.LtE] [b] pos) ρ (.bool (decide (i ≤ j))) :=
  ed_cmpF (pe_cmpR op_le pw_e pw_e (nomark _)) (ef_ed ha) (ef_ed hb) fun H x y Q r1 r2 q => by
    cases r1; cases r2
    exact ⟨i, j, rfl, rfl, q⟩
theorem ed_gt (ha : ED X a ρ (.int i)) (hb : ED X b ρ (.int j)) : ED X (.Compare a [.Gt] [b] pos) ρ (.bool (decide (j < i))) :=
  ed_cmpF (pe_cmpR op_gt pw_e pw_e (nomark _)) (ef_ed ha) (ef_ed hb) fun H x y Q r1 r2 q => by
    cases r1; cases r2
    exact ⟨i, j, rfl, rfl, q⟩
theorem ed_ge (ha : ED X a ρ (.int i)) (hb : ED X b ρ (.int j)) : ED X (.Compare a [.GtE] [b] pos) ρ (.bool (decide (j ≤ i))) :=
  ed_cmpF (pe_cmpR op_ge pw_e pw_e (nomark _)) (ef_ed ha) (ef_ed hb) fun H x y Q r1 r2 q => by
    cases r1; cases r2
    exact ⟨i, j, rfl, rfl, q⟩
/-- a <= b <= c of ints, a < .. too -/
theorem ed_leLe {m : Int} (ha : ED X a ρ (.int i)) (hb : ED X b ρ (.int j)) (hc : ED X c ρ (.int m)) (hm : lastMarks [.LtE, .LtE] [b, c] = false := by with_unfolding_all rfl) : ED X (.Compare a [.LtE, .LtE] [b, c] pos) ρ (.bool (decide (i ≤ j) && decide (j ≤ m))) := fun O0 O H σ L rs Q q =>
  we_of (pe_chain op_le op_le pw_e pw_e pw_e hm) (ha O0 O H σ L rs _ fun x H1 e1 h1 => hb O0 O H1 σ (L.ex e1) (rs.ex e1) _ fun y H2 e2 h2 => by
    cases h1; cases h2
    refine ⟨i, j, rfl, rfl, _, rfl, ?_⟩
    by_cases h : i ≤ j
    · rw [decide_eq_true h]
      refine iteT (hc O0 O H2 σ ((L.ex e1).ex e2) ((rs.ex e1).ex e2) _ fun z H3 e3 h3 => ?_)
      cases h3
      exact ⟨j, m, rfl, rfl, q _ H3 ((e1.trans e2).trans e3) (by rw [decide_eq_true h, Bool.true_and]; exact .bl _)⟩
    · rw [decide_eq_false h]
      exact iteF (q _ H2 (e1.trans e2) (by rw [decide_eq_false h, Bool.false_and]; exact .bl _)))
/-- is None -/
def isNon : PyData → Bool
  | .none => true
  | _ => false
theorem Dr.isNon {P : Program} {w : World} {H : Hp} {v : V} {d : PyData} (h : Dr P w H v d) : decide (v = .non) = K79.isNon d := by
  cases h <;> simp [K79.isNon, tabD, stabD, bagD]
theorem ed_isN {k' : Nat} {p' : Pos} (ha : ED X a ρ d) : ED X (.Compare a [.Is] [.Constant .none k' p'] pos) ρ (.bool (isNon d)) := fun O0 O H σ L rs Q q =>
  we_of (pe_cmp (pc_isN pw_e)) (ha O0 O H σ L rs _ fun x H1 e1 h1 => q _ H1 e1 (by rw [h1.isNon]; exact .bl _))
theorem ed_notN {k' : Nat} {p' : Pos} (ha : ED X a ρ d) : ED X (.Compare a [.IsNot] [.Constant .none k' p'] pos) ρ (.bool (!isNon d)) := fun O0 O H σ L rs Q q =>
  we_of (pe_cmp (pc_notN pw_e)) (ha O0 O H σ L rs _ fun x H1 e1 h1 => q _ H1 e1 (by rw [h1.isNon]; exact .bl _))
/-- is not of two bools -/
theorem ed_notB {u v : Bool} (ha : ED X a ρ (.bool u)) (hb : ED X b ρ (.bool v)) : ED X (.Compare a [.IsNot] [b] pos) ρ (.bool (!decide (u = v))) :=
  ed_cmpF (pe_cmpR op_notBl pw_e pw_e (nomark _)) (ef_ed ha) (ef_ed hb) fun H x y Q r1 r2 q => by
    cases r1; cases r2
    exact ⟨u, v, rfl, rfl, q⟩
/-- in, not in a list or a tuple -/
def rInP (K : PySem.W.Frag) (neg : Bool) : R2 := fun x y H Q => ∃ d ds, Dp K H x d ∧ (Dp K H y (.list ds) ∨ Dp K H y (.tuple ds)) ∧ Eqb d ∧ PyData.plainAll ds = true ∧ Q (.bl (neg ^^ ds.any fun z => PyData.eqv z d)) H
theorem op_inP (G : Gd X) : OpR X (compareOp .In) (rInP X.K false) := by
  intro pins s σ H x y v u Q I rx ry h
  obtain ⟨one, ds, is1, he, sd, se, q⟩ := h
  obtain ⟨at1, r1⟩ := Dp.reads I one x v is1 rx
  have hu := G.hu
  rcases he with he | he
  · obtain ⟨bs, r2⟩ := Dp.reads I _ y u he ry
    exact SeqAt.in_list_data r2 r1 se sd.1 (by have := sd.2; omega) ⟨.bl _, H, I, rfl, by simpa using q⟩
  · obtain ⟨bs, r2⟩ := Dp.reads I _ y u he ry
    exact SeqAt.in_tuple_data r2 r1 se sd.1 (by have := sd.2; omega) ⟨.bl _, H, I, rfl, by simpa using q⟩
theorem op_notInP (G : Gd X) : OpR X (compareOp .NotIn) (rInP X.K true) := by
  intro pins s σ H x y v u Q I rx ry h
  obtain ⟨one, ds, is1, he, sd, se, q⟩ := h
  obtain ⟨at1, r1⟩ := Dp.reads I one x v is1 rx
  have hu := G.hu
  rcases he with he | he
  · obtain ⟨bs, r2⟩ := Dp.reads I _ y u he ry
    exact SeqAt.notIn_list_data r2 r1 se sd.1 (by have := sd.2; omega) ⟨.bl _, H, I, rfl, by simpa using q⟩
  · obtain ⟨bs, r2⟩ := Dp.reads I _ y u he ry
    exact SeqAt.notIn_tuple_data r2 r1 se sd.1 (by have := sd.2; omega) ⟨.bl _, H, I, rfl, by simpa using q⟩
theorem SqR.dr {P : Program} {w : World} {O : Own} {H : Hp} {v : V} (h : SqR P w (hide O H) H v ds) : Dr P w H v (.list ds) ∨ Dr P w H v (.tuple ds) := by
  cases h with
  | lst h1 h2 => exact .inl (.lst h1 (h2.mono hide_sub))
  | tup h1 h2 => exact .inr (.tup h1 (h2.mono hide_sub))
theorem ed_in (G : Gd X) (ha : EF X a ρ d) (hb : EQ X b ρ ds) (h1 : Eqb d) (h2 : PyData.plainAll ds = true) (hm : behindInMarks .In b = false := by with_unfolding_all rfl) : ED X (.Compare a [.In] [b] pos) ρ (.bool (ds.any fun z => PyData.eqv z d)) := fun O0 O H σ L rs Q q =>
  we_of (pe_cmpR (op_inP G) pw_e pw_e hm) (ha O0 O H σ L rs _ fun x H1 e1 r1 => hb O0 O H1 σ (L.ex e1) (rs.ex e1) _ fun y H2 e2 r2 => by
    refine ⟨d, ds, (r1.mono e2).dp h1.1, ?_, h1, h2, q _ H2 (e1.trans e2) (by simpa using Dr.bl _)⟩
    rcases r2.dr with z | z
    · exact .inl (z.dp (by simpa [PyData.plain] using h2))
    · exact .inr (z.dp (by simpa [PyData.plain] using h2)))
theorem ed_notIn (G : Gd X) (ha : EF X a ρ d) (hb : EQ X b ρ ds) (h1 : Eqb d) (h2 : PyData.plainAll ds = true) (hm : behindInMarks .NotIn b = false := by with_unfolding_all rfl) : ED X (.Compare a [.NotIn] [b] pos) ρ (.bool (!ds.any fun z => PyData.eqv z d)) := fun O0 O H σ L rs Q q =>
  we_of (pe_cmpR (op_notInP G) pw_e pw_e hm) (ha O0 O H σ L rs _ fun x H1 e1 r1 => hb O0 O H1 σ (L.ex e1) (rs.ex e1) _ fun y H2 e2 r2 => by
    refine ⟨d, ds, (r1.mono e2).dp h1.1, ?_, h1, h2, q _ H2 (e1.trans e2) (by simpa using Dr.bl _)⟩
    rcases r2.dr with z | z
    · exact .inl (z.dp (by simpa [PyData.plain] using h2))
    · exact .inr (z.dp (by simpa [PyData.plain] using h2)))

/-! ### subscripts -/
theorem ed_ix (ha : EQ X a ρ ds) (hb : ED X b ρ (.int i)) (h : atI ds i = some d) (hs : PlainIx b := by exact fun _ _ => rfl) : ED X (.Subscript a b pos) ρ d := fun O0 O H σ L rs Q q =>
  we_of (pe_ix ix_seq pw_e pw_e hs) (ha O0 O H σ L rs _ fun x H1 e1 r1 => hb O0 O H1 σ (L.ex e1) (rs.ex e1) _ fun y H2 e2 r2 => by
    cases r2
    have key : ∀ {vs : List V}, DrA X.prog X.w (hide O H1) vs ds → ∃ v, atI vs i = some v ∧ Dr X.prog X.w (hide O H2) v d := fun {vs} r => by
      obtain ⟨j, hj, hj2⟩ := Option.bind_eq_some_iff.mp h
      obtain ⟨v, hv, hd⟩ := r.get hj2
      exact ⟨v, by unfold atI; rw [r.length, hj]; exact hv, hd.mono (hide_ex e2)⟩
    cases r1 with
    | lst h1 r1 =>
      obtain ⟨v, h3, h4⟩ := key r1
      exact .inl ⟨_, _, i, v, rfl, rfl, .of (e2 _ _ h1), h3, q v H2 (e1.trans e2) h4⟩
    | tup h1 r1 =>
      obtain ⟨v, h3, h4⟩ := key r1
      exact .inr (.inl ⟨_, _, i, v, rfl, rfl, .of (e2 _ _ h1), h3, q v H2 (e1.trans e2) h4⟩))
/-- d[k] -/
theorem ed_get {t : Tab} {k : NestedKey} (G : Gd X) (ha : EK X a ρ t) (hb : ED X b ρ k.data) (hk : ∃ ks, k = .tup ks) (hz : k.depth ≤ 8) (h : tget t k = some d) (hs : NoSl b := by exact fun _ _ => rfl) : ED X (.Subscript a b pos) ρ d := fun O0 O H σ L rs Q q => by
  refine ⟨fun pins s I => ?_⟩
  refine subD_of PySem.F.slot_dict_getitem.lookup hs (thn ((ha O0 O H σ L rs (fun v H1 => Ex H H1 ∧ DcR X.prog X.w (hide O H1) H1 v t) fun v H1 e1 r1 => ⟨e1, r1⟩).run pins s I) fun u s1 ⟨v, H1, I1, rv, e1, r1⟩ => ?_)
  refine thn ((hb O0 O H1 σ (L.ex e1) (rs.ex e1) (fun y H2 => Ex H1 H2 ∧ Dr X.prog X.w (hide O H2) y k.data) fun y H2 e2 r2 => ⟨e2, r2⟩).run pins s1 I1) fun u2 s2 ⟨y, H2, I2, ry, e2, r2⟩ => ?_
  cases r1 with
  | dic h1 h2 h3 =>
    cases rv
    obtain ⟨ks, rfl⟩ := hk
    cases (show Dr X.prog X.w (hide O H2) y (PyData.tuple (NestedKey.datas ks)) from r2) with
    | tup h4 h5 =>
      cases ry
      have hd := nd_of I2 (e2 _ _ h1) h2 (h3.mono (hide_ex e2)) hide_sub
      refine ⟨hd.typeIs, n_get (Hd := hide O H2) (by have := G.hu; omega) I2 (e2 _ _ h1) h2 (h3.mono (hide_ex e2)) hide_sub (r2.mono hide_sub) hz h fun v' u' s' I' r' d' => ⟨v', H2, I', r', q v' H2 (e1.trans e2) d'⟩⟩
end
end K79

set_option Elab.async false
set_option linter.all false
set_option maxRecDepth 100000
set_option maxHeartbeats 2000000
/-! Rules: tests, dicts, slices, calls of built-ins -/
namespace K79
open PySem PySem.Spec PyProof.Rows L2

section
variable {X : Cx} {a b c e : Expr} {ρ : Env} {d d1 d2 : PyData} {i j : Int} {x : Str} {pos : Pos} {ds : List PyData} {u v : Bool} {rest : List Expr}

/-! ### and, or, not, if: as values -/
theorem ed_one {op : BoolOp} (h : ED X a ρ d) : ED X (.BoolOp op [a] pos) ρ d := fun O0 O H σ L rs Q q => we_of (pe_one pw_e) (h O0 O H σ L rs Q q)
theorem ed_and (ha : ED X a ρ (.bool u)) (hb : u = true → ED X (.BoolOp .And (b :: rest) pos) ρ (.bool v)) : ED X (.BoolOp .And (a :: b :: rest) pos) ρ (.bool (u && v)) := fun O0 O H σ L rs Q q =>
  we_of (pe_and pw_e pw_e) (ha O0 O H σ L rs _ fun x H1 e1 h1 => by
    cases h1
    refine ⟨u, rfl, ?_⟩
    cases u with
    | true => exact iteT (hb rfl O0 O H1 σ (L.ex e1) (rs.ex e1) Q fun y H2 e2 h2 => q y H2 (e1.trans e2) h2)
    | false => exact iteF (q _ H1 e1 (.bl _)))
theorem ed_or (ha : ED X a ρ (.bool u)) (hb : u = false → ED X (.BoolOp .Or (b :: rest) pos) ρ (.bool v)) : ED X (.BoolOp .Or (a :: b :: rest) pos) ρ (.bool (u || v)) := fun O0 O H σ L rs Q q =>
  we_of (pe_or pw_e pw_e) (ha O0 O H σ L rs _ fun x H1 e1 h1 => by
    cases h1
    refine ⟨u, rfl, ?_⟩
    cases u with
    | true => exact iteT (q _ H1 e1 (.bl _))
    | false => exact iteF (hb rfl O0 O H1 σ (L.ex e1) (rs.ex e1) Q fun y H2 e2 h2 => q y H2 (e1.trans e2) h2))
theorem ed_not (ha : ED X a ρ (.bool u)) : ED X (.UnaryOp .Not a pos) ρ (.bool (!u)) := fun O0 O H σ L rs Q q =>
  we_of (pe_not pw_e) (ha O0 O H σ L rs _ fun x H1 e1 h1 => by
    cases h1
    exact ⟨u, rfl, q _ H1 e1 (.bl _)⟩)
theorem ed_cast (h : ED X e ρ d1) (q : d1 = d2) : ED X e ρ d2 := q ▸ h
theorem et_cast (h : ET X e ρ u) (q : u = v) : ET X e ρ v := q ▸ h
theorem ed_if (hc : ET X c ρ u) (ha : u = true → ED X a ρ d) (hb : u = false → ED X b ρ d) : ED X (.IfExp c a b pos) ρ d := fun O0 O H σ L rs Q q =>
  we_of (pe_ifExp pw_t pw_e pw_e) (hc O0 O H σ L rs _ fun H1 e1 => by
    cases u with
    | true => exact iteT (ha rfl O0 O H1 σ (L.ex e1) (rs.ex e1) Q fun y H2 e2 h2 => q y H2 (e1.trans e2) h2)
    | false => exact iteF (hb rfl O0 O H1 σ (L.ex e1) (rs.ex e1) Q fun y H2 e2 h2 => q y H2 (e1.trans e2) h2))
/-! ### tests -/
theorem et_val (h : ED X e ρ (.bool u)) (he : ∀ whole, isTrue e X.env whole = (do let v ← whole; standAt e.pos; holding [v] (truthy v)) := by intro _; rfl) : ET X e ρ u := fun O0 O H σ L rs Q q =>
  wt_of (pt_val pw_e he) (h O0 O H σ L rs _ fun x H1 e1 h1 => by
    cases h1
    exact ⟨u, rfl, q H1 e1⟩)
theorem et_cmp {op : CmpOp} (h : ED X (.Compare a [op] [b] pos) ρ (.bool u)) (hp : ∀ {σ : L2.St} {H : Hp} {Q : Bool → Hp → Prop}, (WE X (.Compare a [op] [b] pos) σ H fun x H' => ∃ k, x = .bl k ∧ Q k H') → WT X (.Compare a [op] [b] pos) σ H Q) : ET X (.Compare a [op] [b] pos) ρ u := fun O0 O H σ L rs Q q =>
  hp (h O0 O H σ L rs _ fun x H1 e1 h1 => by
    cases h1
    exact ⟨u, rfl, q H1 e1⟩)
theorem et_not (h : ET X a ρ u) : ET X (.UnaryOp .Not a pos) ρ (!u) := fun O0 O H σ L rs Q q => wt_of (pt_not pw_t) (h O0 O H σ L rs _ fun H1 e1 => q H1 e1)
theorem et_w (h : EW X c ρ u) : ET X c ρ u := fun O0 O H σ L rs Q q => wt_of (PW.pt pw_w) (h O0 O H σ L rs Q q)
theorem ew_and1 (h : ET X a ρ u) : EW X (.BoolOp .And [a] pos) ρ u := fun O0 O H σ L rs Q q => ww_of (pw_and1 pw_t) (h O0 O H σ L rs Q q)
theorem ew_or1 (h : ET X a ρ u) : EW X (.BoolOp .Or [a] pos) ρ u := fun O0 O H σ L rs Q q => ww_of (pw_or1 pw_t) (h O0 O H σ L rs Q q)
theorem ew_and (ha : ET X a ρ u) (hb : u = true → EW X (.BoolOp .And (b :: rest) pos) ρ v) : EW X (.BoolOp .And (a :: b :: rest) pos) ρ (u && v) := fun O0 O H σ L rs Q q =>
  ww_of (pw_and pw_t pw_w) (ha O0 O H σ L rs _ fun H1 e1 => by
    cases u with
    | true => exact iteT (hb rfl O0 O H1 σ (L.ex e1) (rs.ex e1) Q fun H2 e2 => q H2 (e1.trans e2))
    | false => exact iteF (q H1 e1))
theorem ew_or (ha : ET X a ρ u) (hb : u = false → EW X (.BoolOp .Or (b :: rest) pos) ρ v) : EW X (.BoolOp .Or (a :: b :: rest) pos) ρ (u || v) := fun O0 O H σ L rs Q q =>
  ww_of (pw_or pw_t pw_w) (ha O0 O H σ L rs _ fun H1 e1 => by
    cases u with
    | true => exact iteT (q H1 e1)
    | false => exact iteF (hb rfl O0 O H1 σ (L.ex e1) (rs.ex e1) Q fun H2 e2 => q H2 (e1.trans e2)))

end

section
variable {X : Cx} {a b c e : Expr} {ρ : Env} {d d1 d2 : PyData} {i j : Int} {x : Str} {pos : Pos} {ds : List PyData} {u v : Bool}
/-! ### dicts -/
theorem ed_inD_aux {op : CmpOp} {t : Tab} {k : NestedKey} {f : Bool → Bool} (G : Gd X) (hm : behindInMarks op b = false) (ha : ED X a ρ k.data) (hb : EK X b ρ t) (hk : ∃ ks, k = .tup ks) (hz : k.depth ≤ 8)
    (run : ∀ {pins : List (Addr × Obj)} {σ : L2.St} {H Hd : Hp} {s : Shared} {p q : Addr} {o : Obj} {xs : List Ent} {E : Value → Shared → Prop} {Q : Value → Shared → Prop}, Inv X pins σ H s → H p = some (dob p o) → NObj X.prog X.w p o xs → DrK X.prog X.w Hd xs t → Ex Hd H → Dr X.prog X.w H (.ref q) k.data →
      (∀ s', Inv X pins σ H s' → Q (.bool (f (tget t k).isSome)) s') → wpAny (model X.prog X.w) X.A (compareOp op (.ref q) (.ref p)) Q E s) : ED X (.Compare a [op] [b] pos) ρ (.bool (f (tget t k).isSome)) := fun O0 O H σ L rs Q q => by
  refine ⟨fun pins s I => ?_⟩
  refine (pe_cmpR (op := op) (r := fun x y H' Q' => ∀ (pins' : List (Addr × Obj)) (s' : Shared) (σ' : L2.St) (v u : Value), Inv X pins' σ' H' s' → RelV x v → RelV y u → wpAny (model X.prog X.w) X.A (compareOp op v u) (EP X pins' σ' Q') X.xe s')
    (fun pins' s' σ' H' x y v u Q' I' rx ry h => h pins' s' σ' v u I' rx ry) pw_e pw_e hm).run pins s σ H Q I ?_
  refine ha O0 O H σ L rs _ fun y H1 e1 r1 => hb O0 O H1 σ (L.ex e1) (rs.ex e1) _ fun x H2 e2 r2 => ?_
  intro pins' s' σ' v u I' rx ry
  cases r2 with
  | dic h1 h2 h3 =>
    obtain ⟨ks, rfl⟩ := hk
    cases (show Dr X.prog X.w (hide O H1) y (PyData.tuple (NestedKey.datas ks)) from r1) with
    | tup h4 h5 =>
      cases rx
      cases ry
      exact run (Hd := hide O H2) I' h1 h2 h3 hide_sub ((r1.mono hide_sub).mono e2) fun s'' I'' => ⟨.bl _, H2, I'', rfl, q _ H2 (e1.trans e2) (.bl _)⟩
theorem ed_inD {t : Tab} {k : NestedKey} (G : Gd X) (ha : ED X a ρ k.data) (hb : EK X b ρ t) (hk : ∃ ks, k = .tup ks) (hz : k.depth ≤ 8) (hm : behindInMarks .In b = false := by with_unfolding_all rfl) : ED X (.Compare a [.In] [b] pos) ρ (.bool (tget t k).isSome) :=
  ed_inD_aux (f := fun z => z) G hm ha hb hk hz fun I h1 h2 h3 ex h4 q => n_in (by have := G.hu; omega) I h1 h2 h3 ex h4 hz q
theorem ed_notInD {t : Tab} {k : NestedKey} (G : Gd X) (ha : ED X a ρ k.data) (hb : EK X b ρ t) (hk : ∃ ks, k = .tup ks) (hz : k.depth ≤ 8) (hm : behindInMarks .NotIn b = false := by with_unfolding_all rfl) : ED X (.Compare a [.NotIn] [b] pos) ρ (.bool (!(tget t k).isSome)) :=
  ed_inD_aux (f := fun z => !z) G hm ha hb hk hz fun I h1 h2 h3 ex h4 q => n_notIn (by have := G.hu; omega) I h1 h2 h3 ex h4 hz q

/-! ### slices -/
/-- a part of a slice -/
def EO (X : Cx) (e : Option Expr) (ρ : Env) (o : Option Int) : Prop := ∃ t, PO X e t ∧ ∀ (O0 O : Own) (H : Hp) (σ : L2.St), Live O H → RS X.prog X.w O0 O H σ ρ → ∀ Q : Option Int → Hp → Prop, (∀ H', Ex H H' → Q o H') → t σ H Q
theorem eo_none : EO X none ρ none := ⟨_, po_none, fun O0 O H σ L rs Q q => q H .rfl'⟩
theorem eo_some (h : ED X e ρ (.int i)) : EO X (some e) ρ (some i) := ⟨_, po_some pw_e, fun O0 O H σ L rs Q q => h O0 O H σ L rs _ fun x H1 e1 h1 => by
  cases h1
  exact ⟨i, rfl, q H1 e1⟩⟩
/-- a new list -/
def EN (X : Cx) (e : Expr) (ρ : Env) (ds : List PyData) : Prop := ∀ (O0 O : Own) (H : Hp) (σ : L2.St), Live O H → RS X.prog X.w O0 O H σ ρ → ∀ Q : VK, (∀ p vs H', H p = none → Ex H H' → H' p = some (.lst vs) → DrA X.prog X.w (hide (add O p) H') vs ds → Q (.ref p) H') → WE X e σ H Q
theorem el_new (h : EN X e ρ ds) : EL X e ρ ds := fun O0 O H σ L rs Q q => h O0 O H σ L rs Q fun p vs H' np ex hp hd => q _ H' ex (.lst hp (hd.mono hide_add))
theorem ed_new (h : EN X e ρ ds) : ED X e ρ (.list ds) := fun O0 O H σ L rs Q q => h O0 O H σ L rs Q fun p vs H' np ex hp hd => q _ H' ex (.lst (by rw [hide_at (L.no np)]; exact hp) (hd.mono hide_add))
theorem drA_new {P : Program} {w : World} {O : Own} {H : Hp} {p : Addr} {o : HO} {vs : List V} (np : H p = none) (h : DrA P w (hide O H) vs ds) : DrA P w (hide (add O p) (upd H p o)) vs ds := h.mono (hide_new (.new np) np)
def cutD (xs : List PyData) (lo hi : Option Int) : List PyData := (xs.drop (HT.sIx xs.length 0 lo)).take (HT.sIx xs.length xs.length hi - HT.sIx xs.length 0 lo)
theorem en_slice {lo hi : Option Expr} {l h : Option Int} {p2 : Pos} (ha : EL X a ρ ds) (h1 : EO X lo ρ l) (h2 : EO X hi ρ h) : EN X (.Subscript a (.Slice lo hi none p2) pos) ρ (cutD ds l h) := fun O0 O H σ L rs Q q => by
  obtain ⟨t1, p1, r1⟩ := h1
  obtain ⟨t2, p2, r2⟩ := h2
  refine we_of (pe_slice sl_list pw_e p1 p2) (ha O0 O H σ L rs _ fun x H1 e1 k1 => r1 O0 O H1 σ (L.ex e1) (rs.ex e1) _ fun H2 e2 => r2 O0 O H2 σ ((L.ex e1).ex e2) ((rs.ex e1).ex e2) _ fun H3 e3 => ?_)
  cases k1 with
  | lst k1 k2 =>
    rename_i p vs
    have e13 := e2.trans e3
    refine ⟨p, vs, rfl, .of (e13 _ _ k1), fun p' np => q _ _ _ ((e1.trans e13).back np) ((e1.trans e13).trans (.new np)) upd_same (drA_new np ?_)⟩
    have k3 := k2.mono (hide_ex e13)
    unfold cutV cutD
    rw [k3.length]
    exact (k3.drop _).take _
theorem en_rev {k : Nat} {p1 p2 p3 : Pos} (ha : EL X a ρ ds) : EN X (.Subscript a (.Slice none none (some (.UnaryOp .USub (.Constant (.int 1) k p1) p2)) p3) pos) ρ ds.reverse := fun O0 O H σ L rs Q q =>
  we_of (pe_revL pw_e) (ha O0 O H σ L rs _ fun x H1 e1 k1 => by
    cases k1 with
    | lst k1 k2 => exact ⟨_, _, rfl, .of k1, fun p' np => q _ _ _ (e1.back np) (e1.trans (.new np)) upd_same (drA_new np k2.reverse)⟩)
/-- [..] -/
theorem en_lst {es : List Expr} (h : EA X es ρ ds) (hz : ds.length ≤ sizeLine) : EN X (.List es pos) ρ ds := fun O0 O H σ L rs Q q =>
  we_of (pe_lst pw_a) (h O0 O H σ L rs _ fun vs H1 e1 h1 => ⟨by rw [h1.length]; exact hz, fun p np => q p vs _ (e1.back np) (e1.trans (.new np)) upd_same (drA_new np h1)⟩)
/-- list + list -/
theorem en_cat {xs ys : List PyData} (ha : EL X a ρ xs) (hb : EL X b ρ ys) (hz : xs.length + ys.length ≤ sizeLine) : EN X (.BinOp a .Add b pos) ρ (xs ++ ys) := fun O0 O H σ L rs Q q =>
  we_of (pe_op op_cat pw_e pw_e) (ha O0 O H σ L rs _ fun x H1 e1 k1 => hb O0 O H1 σ (L.ex e1) (rs.ex e1) _ fun y H2 e2 k2 => by
    cases k1 with
    | lst k1 d1 =>
      cases k2 with
      | lst k2 d2 =>
        have l1 := d1.length
        have l2 := d2.length
        exact ⟨_, _, _, _, rfl, rfl, e2 _ _ k1, k2, by omega, fun p np => q p _ _ ((e1.trans e2).back np) ((e1.trans e2).trans (.new np)) upd_same (drA_new np ((d1.mono (hide_ex e2)).append d2))⟩)

/-! ### built-ins by name -/
theorem ed_callB {id : String} {r : List V → Hp → VK → Prop} {es : List Expr} {p : Pos} (hc : CallR X (.builtin id) r) (hm : X.mg x = none) (hv : bootBuiltins x = some (.builtin id)) (ha : EA X (e :: es) ρ ds)
    (hr : ∀ (O : Own) (H : Hp) (vs : List V) (Q : VK), Live O H → DrA X.prog X.w (hide O H) vs ds → (∀ v H', Ex H H' → Dr X.prog X.w (hide O H') v d → Q v H') → r vs H Q)
    (hg : Gl X x := by rfl) (hn : x ≠ "__name__" := by decide) (hdb : (x == ("__debug__" : Str)) = false := by decide)
    (he : starEach (e :: es) X.env = (false, eval e X.env) :: starEach es X.env := by exact star_of rfl) (hpl : (backTo pos (starEach es X.env)).any (·.1) = false := by rfl) : ED X (.Call (.Name x p) (e :: es) [] pos) ρ d := fun O0 O H σ L rs Q q =>
  we_of (pe_callB hc hg hm hv pw_a hn hdb he hpl) (ha O0 O H σ L rs _ fun vs H1 e1 h1 => hr O H1 vs Q (L.ex e1) h1 fun v H' e2 h2 => q v H' (e1.trans e2) h2)
theorem ed_callTy {T : String} {r : List V → Hp → VK → Prop} {es : List Expr} {p : Pos} (hc : CallR X (.type T) r) (hm : X.mg x = none) (hv : bootBuiltins x = some (.type T)) (ha : EA X (e :: es) ρ ds)
    (hr : ∀ (O : Own) (H : Hp) (vs : List V) (Q : VK), Live O H → DrA X.prog X.w (hide O H) vs ds → (∀ v H', Ex H H' → Dr X.prog X.w (hide O H') v d → Q v H') → r vs H Q)
    (hg : Gl X x := by rfl) (hn : x ≠ "__name__" := by decide) (hdb : (x == ("__debug__" : Str)) = false := by decide)
    (he : starEach (e :: es) X.env = (false, eval e X.env) :: starEach es X.env := by exact star_of rfl) (hpl : (backTo pos (starEach es X.env)).any (·.1) = false := by rfl) : ED X (.Call (.Name x p) (e :: es) [] pos) ρ d := fun O0 O H σ L rs Q q =>
  we_of (pe_callTy hc hg hm hv pw_a hn hdb he hpl) (ha O0 O H σ L rs _ fun vs H1 e1 h1 => hr O H1 vs Q (L.ex e1) h1 fun v H' e2 h2 => q v H' (e1.trans e2) h2)
/-- one argument, read as a list or a tuple -/
theorem we_seq1 {id : String} {T : Bool} {r : List V → Hp → VK → Prop} {p : Pos} {bv : Value} (hbv : bv = if T then .type id else .builtin id) (hc : CallR X bv r) (hm : X.mg x = none) (hv : bootBuiltins x = some bv) {σ : L2.St} {H : Hp} {Q : VK} (h : WE X e σ H fun v H1 => r [v] H1 Q)
    (hg : Gl X x := by rfl) (hn : x ≠ "__name__" := by decide) (hdb : (x == ("__debug__" : Str)) = false := by decide)
    (he : starEach [e] X.env = (false, eval e X.env) :: starEach [] X.env := by exact star_of rfl) (hpl : (backTo pos (starEach [] X.env)).any (·.1) = false := by rfl) : WE X (.Call (.Name x p) [e] [] pos) σ H Q := by
  cases T with
  | true =>
    simp only [if_true] at hbv
    subst hbv
    exact we_of (pe_callTy (t := tCons (WE X e) tNil) hc hg hm hv (pa_cons pw_e pa_nil he) hn hdb he hpl) h
  | false =>
    simp only [Bool.false_eq_true, if_false] at hbv
    subst hbv
    exact we_of (pe_callB (t := tCons (WE X e) tNil) hc hg hm hv (pa_cons pw_e pa_nil he) hn hdb he hpl) h
theorem ed_len {p : Pos} (G : Gd X) (ha : EQ X e ρ ds) (hg : Gl X "len" := by rfl) (he : starEach [e] X.env = (false, eval e X.env) :: starEach [] X.env := by exact star_of rfl) : ED X (.Call (.Name "len" p) [e] [] pos) ρ (.int ds.length) := fun O0 O H σ L rs Q q =>
  we_seq1 (id := "len") (T := false) rfl call_len_seq G.len PySem.boot_len (ha O0 O H σ L rs _ fun v H1 e1 h1 => by
    cases h1 with
    | lst h1 h2 => exact ⟨_, _, rfl, .inl (.of h1), by rw [h2.length]; exact q _ H1 e1 (.int _)⟩
    | tup h1 h2 => exact ⟨_, _, rfl, .inr (.of h1), by rw [h2.length]; exact q _ H1 e1 (.int _)⟩) hg (by decide) (by decide) he
theorem ed_lenS {p : Pos} {y : Str} (G : Gd X) (ha : ED X e ρ (.str y)) (hz : y.length ≤ sizeLine) (hg : Gl X "len" := by rfl) (he : starEach [e] X.env = (false, eval e X.env) :: starEach [] X.env := by exact star_of rfl) : ED X (.Call (.Name "len" p) [e] [] pos) ρ (.int y.length) := fun O0 O H σ L rs Q q =>
  we_seq1 (id := "len") (T := false) rfl call_len_str G.len PySem.boot_len (ha O0 O H σ L rs _ fun v H1 e1 h1 => by
    cases h1
    exact ⟨y, rfl, hz, q _ H1 e1 (.int _)⟩) hg (by decide) (by decide) he
/-- tuple(list) -/
theorem ed_tupL {p : Pos} (G : Gd X) (ha : EL X e ρ ds) (hg : Gl X "tuple" := by rfl) (he : starEach [e] X.env = (false, eval e X.env) :: starEach [] X.env := by exact star_of rfl) : ED X (.Call (.Name "tuple" p) [e] [] pos) ρ (.tuple ds) := fun O0 O H σ L rs Q q =>
  we_seq1 (id := "tuple") (T := true) rfl call_tuple_of G.tuple (by decide +kernel) (ha O0 O H σ L rs _ fun v H1 e1 h1 => by
    cases h1 with
    | lst h1 h2 => exact ⟨_, _, rfl, .inl ⟨.of h1, fun l nl => q _ _ (e1.trans (.new nl)) (.tup (by rw [hide_at ((L.ex e1).no nl), upd_same]) (h2.mono (hide_ex (.new nl))))⟩⟩) hg (by decide) (by decide) he
theorem ed_min {p : Pos} (G : Gd X) (ha : ED X a ρ (.int i)) (hb : ED X b ρ (.int j)) (hg : Gl X "min" := by rfl) (he : starEach [a, b] X.env = (false, eval a X.env) :: starEach [b] X.env := by exact star_of rfl) (he2 : starEach [b] X.env = (false, eval b X.env) :: starEach [] X.env := by exact star_of rfl)
    (hpl : (backTo pos (starEach [b] X.env)).any (·.1) = false := by rfl) : ED X (.Call (.Name "min" p) [a, b] [] pos) ρ (.int (min i j)) :=
  ed_callB (call_min2 G.calm) G.min (by decide +kernel) (ea_cons ha (ea_cons hb ea_nil he2) he) (fun O H vs Q L h q => by
    cases h with
    | cons h1 h => cases h with
      | cons h2 h => cases h; cases h1; cases h2; exact ⟨i, j, rfl, q _ H .rfl' (by rw [show (if j < i then j else i) = min i j by split <;> omega]; exact .int _)⟩) hg (by decide) (by decide) he hpl
theorem ed_max {p : Pos} (G : Gd X) (ha : ED X a ρ (.int i)) (hb : ED X b ρ (.int j)) (hg : Gl X "max" := by rfl) (he : starEach [a, b] X.env = (false, eval a X.env) :: starEach [b] X.env := by exact star_of rfl) (he2 : starEach [b] X.env = (false, eval b X.env) :: starEach [] X.env := by exact star_of rfl)
    (hpl : (backTo pos (starEach [b] X.env)).any (·.1) = false := by rfl) : ED X (.Call (.Name "max" p) [a, b] [] pos) ρ (.int (max i j)) :=
  ed_callB (call_max2 G.calm) G.max (by decide +kernel) (ea_cons ha (ea_cons hb ea_nil he2) he) (fun O H vs Q L h q => by
    cases h with
    | cons h1 h => cases h with
      | cons h2 h => cases h; cases h1; cases h2; exact ⟨i, j, rfl, q _ H .rfl' (by rw [show (if j > i then j else i) = max i j by split <;> omega]; exact .int _)⟩) hg (by decide) (by decide) he hpl
theorem ed_toInt {p : Pos} (G : Gd X) (ha : ED X a ρ (.int i)) (hg : Gl X "int" := by rfl) (he : starEach [a] X.env = (false, eval a X.env) :: starEach [] X.env := by exact star_of rfl) : ED X (.Call (.Name "int" p) [a] [] pos) ρ (.int i) := fun O0 O H σ L rs Q q =>
  we_seq1 (id := "int") (T := true) rfl call_int1 G.int (by decide +kernel) (ha O0 O H σ L rs _ fun v H1 e1 h1 => by
    cases h1
    exact .inl ⟨i, rfl, q _ H1 e1 (.int _)⟩) hg (by decide) (by decide) he
theorem ed_abs {p : Pos} (G : Gd X) (ha : ED X a ρ (.int i)) (hg : Gl X "abs" := by rfl) (he : starEach [a] X.env = (false, eval a X.env) :: starEach [] X.env := by exact star_of rfl) : ED X (.Call (.Name "abs" p) [a] [] pos) ρ (.int i.natAbs) := fun O0 O H σ L rs Q q =>
  we_seq1 (id := "abs") (T := false) rfl call_abs G.abs (by decide +kernel) (ha O0 O H σ L rs _ fun v H1 e1 h1 => by
    cases h1
    exact ⟨i, rfl, by rw [show (if i < 0 then -i else i) = (i.natAbs : Int) by split <;> omega]; exact q _ H1 e1 (.int _)⟩) hg (by decide) (by decide) he
/-- any, all of a list of bools -/
theorem drA_bools {P : Program} {w : World} {H : Hp} : ∀ {vs : List V} {bs : List Bool}, DrA P w H vs (bs.map .bool) → vs = bs.map V.bl
  | _, [], .nil => rfl
  | _, b :: bs, .cons h r => by
    cases h
    rw [List.map_cons, drA_bools r]
theorem ed_all {bs : List Bool} {p : Pos} (G : Gd X) (ha : EL X e ρ (bs.map .bool)) (hg : Gl X "all" := by rfl) (he : starEach [e] X.env = (false, eval e X.env) :: starEach [] X.env := by exact star_of rfl) : ED X (.Call (.Name "all" p) [e] [] pos) ρ (.bool (bs.all id)) := fun O0 O H σ L rs Q q =>
  we_seq1 (id := "all") (T := false) rfl (cr_all G.calm) G.all (by decide +kernel) (ha O0 O H σ L rs _ fun v H1 e1 h1 => by
    cases h1 with
    | lst h1 h2 => exact ⟨_, bs, rfl, .of (by rw [h1, drA_bools h2]), q _ H1 e1 (.bl _)⟩) hg (by decide) (by decide) he
theorem ed_any {bs : List Bool} {p : Pos} (G : Gd X) (ha : EL X e ρ (bs.map .bool)) (hg : Gl X "any" := by rfl) (he : starEach [e] X.env = (false, eval e X.env) :: starEach [] X.env := by exact star_of rfl) : ED X (.Call (.Name "any" p) [e] [] pos) ρ (.bool (bs.any id)) := fun O0 O H σ L rs Q q =>
  we_seq1 (id := "any") (T := false) rfl (cr_any G.calm) G.any (by decide +kernel) (ha O0 O H σ L rs _ fun v H1 e1 h1 => by
    cases h1 with
    | lst h1 h2 => exact ⟨_, bs, rfl, .of (by rw [h1, drA_bools h2]), q _ H1 e1 (.bl _)⟩) hg (by decide) (by decide) he
/-- isinstance -/
def tyD : PyData → String
  | .none => "NoneType"
  | .bool _ => "bool"
  | .int _ => "int"
  | .str _ => "str"
  | .list _ => "list"
  | .tuple _ => "tuple"
  | .dict _ => "dict"
end
end K79

set_option Elab.async false
set_option linter.all false
set_option maxRecDepth 100000
set_option maxHeartbeats 2000000
/-! What is walked -/
namespace K79
open PySem PySem.Spec PyProof.Rows L2

/-! ### enumerate(tuple) -/
def ItET (K : PySem.W.Frag) (a : Addr) : It :=
  ⟨fun i H => ∃ (xs : List V) (x : V), SqT K H a xs ∧ xs[i]? = some x,
   fun i H v H' => ∃ T x, v = .ref T ∧ H T = none ∧ H' = upd H T (.tup [.int (i : Nat), x]) ∧ ∀ xs, SqT K H a xs → xs[i]? = some x,
   fun i H => ∃ xs : List V, SqT K H a xs ∧ xs.length = i⟩
theorem turn_enumT {P : Program} {w : World} {K : PySem.W.Frag} {elts : List Expr} {kk : Nat} {tpos : Pos} (a e it : Addr) (hai : a ≠ it) (hae : a ≠ e) :
    Turn P w K (.Tuple elts kk tpos) (ItET K a) [e, it] e (fun i h => (∃ old, IsEnum h e it ((i : Nat) : Int) old) ∧ h.IsTupleIter it a i ∧ e ≠ it) where
  mem := List.mem_cons_self ..
  obj := fun i h st b hb => by
    obtain ⟨⟨_, isE⟩, ⟨oi, hasI, _, datI⟩, _⟩ := st
    have which : b = e ∨ b = it := by simpa using hb
    rcases which with z | z
    · rw [z]; exact ⟨_, isE, fun v q => nomatch q⟩
    · rw [z]; exact ⟨oi, hasI, fun v q => by rw [datI] at q; cases q⟩
  keep := fun i h h' st kept => by
    obtain ⟨⟨last, isE⟩, isI, apart⟩ := st
    exact ⟨⟨last, kept e (List.mem_cons_self ..) _ isE⟩, isI.at fun o q => kept it (by simp) o q, apart⟩
  item := by
    rintro X hP hw hK calm i pins s σ H E I free ⟨⟨last, isE⟩, isI, apart⟩ ⟨xs, x, isT, atX⟩
    subst hP hw hK
    obtain ⟨cells, rel, isP, _⟩ := I.tuple isT
    obtain ⟨u, atU, ru⟩ := rel.get atX
    have low : ∀ b, b ∈ [e, it] → b < s.heap.objs.size := fun b hb => by
      have which : b = e ∨ b = it := by simpa using hb
      rcases which with z | z
      · rw [z]; exact Heap.lt_size isE
      · obtain ⟨_, q, _⟩ := id isI
        rw [z]; exact Heap.lt_size q
    have inR : i < cells.toArray.size := by
      have := (List.getElem?_eq_some_iff.mp atU).1
      simpa using this
    refine wpAny_pyNext_enum_itemD (Draws.tuple (show X.A.in1.handled = none from I.ok.hd calm) it a hai cells.toArray) isE ⟨isI, isP⟩ inR apart (by simp [apart, hae.symm]) fun y heap1 tk atY hasE isI' pair _ kept => ?_
    rw [show cells.toArray[i]? = some u by simpa using atU] at atY
    cases atY
    refine ⟨_, rfl, wpAny_letOwnedTupleGo_enum (s := { s with heap := heap1, toks := tk + 1 }) hasE fun heap2 isE' same => ?_⟩
    have fresh := I.hok.fresh (Nat.le_refl s.heap.objs.size)
    have pair2 := (same.2 _ (Nat.ne_of_gt (low e (List.mem_cons_self ..)))).trans pair
    have J : Inv X pins σ (upd H s.heap.objs.size (.tup [.int (i : Nat), x])) { s with heap := heap2, toks := tk + 1 } :=
      I.turnedNew (ch := [e, it]) (fun b ob nb q => by
        have n1 : b ≠ e := fun z => nb (by simp [z])
        have n2 : b ≠ it := fun z => nb (by simp [z])
        exact (same.2 b n1).trans (kept b ob n1 n2 q)) free (Nat.le_refl _) ⟨by show 2 ≤ sizeLine; decide, [.int i tk, u], .cons ⟨_, rfl⟩ (.cons ru .nil), ⟨_, pair2, rfl, _, rfl⟩⟩
    refine ⟨.ref s.heap.objs.size, _, J, rfl, ⟨_, x, rfl, fresh, rfl, fun ys isY => ?_⟩, ⟨⟨u, ?_⟩, isI'.1.at fun o q => (same.2 it (Ne.symm apart)).trans q, apart⟩, fun b hb => ?_⟩
    · rw [I.tuple_inj isY isT]; exact atX
    · have e1 : ((i + 1 : Nat) : Int) = (i : Int) + 1 := by omega
      rw [e1]; exact isE'
    · rw [upd_ne (Nat.ne_of_lt (low b hb))]; exact (free b hb).1
  done := by
    rintro X hP hw hK calm i pins s σ H E I free ⟨⟨last, isE⟩, isI, apart⟩ ⟨xs, isT, len⟩
    subst hP hw hK
    obtain ⟨cells, rel, isP, _⟩ := I.tuple isT
    obtain ⟨g0, g1, g2, g3, g4, g5⟩ := free it (by simp)
    have size : cells.toArray.size = i := by rw [List.size_toArray, ← rel.length, len]
    exact wpAny_pyNext_enum_endD (Draws.tuple (show X.A.in1.handled = none from I.ok.hd calm) it a hai cells.toArray) isE (by rw [size]; exact ⟨isI, isP⟩) fun h' only => ⟨rfl, I.turned (t' := s.toks) only g0 g1 g3 g4 g5⟩
  self := fun A i s Q E st h => by
    obtain ⟨⟨_, isE⟩, _⟩ := st
    exact wpAny_pyIter_enum isE h
def iEnumT (K : PySem.W.Frag) (ta : TA) : TI := fun σ H R => ta σ H fun vs H1 => ∃ a xs, vs = [.ref a] ∧ SqT K H1 a xs ∧ R (ItET K a) H1
theorem meets_enumT (a : Addr) (items : Array Value) :
    Meets (Builtin.«enumerate.__new__» ⟨[.type "enumerate", .ref a], []⟩) (fun _ R s => s.heap.IsTuple a items ∧
      R (.ok (.ret (.ref (s.heap.push { cls := .type "tuple_iterator", data := .fields #[.ref a, .int 0 0] }).objs.size)))
        { s with heap := (s.heap.push { cls := .type "tuple_iterator", data := .fields #[.ref a, .int 0 0] }).push { cls := .type "enumerate", data := .fields #[.none, .bool false, .ref s.heap.objs.size, rawInt 0, .none, .none] } }) :=
  .of_wp fun prog w A R s h => by
    obtain ⟨hp, g, d, tk, os⟩ := s
    obtain ⟨h1, h⟩ := h
    have hsub := sub_enumerate
    have go : ∀ {A' : Around} {E : Value → Shared → Prop} {Q : Value → Shared → Prop}, Q (.ref hp.objs.size) ⟨hp.push { cls := .type "tuple_iterator", data := .fields #[.ref a, .int 0 0] }, g, d, tk, os⟩ → wpAny (model prog w) A' (pyIter (.ref a)) Q E ⟨hp, g, d, tk, os⟩ :=
      fun q => wpAny_pyIter_tuple (s := ⟨hp, g, d, tk, os⟩) h1 q
    wp_walk using go
    refine wpAny_stack_any fun st => wpAny_pure ?_
    split
    · rename_i c _ _ _ _ _
      cases (c == Value.type "enumerate") <;> wp_walk using go <;> exact ⟨_, rfl, h⟩
    · wp_walk using go
      exact ⟨_, rfl, h⟩
theorem call_enumT {prog : Program} {w : World} {A : Around} {E : Value → Shared → Prop} {s : Shared} {t : Addr} {items : Array Value} {Q : Value → Shared → Prop} (ht : s.heap.IsTuple t items)
    (h : ∀ h', IsEnum h' (s.heap.objs.size + 1) s.heap.objs.size 0 .none → h'.IsTupleIter s.heap.objs.size t 0 →
      (∀ b o, s.heap.get? b = some o → h'.get? b = some o) → Q (.ref (s.heap.objs.size + 1)) { s with heap := h' }) : wpAny (model prog w) A (call (.type "enumerate") [.ref t]) Q E s := by
  refine callType_new F.called_enumerate (by decide) (F.typeCall_enumerate_1 _) (F.newCall_enumerate_1 _) (fun obj => F.args_object_init_2 obj _) F.entry_enumerate_new (meets_enumT t items) ⟨ht, ?_⟩
  have hz : (s.heap.push { cls := .type "tuple_iterator", data := .fields #[.ref t, .int 0 0] }).objs.size = s.heap.objs.size + 1 := Heap.size_push ..
  show _ ∧ _
  rw [hz]
  generalize ho : ({ cls := .type "enumerate", data := .fields #[.none, .bool false, .ref s.heap.objs.size, rawInt 0, .none, .none] } : Obj) = oe
  have he : ((s.heap.push { cls := .type "tuple_iterator", data := .fields #[.ref t, .int 0 0] }).push oe).get? (s.heap.objs.size + 1) = some oe := by
    have := Heap.get?_push_size (s.heap.push { cls := .type "tuple_iterator", data := .fields #[.ref t, .int 0 0] }) (o := oe) (by rw [← ho]; rfl)
    rw [hz] at this; exact this
  refine ⟨⟨_, he, by rw [← ho]⟩, h _ (by rw [← ho] at he ⊢; exact he) ⟨_, Heap.get?_push_of_some _ (Heap.get?_push_size _ rfl), rfl, rfl⟩ fun b o x => Heap.get?_push_of_some _ (Heap.get?_push_of_some _ x)⟩
theorem pi_enumT {X : Cx} {e : Expr} {ta : TA} {p pos tpos : Pos} {elts : List Expr} {kk : Nat} (hg : Gl X "enumerate") (hm : X.mg "enumerate" = none) (ha : PA X [e] ta) (hs : starEach [e] X.env = [(false, eval e X.env)] := by rfl) :
    PI X (.Tuple elts kk tpos) (.Call (.Name "enumerate" p) [e] [] pos) (iEnumT X.K ta) := by
  refine ⟨fun pins s σ H R I h => Call_ (ld_blt I hg hm boot_enumerate (PyProof.Rows.callWith_type1 (thn (ha.run pos pins s σ H _ I h) fun us s1 ⟨vs, H1, I1, r1, a, xs, ex, hq, q⟩ => ?_) hs rfl))⟩
  subst ex
  cases r1 with
  | cons r rr =>
    cases rr; cases r
    obtain ⟨its, rv, p', hz⟩ := I1.tuple hq
    have hal : a < s1.heap.objs.size := by obtain ⟨o, ho, _⟩ := p'; exact Heap.lt_size ho
    refine call_enumT p' fun h' he hit hk => wpAny_pyIter_enum he ?_
    refine ⟨s1.heap.objs.size + 1, [s1.heap.objs.size + 1, s1.heap.objs.size], _, _, H1, rfl, I1.kept (t' := s1.toks) hk, turn_enumT a (s1.heap.objs.size + 1) s1.heap.objs.size (Nat.ne_of_lt hal) (Nat.ne_of_lt (Nat.lt_succ_of_lt hal)), ⟨⟨.none, he⟩, hit, Nat.succ_ne_self _⟩, fun b hb => ?_, q⟩
    have high : s1.heap.objs.size ≤ b := by
      have which : b = s1.heap.objs.size + 1 ∨ b = s1.heap.objs.size := by simpa using hb
      rcases which with z | z <;> rw [z]
      · exact Nat.le_succ _
      · exact Nat.le_refl _
    exact I1.fpOk high (I1.hok.fresh high)

/-! ### for k in d, d a dict with nested keys that stands as it is -/
def ItN (P : Program) (w : World) (d : Addr) (o : Obj) (xs : List Ent) : It :=
  ⟨fun i H => H d = some (dob d o) ∧ NObj P w d o xs ∧ i < xs.length, fun i H x H' => H' = H ∧ ∃ (k : NestedKey) (q : Addr) (u : Value), xs[i]? = some (k, q, u) ∧ x = .ref q, fun i H => H d = some (dob d o) ∧ NObj P w d o xs ∧ xs.length ≤ i⟩
theorem turn_n {P : Program} {w : World} {K : PySem.W.Frag} {tg : Expr} {d : Addr} {o : Obj} {es : Array DictEntry} {ep : Nat} {xs : List Ent} (it : Addr) (hod : o.data = .dict es ep) (hes : es.toList = xs.map (entryOfKey (nestedKind P w))) :
    Turn P w K tg (ItN P w d o xs) [it] it (fun i h => h.IsKeyIter it d i xs.length ep) where
  mem := by simp
  obj := fun i h st b hb => by
    have z : b = it := by simpa using hb
    obtain ⟨oi, has, _, dat⟩ := st
    exact ⟨oi, by rw [z]; exact has, fun v q => by rw [dat] at q; cases q⟩
  keep := fun i h h' st kept => st.at (kept it (List.mem_singleton.mpr rfl))
  item := by
    intro X hP hw hK hc i pins s σ H E I hf st hg
    subst hP hw hK
    obtain ⟨hd, hN, hi⟩ := hg
    obtain ⟨f0, f1, f2, f3, f4, f5⟩ := hf it (by simp)
    have hgd := dob_get I hd
    have hsz : es.size = xs.length := size_of_entries hes
    obtain ⟨⟨k, q, u⟩, hx⟩ : ∃ p, xs[i]? = some p := ⟨xs[i], List.getElem?_eq_getElem hi⟩
    have hen : es[i]? = some (entryOfKey (nestedKind X.prog X.w) (k, q, u)) := by rw [entry_at hes, hx]; rfl
    refine next_key_item st hgd hod hsz hen fun h' st' sb => ?_
    have J := I.turned (t' := s.toks) (fun b ob nb e => (sb.2 b nb).trans e) f0 f1 f3 f4 f5
    obtain ⟨oi, has, isI, dat⟩ := id st'
    exact ⟨_, rfl, go_of (s := { s with heap := h' }) has isI dat (by decide) ⟨.ref q, H, J, rfl, ⟨rfl, k, q, u, hx, rfl⟩, st', fun b hb => (hf b hb).1⟩⟩
  done := by
    intro X hP hw hK hc i pins s σ H E I hf st hg
    subst hP hw hK
    obtain ⟨hd, hN, hi⟩ := hg
    obtain ⟨f0, f1, f2, f3, f4, f5⟩ := hf it (by simp)
    exact next_key_end (I.ok.hd hc) st (dob_get I hd) hod (size_of_entries hes) hi fun h' eb => ⟨rfl, I.turned (t' := s.toks) (fun b ob hb e => eb b ob hb e) f0 f1 f3 f4 f5⟩
  self := fun A i s Q E st h =>
    wpAny_pyIter_slot st.typeIs F.slot_dict_keyiterator_iter (wpAny_call_entry F.slot_dict_keyiterator_iter st.typeIs F.entry_dict_keyiterator_iter
      (show wpAny _ _ (ret (.ref it)) _ _ s from wpAny_pure ⟨_, rfl, "dict_keyiterator", _, st.typeIs, F.slot_dict_keyiterator_next.lookup, h⟩) (F.args_dict_keyiterator_iter_1 _))
def iN (P : Program) (w : World) (td : TE) : TI := fun σ H R => td σ H fun x H1 => ∃ d o xs, x = .ref d ∧ H1 d = some (dob d o) ∧ NObj P w d o xs ∧ R (ItN P w d o xs) H1
theorem pi_n {X : Cx} {tg e : Expr} {td : TE} (he : PE X e td) : PI X tg e (iN X.prog X.w td) := by
  refine ⟨fun pins s σ H R I h => thn (he.run pins s σ H _ I h) fun u s1 ⟨x, H1, I1, rx, d, o, xs, ex, hd, hN, q⟩ => ?_⟩
  subst ex
  cases rx
  obtain ⟨es, ep, hdt, hes⟩ := hN.dat
  refine iter_keys hN.low (dob_get I1 hd) hN.ex hdt (pi_one (tk := s1.toks) I1 _ (turn_n _ hdt hes) ⟨_, Heap.get?_push_size _ rfl, rfl, ?_⟩ q)
  rw [size_of_entries hes]
  rfl

/-! ### what gives data, one after another -/
/-- from the state B on, whatever is owned: the i-th item reads as the i-th of ds -/
def WalkD (P : Program) (w : World) (B : Hp) (J : It) (ds : List PyData) : Prop := ∀ (i : Nat) (H : Hp) (O : Own), Ex B H → Live O H → (∀ a, O a = true → B a = none) →
  (i < ds.length → J.go i H) ∧ (∀ d, ds[i]? = some d → ∀ x H', J.yld i H x H' → Ex H H' ∧ Dr P w (hide O H') x d) ∧ (i = ds.length → J.stop i H)
def EI (X : Cx) (tg iter : Expr) (ρ : Env) (ds : List PyData) : Prop := ∃ wi, PI X tg iter wi ∧ ∀ (O0 O : Own) (H : Hp) (σ : L2.St), Live O H → RS X.prog X.w O0 O H σ ρ → ∀ R : It → Hp → Prop,
  (∀ J H', Ex H H' → WalkD X.prog X.w (hide O H') J ds → R J H') → wi σ H R
theorem hide_le {O : Own} {H B : Hp} (e : Ex B H) (h : ∀ a, O a = true → B a = none) : Ex B (hide O H) := fun a o q => by
  have : O a = false := by
    cases z : O a with
    | false => rfl
    | true => rw [h a z] at q; cases q
  rw [hide_at this]; exact e _ _ q
section
variable {X : Cx} {tg e a b : Expr} {ρ : Env} {ds xs ys : List PyData} {n : Int} {pos p : Pos}
theorem seq_get {P : Program} {w : World} {B : Hp} {vs : List V} {i : Nat} {x : V} {d : PyData} (r : DrA P w B vs ds) (h : vs[i]? = some x) (hd : ds[i]? = some d) : Dr P w B x d := by
  obtain ⟨d', h1, h2⟩ := r.getV h
  rw [hd] at h1; cases h1
  exact h2
theorem ei_tup (h : ED X e ρ (.tuple ds)) : EI X tg e ρ ds := ⟨_, pi_tup pw_e, fun O0 O H σ L rs R q => h O0 O H σ L rs _ fun v H1 e1 h1 => by
  cases h1 with
  | tup h1 r1 =>
    rename_i a vs
    refine ⟨a, rfl, ⟨vs, .of (hide_sub _ _ h1)⟩, q _ H1 e1 fun i H2 O2 ex L2 hO => ?_⟩
    have hs : SqT X.K H2 a vs := .of (ex _ _ h1)
    have hl := r1.length
    refine ⟨fun hi => ⟨vs, vs[i], hs, by rw [List.getElem?_eq_getElem (by omega)]⟩, fun d hd x H' y => ?_, fun hi => ⟨vs, hs, by omega⟩⟩
    obtain ⟨rfl, y⟩ := y
    exact ⟨.rfl', (seq_get r1 (y vs hs) hd).mono (hide_le (O := O2) ex hO)⟩⟩
theorem ei_lst (h : ED X e ρ (.list ds)) : EI X tg e ρ ds := ⟨_, pi_list pw_e, fun O0 O H σ L rs R q => h O0 O H σ L rs _ fun v H1 e1 h1 => by
  cases h1 with
  | lst h1 r1 =>
    rename_i a vs
    refine ⟨a, rfl, ⟨vs, .of (hide_sub _ _ h1)⟩, q _ H1 e1 fun i H2 O2 ex L2 hO => ?_⟩
    have hs : SqL X.K H2 a vs := .of (ex _ _ h1)
    have hl := r1.length
    refine ⟨fun hi => ⟨vs, vs[i], hs, by rw [List.getElem?_eq_getElem (by omega)]⟩, fun d hd x H' y => ?_, fun hi => ⟨vs, hs, by omega⟩⟩
    obtain ⟨rfl, y⟩ := y
    exact ⟨.rfl', (seq_get r1 (y vs hs) hd).mono (hide_le (O := O2) ex hO)⟩⟩
theorem DrK.getA {P : Program} {w : World} {B : Hp} {k : NestedKey} {q : Addr} {u : Value} : ∀ {xs : List Ent} {t : Tab} {i : Nat}, DrK P w B xs t → xs[i]? = some (k, q, u) → Dr P w B (.ref q) k.data ∧ ∃ d, t[i]? = some (k, d)
  | _, _, 0, .cons h1 _ _ _ _, e => by simp at e; obtain ⟨rfl, rfl, rfl⟩ := e; exact ⟨h1, _, rfl⟩
  | _, _, i + 1, .cons _ _ _ _ r, e => by
    obtain ⟨h1, d, h2⟩ := r.getA (i := i) (by simpa using e)
    exact ⟨h1, d, by simpa using h2⟩
/-- a dict's keys -/
theorem ei_dic {t : Tab} (h : ED X e ρ (tabD t)) : EI X tg e ρ (t.map fun p => p.1.data) := ⟨_, pi_n pw_e, fun O0 O H σ L rs R q => h O0 O H σ L rs _ fun v H1 e1 h1 => by
  obtain ⟨d, o, es, rfl, h1, h2, h3⟩ := h1.tab
  refine ⟨d, o, es, rfl, hide_sub _ _ h1, h2, q _ H1 e1 fun i H2 O2 ex L2 hO => ?_⟩
  have hl := h3.length
  refine ⟨fun hi => ⟨ex _ _ h1, h2, by simpa [hl] using hi⟩, fun dd hd x H' y => ?_, fun hi => ⟨ex _ _ h1, h2, by simp at hi; omega⟩⟩
  obtain ⟨rfl, k, a, u, hx, rfl⟩ := y
  obtain ⟨g1, d', g2⟩ := h3.getA hx
  rw [List.getElem?_map, g2] at hd
  cases hd
  exact ⟨.rfl', g1.mono (hide_le (O := O2) ex hO)⟩⟩
theorem dr_pair {P : Program} {w : World} {O : Own} {H : Hp} {T : Addr} {x y : V} {d1 d2 : PyData} (hT : H T = none) (L : Live O H) (h1 : Dr P w (hide O H) x d1) (h2 : Dr P w (hide O H) y d2) : Dr P w (hide O (upd H T (.tup [x, y]))) (.ref T) (.tuple [d1, d2]) :=
  .tup (by rw [hide_at (L.no hT), upd_same]) (.cons (h1.mono (hide_ex (.new hT))) (.cons (h2.mono (hide_ex (.new hT))) .nil))
theorem ei_zip {elts : List Expr} {kk : Nat} {tpos : Pos} (G : Gd X) (ha : ED X a ρ (.tuple xs)) (hb : ED X b ρ (.tuple ys)) (hg : Gl X "zip" := by rfl)
    (hs : starEach [a, b] X.env = (false, eval a X.env) :: starEach [b] X.env := by exact star_of rfl) (hs2 : starEach [b] X.env = (false, eval b X.env) :: starEach [] X.env := by exact star_of rfl) (hpl : (backTo pos (starEach [b] X.env)).any (·.1) = false := by rfl) :
    EI X (.Tuple elts kk tpos) (.Call (.Name "zip" p) [a, b] [] pos) ρ (List.zipWith (fun x y => .tuple [x, y]) xs ys) := ⟨_, RZ.pi_zipA hg G.zip pw_a hs hpl, fun O0 O H σ L rs R q => ea_cons ha (ea_cons hb ea_nil hs2) hs O0 O H σ L rs _ fun vs H1 e1 h1 => by
  cases h1 with
  | cons h1 h2 =>
    cases h2 with
    | cons h2 h3 =>
      cases h3
      cases h1 with
      | tup h1 r1 =>
        cases h2 with
        | tup h2 r2 =>
          rename_i p1 vs1 p2 vs2
          refine ⟨p1, p2, vs1, vs2, rfl, .inr ⟨.of (hide_sub _ _ h1), .of (hide_sub _ _ h2), q _ H1 e1 fun i H2 O2 ex L2 hO => ?_⟩⟩
          have k1 : SqT X.K H2 p1 vs1 := .of (ex _ _ h1)
          have k2 : SqT X.K H2 p2 vs2 := .of (ex _ _ h2)
          have l1 := r1.length
          have l2 := r2.length
          have lz : (List.zipWith (fun x y => PyData.tuple [x, y]) xs ys).length = min xs.length ys.length := by rw [List.length_zipWith]
          refine ⟨fun hi => ⟨vs1, vs2, vs1[i]'(by omega), vs2[i]'(by omega), k1, k2, by rw [List.getElem?_eq_getElem], by rw [List.getElem?_eq_getElem]⟩, fun d hd x H' y => ?_, fun hi => ⟨vs1, vs2, k1, k2, by omega⟩⟩
          obtain ⟨T, x1, y1, rfl, hT, rfl, g1, g2⟩ := y
          rw [List.getElem?_zipWith] at hd
          obtain ⟨d1, e1', k3⟩ := r1.getV (g1 vs1 k1)
          obtain ⟨d2, e2', k4⟩ := r2.getV (g2 vs2 k2)
          rw [e1', e2'] at hd
          cases hd
          exact ⟨.new hT, dr_pair hT L2 (k3.mono (hide_le (O := O2) ex hO)) (k4.mono (hide_le (O := O2) ex hO))⟩⟩
def enumD (n : Nat) : List PyData → List PyData
  | [] => []
  | d :: ds => .tuple [.int n, d] :: enumD (n + 1) ds
theorem enumD_get : ∀ (ds : List PyData) (n i : Nat), (enumD n ds)[i]? = ds[i]?.map fun d => .tuple [.int ((n + i : Nat) : Int), d]
  | [], n, i => by simp [enumD]
  | d :: ds, n, 0 => by simp [enumD]
  | d :: ds, n, i + 1 => by
    simp only [enumD, List.getElem?_cons_succ]
    rw [enumD_get ds (n + 1) i, show n + 1 + i = n + (i + 1) by omega]
theorem enumD_length : ∀ (ds : List PyData) (n : Nat), (enumD n ds).length = ds.length
  | [], n => rfl
  | d :: ds, n => by simp [enumD, enumD_length ds]
theorem ei_enum {elts : List Expr} {kk : Nat} {tpos : Pos} (G : Gd X) (ha : ED X a ρ (.tuple xs)) (hg : Gl X "enumerate" := by rfl) (hs : starEach [a] X.env = [(false, eval a X.env)] := by exact star_of rfl) :
    EI X (.Tuple elts kk tpos) (.Call (.Name "enumerate" p) [a] [] pos) ρ (enumD 0 xs) := ⟨_, pi_enumT hg G.enum pw_a hs, fun O0 O H σ L rs R q => ea_cons ha ea_nil hs O0 O H σ L rs _ fun vs H1 e1 h1 => by
  cases h1 with
  | cons h1 h2 =>
    cases h2
    cases h1 with
    | tup h1 r1 =>
      rename_i p1 vs1
      refine ⟨p1, vs1, rfl, .of (hide_sub _ _ h1), q _ H1 e1 fun i H2 O2 ex L2 hO => ?_⟩
      have k1 : SqT X.K H2 p1 vs1 := .of (ex _ _ h1)
      have l1 := r1.length
      have lz := enumD_length xs 0
      refine ⟨fun hi => ⟨vs1, vs1[i]'(by omega), k1, by rw [List.getElem?_eq_getElem]⟩, fun d hd x H' y => ?_, fun hi => ⟨vs1, k1, by omega⟩⟩
      obtain ⟨T, x1, rfl, hT, rfl, g1⟩ := y
      obtain ⟨d1, e1', k3⟩ := r1.getV (g1 vs1 k1)
      rw [enumD_get, e1'] at hd
      cases hd
      rw [Nat.zero_add]
      exact ⟨.new hT, dr_pair hT L2 (.int _) (k3.mono (hide_le (O := O2) ex hO))⟩⟩
theorem ei_range (G : Gd X) (ha : ED X a ρ (.int n)) (h0 : 0 ≤ n) (hn : n < 2 ^ 62) (hg : Gl X "range" := by rfl) (hs : starEach [a] X.env = [(false, eval a X.env)] := by exact star_of rfl) (hs2 : starEach [a] X.env = (false, eval a X.env) :: starEach [] X.env := by exact star_of rfl) :
    EI X tg (.Call (.Name "range" p) [a] [] pos) ρ ((List.range n.toNat).map fun i => .int (i : Nat)) := ⟨_, pi_range1 hg G.range pw_a hs, fun O0 O H σ L rs R q => ea_cons ha ea_nil hs2 O0 O H σ L rs _ fun vs H1 e1 h1 => by
  cases h1 with
  | cons h1 h2 =>
    cases h2
    cases h1
    refine ⟨n, rfl, by omega, hn, q _ H1 e1 fun i H2 O2 ex L2 hO => ⟨fun hi => ?_, fun d hd x H' y => ?_, fun hi => ?_⟩⟩
    · simpa [Itr] using hi
    · obtain ⟨rfl, rfl⟩ := y
      rw [List.getElem?_map] at hd
      obtain ⟨m, hm, rfl⟩ := Option.map_eq_some_iff.mp hd
      have : m = i := by
        have h := List.getElem?_eq_some_iff.mp hm
        obtain ⟨hl, hh⟩ := h
        simpa using hh.symm
      subst this
      refine ⟨.rfl', ?_⟩
      rw [Int.zero_add]
      exact .int _
    · simp at hi
      show n.toNat ≤ i
      omega⟩
/-- a text, sign by sign -/
theorem ei_str {z : Str} (h : ED X e ρ (.str z)) : EI X tg e ρ (z.cps.toList.map fun c => .str ⟨#[c]⟩) := ⟨_, pi_str pw_e, fun O0 O H σ L rs R q => h O0 O H σ L rs _ fun v H1 e1 h1 => by
  cases h1
  refine ⟨z, rfl, q _ H1 e1 fun i H2 O2 ex L2 hO => ⟨fun hi => ?_, fun d hd x H' y => ?_, fun hi => ?_⟩⟩
  · simpa [Its] using hi
  · obtain ⟨rfl, c, hc, rfl⟩ := y
    rw [List.getElem?_map, Array.getElem?_toList, hc] at hd
    cases hd
    exact ⟨.rfl', .str _⟩
  · simp at hi
    show z.cps.size ≤ i
    omega⟩
end
end K79

set_option Elab.async false
set_option linter.all false
set_option maxRecDepth 100000
set_option maxHeartbeats 2000000
/-! Targets, comprehensions -/
namespace K79
open PySem PySem.Spec PyProof.Rows L2

/-! ### slots set, slots forgotten -/
def setVs (σ : L2.St) (l : List (Nat × V)) : L2.St := l.foldl (fun σ p => σ.set p.1 (some p.2)) σ
def setDs (ρ : Env) (us : List (Nat × PyData)) : Env := us.foldl (fun ρ p => ρ.set p.1 (some (.dat p.2))) ρ
def wipeP (ρ : Env) : List Nat → Env
  | [] => ρ
  | v :: vs => (wipeP ρ vs).set v none
theorem wipe_get {σ : L2.St} {i : Nat} : ∀ {vs : List Nat}, (wipe σ vs)[i]? = if i ∈ vs then σ[i]?.map (fun _ => none) else σ[i]?
  | [] => by simp [wipe]
  | v :: vs => by
    rw [wipe]
    by_cases h : v = i
    · subst h
      rw [if_pos List.mem_cons_self]
      by_cases hl : v < σ.length
      · rw [List.getElem?_set_self (by rw [wipe_length]; exact hl), List.getElem?_eq_getElem hl]; rfl
      · rw [List.getElem?_eq_none (by rw [List.length_set, wipe_length]; omega), List.getElem?_eq_none (by omega)]; rfl
    · rw [List.getElem?_set_ne h, wipe_get]
      simp only [List.mem_cons, Ne.symm h, false_or]
theorem wipe_set {σ : L2.St} {i : Nat} {x : Option V} {vs : List Nat} (h : i ∈ vs) : wipe (σ.set i x) vs = wipe σ vs := by
  apply List.ext_getElem?
  intro j
  rw [wipe_get, wipe_get]
  by_cases e : i = j
  · subst e
    rw [if_pos h, if_pos h]
    by_cases hl : i < σ.length
    · rw [List.getElem?_set_self hl, List.getElem?_eq_getElem hl]; rfl
    · rw [List.getElem?_eq_none (by rw [List.length_set]; omega), List.getElem?_eq_none (by omega)]
  · rw [List.getElem?_set_ne e]
theorem wipe_wipe {σ : L2.St} {vs : List Nat} : wipe (wipe σ vs) vs = wipe σ vs := by
  apply List.ext_getElem?
  intro j
  rw [wipe_get, wipe_get]
  by_cases e : j ∈ vs
  · rw [if_pos e]
    rw [if_pos e]
    cases σ[j]? <;> rfl
  · rw [if_neg e]
theorem wipe_setVs {vs : List Nat} : ∀ {l : List (Nat × V)} {σ : L2.St}, (∀ p ∈ l, p.1 ∈ vs) → wipe (setVs σ l) vs = wipe σ vs
  | [], σ, _ => rfl
  | p :: l, σ, h => by
    show wipe (setVs (σ.set p.1 (some p.2)) l) vs = _
    rw [wipe_setVs fun q hq => h q (List.mem_cons_of_mem _ hq), wipe_set (h p List.mem_cons_self)]
section
variable {P : Program} {w : World} {O0 O : Own} {H : Hp} {σ : L2.St} {ρ : Env}
theorem RS.unslot {i : Nat} (r : RS P w O0 O H σ ρ) : RS P w O0 O H (σ.set i none) (ρ.set i none) where
  len := by simp [r.len]
  at_ := fun j pv e => by
    by_cases q : i = j
    · subst q
      have hl : i < ρ.length := by have := (List.getElem?_eq_some_iff.mp e).1; simpa using this
      rw [List.getElem?_set_self hl] at e; cases e
    · rw [List.getElem?_set_ne q] at e ⊢
      exact r.at_ j pv e
  apart := fun j k pv qv a b hne e1 e2 o1 o2 s1 s2 => by
    have key : ∀ {m : Nat} {x : PV} {y : Option V}, (ρ.set i none)[m]? = some (some x) → (σ.set i none)[m]? = some y → ρ[m]? = some (some x) ∧ σ[m]? = some y := fun {m x y} e e' => by
      by_cases q : i = m
      · subst q
        have hl : i < ρ.length := by have := (List.getElem?_eq_some_iff.mp e).1; simpa using this
        rw [List.getElem?_set_self hl] at e; cases e
      · rw [List.getElem?_set_ne q] at e e'; exact ⟨e, e'⟩
    exact r.apart j k pv qv a b hne (key e1 s1).1 (key e2 s2).1 o1 o2 (key e1 s1).2 (key e2 s2).2
theorem RS.wipe (r : RS P w O0 O H σ ρ) : ∀ vs : List Nat, RS P w O0 O H (L2.wipe σ vs) (wipeP ρ vs)
  | [] => r
  | v :: vs => (r.wipe vs).unslot
theorem RS.setVs : ∀ {us : List (Nat × PyData)} {xs : List V} {σ : L2.St} {ρ : Env}, RS P w O0 O H σ ρ → DrA P w (hide O H) xs (us.map (·.2)) → RS P w O0 O H (K79.setVs σ ((us.map (·.1)).zip xs)) (setDs ρ us)
  | [], _, _, _, r, .nil => r
  | u :: us, _, _, _, r, .cons h t => RS.setVs (us := us) (r.setD h) t
end

/-! ### targets -/
def GD (X : Cx) (tg : Expr) (d : PyData) (us : List (Nat × PyData)) : Prop := ∀ (O : Own) (H : Hp) (v : V) (σ : L2.St), Dr X.prog X.w (hide O H) v d → ∀ Q : L2.St → Hp → Prop,
  (∀ xs : List V, DrA X.prog X.w (hide O H) xs (us.map (·.2)) → Q (setVs σ ((us.map (·.1)).zip xs)) H) → WG X tg v σ H Q
def GDs (X : Cx) (ts : List Expr) (ds : List PyData) (us : List (Nat × PyData)) : Prop := ∃ t, PGs X ts t ∧ ∀ (O : Own) (H : Hp) (vs : List V) (σ : L2.St), DrA X.prog X.w (hide O H) vs ds → ∀ Q : L2.St → Hp → Prop,
  (∀ xs : List V, DrA X.prog X.w (hide O H) xs (us.map (·.2)) → Q (setVs σ ((us.map (·.1)).zip xs)) H) → t vs σ H Q
section
variable {X : Cx} {e : Expr} {es : List Expr} {d : PyData} {ds : List PyData} {us us' : List (Nat × PyData)} {pos : Pos}
theorem gd_name {x : Str} (i : Nat) (hN : X.N.Nodup) (hi : X.N[i]? = some x := by rfl) (hx : Loc X.env.scope x := by first | exact .inl rfl | exact .inr rfl) (hf : X.fn x = true ∨ X.env.scope.names.lookup x = some .local := by first | exact .inl rfl | exact .inr rfl) :
    GD X (.Name x pos) d [(i, d)] := fun O H v σ h Q q => wg_of (pg_name hN hi hx hf) (q [v] (.cons h .nil))
theorem gds_nil : GDs X [] [] [] := ⟨_, pgs_nil, fun O H vs σ h Q q => by
  cases h
  exact ⟨rfl, q [] .nil⟩⟩
theorem setVs_append (σ : L2.St) (a b : List (Nat × V)) : setVs σ (a ++ b) = setVs (setVs σ a) b := List.foldl_append
theorem gds_cons (h1 : GD X e d us) (h2 : GDs X es ds us') (hs : (assignEach (e :: es) X.env).map (·.2) = assign e X.env :: (assignEach es X.env).map (·.2) := by rfl) : GDs X (e :: es) (d :: ds) (us ++ us') := by
  obtain ⟨t, p, r⟩ := h2
  refine ⟨_, pgs_cons pw_g p hs, fun O H vs σ h Q q => ?_⟩
  cases h with
  | @cons v vs' _ _ hv hr =>
    refine ⟨v, vs', rfl, h1 O H v σ hv _ fun xs hx => r O H vs' _ hr _ fun ys hy => ?_⟩
    have := q (xs ++ ys) (by rw [List.map_append]; exact hx.append hy)
    have hl : (us.map (·.1)).length = xs.length := by rw [hx.length]; simp
    rw [List.map_append, List.zip_append hl, setVs_append] at this
    exact this
theorem gd_tup {k n : Nat} (hc : X.calm = true) (h : GDs X es ds us) (hl : ds.length = n) (hn : (assignEach es X.env).length = n := by rfl) (hst : (assignEach es X.env).findIdx? (·.1) = none := by rfl) : GD X (.Tuple es k pos) (.tuple ds) us := by
  obtain ⟨t, p, r⟩ := h
  intro O H v σ h Q q
  refine wg_of (pg_tup hc p hn hst) ?_
  cases h with
  | tup h1 h2 => exact ⟨_, _, rfl, .of (hide_sub _ _ h1), by rw [h2.length]; exact hl, r O H _ σ h2 Q q⟩
end

/-! ### a clause's tests -/
def ETs (X : Cx) (ifs : List Expr) (ρ : Env) (b : Bool) : Prop := ∀ (O0 O : Own) (H : Hp) (σ : L2.St), Live O H → RS X.prog X.w O0 O H σ ρ → ∀ Q : Bool → Hp → Prop, (∀ H', Ex H H' → Q b H') → WTs X ifs σ H Q
section
variable {X : Cx} {c : Expr} {ρ : Env} {b : Bool}
theorem ets_nil : ETs X [] ρ true := fun O0 O H σ L rs Q q => ⟨fun pins s I => pts_nil.run pins s σ H Q I (q H .rfl')⟩
theorem ets_one (h : ET X c ρ b) : ETs X [c] ρ b := fun O0 O H σ L rs Q q => ⟨fun pins s I => (pts_one pw_t).run pins s σ H Q I (h O0 O H σ L rs Q q)⟩
end

/-! ### comprehensions -/
/-- the context of a comprehension's block -/
abbrev inBlk (X : Cx) (scope : Scope) (s : Shared) (H : Hp) (C : Addr) (cl : List (Str × Addr)) (fp : List Addr) : Cx := X.blk s H scope (compEnvC scope cl C X.env) fp
theorem Ex.mut' {H H' : Hp} {p : Addr} {o : HO} (e : Ex H H') (h : H p = none) : Ex H (upd H' p o) := fun a u ha => by
  rw [upd_ne (ne_of_none ha h)]
  exact e a u ha
theorem filterMap_take {α β : Type} (f : α → Option β) (l : List α) {i : Nat} {d : α} (h : l[i]? = some d) : (l.take (i + 1)).filterMap f = (l.take i).filterMap f ++ (f d).toList := by
  rw [List.take_succ, h, List.filterMap_append]
  simp only [Option.toList, List.filterMap_cons, List.filterMap_nil]
  cases f d <;> rfl
/-- [elt for ..]: what its reading asks -/
theorem lc_asks {X : Cx} {elt tg : Expr} {ifs : List Expr} {scope : Scope} {own : List (Str × Nat)} {ρ : Env} {α : Type} {gd : α → PyData} {ds : List α} (f : α → Option PyData) (us : α → List (Nat × PyData)) {wi : TI}
    (hz : ds.length ≤ 1000000)
    (hb : ∀ s H C cl fp d, d ∈ ds → (∀ u ∈ us d, u.1 ∈ own.map (·.2)) ∧ GD (inBlk X scope s H C cl fp) tg (gd d) (us d) ∧ ETs (inBlk X scope s H C cl fp) ifs (setDs (wipeP ρ (own.map (·.2))) (us d)) (f d).isSome ∧
      ∀ y, f d = some y → ED (inBlk X scope s H C cl fp) elt (setDs (wipeP ρ (own.map (·.2))) (us d)) y)
    (O0 O : Own) (H : Hp) (σ : L2.St) (L : Live O H) (rs : RS X.prog X.w O0 O H σ ρ) (hw : ∀ R : It → Hp → Prop, (∀ J H', Ex H H' → WalkD X.prog X.w (hide O H') J (ds.map gd) → R J H') → wi σ H R) (Q : VK) (q : ∀ p vs H', H p = none → Ex H H' → H' p = some (.lst vs) → DrA X.prog X.w (hide (add O p) H') vs (ds.filterMap f) → Q (.ref p) H') :
    tLc wi (fun v σ H Q => ∀ s H' C cl fp, WG (inBlk X scope s H' C cl fp) tg v σ H Q) (fun σ H Q => ∀ s H' C cl fp, WTs (inBlk X scope s H' C cl fp) ifs σ H Q) (fun σ H Q => ∀ s H' C cl fp, WE (inBlk X scope s H' C cl fp) elt σ H Q) (own.map (·.2)) σ H Q := by
  refine hw _ fun J H1 e1 wk D hD => ?_
  have L1 := L.ex e1
  have hHD : H D = none := e1.back hD
  let Pv : Nat → Hp → Prop := fun i H' => Ex H1 H' ∧ ∃ acc, H' D = some (.lst acc) ∧ DrA X.prog X.w (hide (add O D) H') acc ((ds.take i).filterMap f)
  refine ⟨fun i m H' => m = ds.length - i ∧ i ≤ ds.length ∧ Pv i H', ⟨ds.length, by omega, Nat.zero_le _, .new hD, [], upd_same, by simpa using DrA.nil⟩, ?_⟩
  rintro i m H2 ⟨rfl, hi, e2, acc, hacc, dacc⟩
  have live2 : Live (add O D) H2 := fun a h => by
    by_cases z : a = D
    · subst z; exact ⟨_, hacc⟩
    · rw [add_other z] at h
      obtain ⟨o, k⟩ := L1 a h
      exact ⟨o, e2 _ _ k⟩
  have own2 : ∀ a, add O D a = true → hide O H1 a = none := fun a h => by
    by_cases z : a = D
    · subst z
      rw [hide_at (L1.no hD)]; exact hD
    · rw [add_other z] at h; exact hide_own h
  obtain ⟨w1, w2, w3⟩ := wk i H2 (add O D) (hide_sub.trans e2) live2 own2
  rw [List.length_map] at w1 w3
  by_cases hlt : i < ds.length
  · refine .inr ⟨w1 hlt, Pv (i + 1), fun H' p' => ⟨ds.length - (i + 1), by omega, rfl, hlt, p'⟩, fun x H3 hy => ?_⟩
    obtain ⟨d, hd⟩ : ∃ d, ds[i]? = some d := ⟨ds[i], List.getElem?_eq_getElem hlt⟩
    obtain ⟨e3, hx⟩ := w2 (gd d) (by rw [List.getElem?_map, hd]; rfl) x H3 hy
    have hmem : d ∈ ds := List.mem_of_getElem? hd
    have e13 := e2.trans e3
    have live3 := live2.ex e3
    have rs3 : RS X.prog X.w O0 (add O D) H3 (wipe σ (own.map (·.2))) (wipeP ρ (own.map (·.2))) := (rs.grow (e1.trans e13) (hide_new (e1.trans e13) hHD) fun a h => by
      by_cases z : a = D
      · rw [z]; exact add_self
      · rw [add_other z]; exact h).wipe _
    -- the target, the tests, the element
    intro s H' C cl fp
    obtain ⟨b1, b2, b3, b4⟩ := hb s H' C cl fp d hmem
    refine b2 (add O D) H3 x _ hx _ fun xs hxs => ?_
    have rs4 := rs3.setVs hxs
    refine ⟨?_, fun s H' C cl fp => ?_⟩
    · rw [wipe_setVs, wipe_wipe]
      intro p hp
      obtain ⟨u, hu, e⟩ := List.mem_map.mp (List.of_mem_zip hp).1
      rw [← e]; exact b1 u hu
    obtain ⟨_, _, b3, b4⟩ := hb s H' C cl fp d hmem
    refine b3 O0 (add O D) H3 _ live3 rs4 _ fun H4 e4 => ?_
    have hf := filterMap_take f ds hd
    cases hfd : f d with
    | none =>
      refine iteF ⟨e13.trans e4, acc, e4 _ _ (e3 _ _ hacc), ?_⟩
      rw [hf, hfd]
      simpa using dacc.mono (hide_ex (e3.trans e4))
    | some y =>
      refine iteT fun s H' C cl fp => ?_
      obtain ⟨_, _, _, b4⟩ := hb s H' C cl fp d hmem
      refine b4 y hfd O0 (add O D) H4 _ (live3.ex e4) (rs4.ex e4) _ fun v H5 e5 hv => ?_
      have hD5 : H5 D = some (.lst acc) := e5 _ _ (e4 _ _ (e3 _ _ hacc))
      have hl := dacc.length
      have hl2 : ((ds.take i).filterMap f).length ≤ i := Nat.le_trans (List.length_filterMap_le _ _) (by rw [List.length_take]; omega)
      refine ⟨acc, hD5, by rw [sizeLine_eq]; omega, (e13.trans (e4.trans e5)).mut' hD, acc ++ [v], upd_same, ?_⟩
      rw [hide_upd add_self, hf, hfd]
      exact (dacc.mono (hide_ex (e3.trans (e4.trans e5)))).append (.cons hv .nil)
  · have hin : i = ds.length := by omega
    refine .inl ⟨w3 hin, ?_⟩
    subst hin
    rw [List.take_length] at dacc
    exact q D acc H2 hHD (e1.trans e2) hacc dacc
theorem en_lc {X : Cx} {elt tg iter : Expr} {ifs : List Expr} {scope : Scope} {own : List (Str × Nat)} {pos : Pos} {ρ : Env} {α : Type} {gd : α → PyData} {ds : List α} (f : α → Option PyData) (us : α → List (Nat × PyData))
    (G : Gd X) (hN : X.N.Nodup) (hi : EI X tg iter ρ (ds.map gd)) (ok : BlkOk X.N X.env.scope scope own) (hz : ds.length ≤ 1000000)
    (hb : ∀ s H C cl fp d, d ∈ ds → (∀ u ∈ us d, u.1 ∈ own.map (·.2)) ∧ GD (inBlk X scope s H C cl fp) tg (gd d) (us d) ∧ ETs (inBlk X scope s H C cl fp) ifs (setDs (wipeP ρ (own.map (·.2))) (us d)) (f d).isSome ∧
      ∀ y, f d = some y → ED (inBlk X scope s H C cl fp) elt (setDs (wipeP ρ (own.map (·.2))) (us d)) y)
    (hs : ∀ x, foldedSetIterable iter X.env x = pure x := by intro _; rfl) : EN X (.ListComp elt [⟨tg, iter, ifs, 0⟩] scope pos) ρ (ds.filterMap f) := fun O0 O H σ L rs Q q => by
  obtain ⟨wi, hp, hw⟩ := hi
  exact we_of (pe_lc G.calm hN hp ok (fun s H' C cl fp => ⟨fun pins s1 σ1 H1 v u Q1 I r h => (h s H' C cl fp).run pins s1 u I r⟩) (fun s H' C cl fp => ⟨fun pins s1 σ1 H1 Q1 I h => (h s H' C cl fp).run pins s1 I⟩) (fun s H' C cl fp => ⟨fun pins s1 σ1 H1 Q1 I h => (h s H' C cl fp).run pins s1 I⟩) hs)
    (lc_asks f us hz hb O0 O H σ L rs (hw O0 O H σ L rs) Q q)
theorem ets_c {X : Cx} {ifs : List Expr} {ρ : Env} {b b' : Bool} (h : ETs X ifs ρ b) (e : b = b') : ETs X ifs ρ b' := e ▸ h
theorem filterMap_c {α β : Type} (c : α → Bool) (f : α → β) : ∀ l : List α, l.filterMap (fun x => if c x = true then some (f x) else none) = (l.filter c).map f
  | [] => rfl
  | a :: l => by
    rw [List.filterMap_cons, List.filter_cons]
    by_cases h : c a = true
    · rw [if_pos h, if_pos h, List.map_cons]
      exact congrArg _ (filterMap_c c f l)
    · rw [if_neg h, if_neg h]
      exact filterMap_c c f l
/-- [elt for tg in iter if c] -/
theorem en_lcf {X : Cx} {elt tg iter : Expr} {ifs : List Expr} {scope : Scope} {pos : Pos} {ρ : Env} {α : Type} {gd : α → PyData} {ds : List α} (own : List (Str × Nat)) (c : α → Bool) (f : α → PyData) (us : α → List (Nat × PyData))
    (G : Gd X) (hN : X.N.Nodup) (hi : EI X tg iter ρ (ds.map gd)) (ok : BlkOk X.N X.env.scope scope own) (hz : ds.length ≤ 1000000)
    (hu : ∀ d, ∀ u ∈ us d, u.1 ∈ own.map (·.2)) (hg : ∀ s H C cl fp d, d ∈ ds → GD (inBlk X scope s H C cl fp) tg (gd d) (us d))
    (ht : ∀ s H C cl fp d, d ∈ ds → ETs (inBlk X scope s H C cl fp) ifs (setDs (wipeP ρ (own.map (·.2))) (us d)) (c d))
    (he : ∀ s H C cl fp d, d ∈ ds → c d = true → ED (inBlk X scope s H C cl fp) elt (setDs (wipeP ρ (own.map (·.2))) (us d)) (f d))
    (hs : ∀ x, foldedSetIterable iter X.env x = pure x := by intro _; rfl) : EN X (.ListComp elt [⟨tg, iter, ifs, 0⟩] scope pos) ρ ((ds.filter c).map f) := by
  rw [← filterMap_c]
  refine en_lc (fun x => if c x = true then some (f x) else none) us G hN hi ok hz (fun s H C cl fp d hd => ⟨hu d, hg s H C cl fp d hd, ets_c (ht s H C cl fp d hd) ?_, fun y e => ?_⟩) hs
  · by_cases h : c d = true
    · rw [if_pos h, h]; rfl
    · rw [if_neg h]; simpa using h
  · by_cases h : c d = true
    · rw [if_pos h] at e; cases e
      exact he s H C cl fp d hd h
    · rw [if_neg h] at e; cases e
theorem en_lcm {X : Cx} {elt tg iter : Expr} {scope : Scope} {pos : Pos} {ρ : Env} {α : Type} {gd : α → PyData} {ds : List α} (own : List (Str × Nat)) (f : α → PyData) (us : α → List (Nat × PyData))
    (G : Gd X) (hN : X.N.Nodup) (hi : EI X tg iter ρ (ds.map gd)) (ok : BlkOk X.N X.env.scope scope own) (hz : ds.length ≤ 1000000)
    (hu : ∀ d, ∀ u ∈ us d, u.1 ∈ own.map (·.2)) (hg : ∀ s H C cl fp d, d ∈ ds → GD (inBlk X scope s H C cl fp) tg (gd d) (us d))
    (he : ∀ s H C cl fp d, d ∈ ds → ED (inBlk X scope s H C cl fp) elt (setDs (wipeP ρ (own.map (·.2))) (us d)) (f d))
    (hs : ∀ x, foldedSetIterable iter X.env x = pure x := by intro _; rfl) : EN X (.ListComp elt [⟨tg, iter, [], 0⟩] scope pos) ρ (ds.map f) := by
  have z := en_lcf own (fun _ => true) f us G hN hi ok hz hu hg (fun s H C cl fp d hd => ets_nil) (fun s H C cl fp d hd _ => he s H C cl fp d hd) hs (pos := pos)
  rwa [List.filter_eq_self.mpr (fun _ _ => rfl)] at z
end K79

set_option Elab.async false
set_option linter.all false
set_option maxRecDepth 100000
set_option maxHeartbeats 4000000
/-! Dict comprehensions and displays with nested keys -/
namespace K79
open PySem PySem.Spec PyProof.Rows L2

section
variable {X : Cx} {pins : List (Addr × Obj)} {σ : L2.St} {H : Hp} {s : Shared}
def emptyD : Obj := { cls := .type "dict", data := .dict #[] }
theorem nobj_empty {P : Program} {w : World} {a : Addr} (lo : (a == sysModules) = false) : NObj P w a emptyD [] := ⟨⟨rfl, rfl, rfl⟩, ⟨#[], 0, rfl, rfl⟩, List.nodup_nil, Nat.zero_le _, lo⟩
theorem low_new (I : Inv X pins σ H s) : (s.heap.objs.size == sysModules) = false := beq_eq_false_iff_ne.mpr (Ne.symm (Nat.ne_of_lt I.big))
/-- a new empty dict -/
theorem n_laid {t' : Nat} (I : Inv X pins σ H s) : Inv X pins σ (upd H s.heap.objs.size (dob s.heap.objs.size emptyD)) { s with heap := s.heap.push emptyD, toks := t' } :=
  I.laid (fun _ _ q => Heap.get?_push_of_some _ q) (Nat.le_refl _) ⟨Heap.get?_push_size _ rfl, ⟨_, Heap.get?_push_size _ rfl⟩, fun h1 h2 p st => st _ p⟩
end

/-- {} -/
def tNewN (P : Program) (w : World) : TE := fun _ H Q => ∀ p o, H p = none → NObj P w p o [] → Q (.ref p) (upd H p (dob p o))
theorem pe_newN {X : Cx} {pos : Pos} : PE X (.Dict [] [] pos) (tNewN X.prog X.w) := ⟨fun pins s σ H Q I h =>
  wpAny_Dict_empty ⟨.ref s.heap.objs.size, _, n_laid (t' := s.toks) I, rfl, h _ _ (I.hok.fresh (Nat.le_refl _)) (nobj_empty (low_new I))⟩⟩

def tDcN (P : Program) (w : World) (wi : TI) (g : TG) (tt : TT) (tk tv : TE) (vs : List Nat) : TE := fun σ H Q => wi σ H fun J H1 => ∀ D o0, H1 D = none → NObj P w D o0 [] → ∃ W : Nat → Nat → Hp → Prop, (∃ m, W 0 m (upd H1 D (dob D o0))) ∧ ∀ i m H, W i m H →
  (J.stop i H ∧ Q (.ref D) H) ∨ (J.go i H ∧ ∃ Nx : Hp → Prop, (∀ H', Nx H' → ∃ m', m' < m ∧ W (i + 1) m' H') ∧ ∀ x H', J.yld i H x H' → g x (wipe σ vs) H' fun σ2 H2 => wipe σ2 vs = wipe σ vs ∧ tt σ2 H2 fun b H3 =>
    if b = true then tk σ2 H3 fun y H4 => tv σ2 H4 fun z H5 => ∃ (b : Addr) (k : NestedKey) (o : Obj) (xs : List Ent) (Hd : Hp) (t : Tab), y = .ref b ∧ H5 D = some (dob D o) ∧ NObj P w D o xs ∧ DrK P w Hd xs t ∧ Ex Hd H5 ∧ Dr P w H5 (.ref b) k.data ∧ k.depth ≤ 8 ∧ t.length < sizeLine ∧
      ∀ o' u, RelV z u → NObj P w D o' (storedH xs k b u) → Nx (upd H5 D (dob D o')) else Nx H3)
section
variable {X : Cx}
theorem dcn_core {pins : List (Addr × Obj)} {s : Shared} {σ : L2.St} {H : Hp} {Q : VK} {kx vx tg iter : Expr} {ifs : List Expr} {scope : Scope} {own : List (Str × Nat)} {pos pos' : Pos} {wi : TI} {g : TG} {tt : TT} {tk tv : TE} {Qf : Value → Shared → Prop} {use : Option (Value → Sem Unit)}
    (G : Gd X) (hN : X.N.Nodup) (I : Inv X pins σ H s) (hi : PI X tg iter wi) (ok : BlkOk X.N X.env.scope scope own)
    (hg : ∀ s H C cl fp, PG (inBlk X scope s H C cl fp) tg g) (ht : ∀ s H C cl fp, PTs (inBlk X scope s H C cl fp) ifs tt) (hk : ∀ s H C cl fp, PE (inBlk X scope s H C cl fp) kx tk) (he : ∀ s H C cl fp, PE (inBlk X scope s H C cl fp) vx tv)
    (hs : ∀ x, foldedSetIterable iter X.env x = pure x) (h : tDcN X.prog X.w wi g tt tk tv (own.map (·.2)) σ H Q)
    (fin : ∀ D C s' m H', Inv X pins σ H' s' → Q (.ref D) H' → s'.heap.Ns C m → FpOk X pins H' C → compPost (model X.prog X.w) X.A X.xe use Qf (.ref D) C (.ok .next) s') :
    wpAny (model X.prog X.w) X.A (comprehension (.DictComp kx vx [⟨tg, iter, ifs, 0⟩] scope pos) scope X.env pos' newDict false (eval iter X.env) use) Qf X.xe s := by
  have cellsThere : ∀ y ∈ scope.names, y.2 = .free → ∃ c, X.env.cells.lookup y.1 = some c := fun y hy e => (ok.free y hy e).elim (fun k => I.ok.has _ (.inl k)) fun k => I.ok.has _ (.inr k)
  refine wpAny_comprehension_free (use := use) rfl hs (closure_ok cellsThere) ok.kind (fun y hy e => by rw [ok.uniq y hy, e]) (thn (hi.run pins s σ H _ I h) fun _ s1 hx => thn hx fun _ s2 h2 => ?_)
  obtain ⟨it, fp, tn, J, H2, rfl, I2, T, rec2, f2, q⟩ := h2
  refine wpAny_newObj_type ?_
  refine newEnv_comp ?_
  have hDn : H2 s2.heap.objs.size = none := I2.hok.fresh (Nat.le_refl _)
  have IA := n_laid (t' := s2.toks) I2
  obtain ⟨W, ⟨m0, w0⟩, turn⟩ := q s2.heap.objs.size emptyD hDn (nobj_empty (low_new I2))
  have lt2 : ∀ b ∈ fp, b < s2.heap.objs.size := fun b hb => let ⟨_, e, _⟩ := T.obj _ _ rec2 b hb; Heap.lt_size e
  generalize hD : s2.heap.objs.size = D at hDn IA w0 turn lt2 ⊢
  generalize hs3 : ({ s2 with heap := s2.heap.push emptyD, toks := s2.toks } : Shared) = s3 at IA
  have hp3 : s3.heap = s2.heap.push emptyD := by rw [← hs3]
  generalize hH3 : upd H2 D (dob D emptyD) = H3 at IA w0
  have f3 : ∀ b ∈ fp, FpOk X pins H3 b ∧ b < s3.heap.objs.size := fun b hb => by
    have l := lt2 b hb
    have ne : b ≠ D := Nat.ne_of_lt l
    refine ⟨⟨?_, (f2 b hb).2⟩, ?_⟩
    · rw [← hH3, upd_ne ne]; exact (f2 b hb).1
    · rw [hp3, Heap.size_push, hD]; exact Nat.lt_succ_of_lt l
  have rec3 : tn 0 s3.heap := T.keep _ _ _ rec2 fun b _ o e => by rw [hp3]; exact Heap.get?_push_of_some _ e
  have IB := block_start IA ok hN f3
  generalize hcl : cellsFrom (s3.heap.objs.size + 1) scope.names (cloFrom X.env.cells scope.names []) = cl at IB
  generalize hs4 : ({ s3 with heap := pushCells (s3.heap.push { cls := .type "dict", data := .dict #[] }) scope.names } : Shared) = s4 at IB
  have rec4 : tn 0 s4.heap := T.keep _ _ _ rec3 (by intro b _ o e; rw [← hs4]; exact pushCells_keeps _ _ _ _ (Heap.get?_push_of_some _ e))
  -- how the iterator's records stand within the block
  have stat : ∀ {σ' : L2.St} {H' : Hp} {s' : Shared}, Inv (inBlk X scope s3 H3 s3.heap.objs.size cl fp) [] σ' H' s' → (∀ b ∈ fp, H' b = none) → ∀ b ∈ fp, FpOk (inBlk X scope s3 H3 s3.heap.objs.size cl fp) [] H' b := fun I' hn b hb =>
    ⟨hn b hb, (I'.ok.exf b hb).1, I'.ok.exfs b hb, .inl hb, fun x c e => (I'.ok.exf b hb).2 x c e, fun p hp => nomatch hp⟩
  have loop : codeAny (model X.prog X.w) X.A (.compLoop (.DictComp kx vx [⟨tg, iter, ifs, 0⟩] scope pos) 0 (.ref it) (.ref D) (compEnvC scope cl s3.heap.objs.size X.env)) (compPost (model X.prog X.w) X.A X.xe use Qf (.ref D) s3.heap.objs.size) s4 := by
    refine compLoop_anyD (fun n s' => ∃ i H', Inv (inBlk X scope s3 H3 s3.heap.objs.size cl fp) [] (wipe σ (own.map (·.2))) H' s' ∧ tn i s'.heap ∧ (∀ b ∈ fp, H' b = none) ∧ W i n H') ?_ m0 ⟨0, H3, IB, rec4, fun b hb => (f3 b hb).1.1, w0⟩
    rintro n s5 ⟨i, H5, I5, rec5, free5, inv5⟩
    rcases turn i n H5 inv5 with ⟨stop, done⟩ | ⟨go, Nx, hNx, step⟩
    · refine thnF (T.done (inBlk X scope s3 H3 s3.heap.objs.size cl fp) rfl rfl rfl G.calm i [] s5 _ H5 (fun _ _ => False) I5 (stat I5 free5) rec5 stop) fun r s6 ⟨hr, I6⟩ => ?_
      subst hr
      have I7 : Inv X pins σ H5 s6 := IA.call' (ch := fp) I6.os I6.base I6.hok I6.bare fun b hb => let z := (f3 b hb).1.2; ⟨z.2.2.1, z.1, z.2.2.2.1, z.2.2.2.2⟩
      obtain ⟨m, hn, _⟩ := I6.loc
      exact fin D s3.heap.objs.size s6 m H5 I7 done hn (IA.fpOk (Nat.le_refl _) I6.free)
    · refine thnF (T.item (inBlk X scope s3 H3 s3.heap.objs.size cl fp) rfl rfl rfl G.calm i [] s5 _ H5 (fun _ _ => False) I5 (stat I5 free5) rec5 go) fun r s6 ⟨u, hr, went⟩ => ?_
      subst hr
      refine thnF went fun _ s7 ⟨item, H7, I7, r7, told7, rec7, free7⟩ => ?_
      have ob7 := T.obj _ _ rec7
      refine thnF ((hg s3 H3 s3.heap.objs.size cl fp).run _ s7 _ H7 item u _ (I7.pinned (stat I7 free7) ob7) r7 (step item H7 told7)) fun _ s8 ⟨σ8, H8, I8, hw8, q8⟩ => ?_
      refine thnF ((ht s3 H3 s3.heap.objs.size cl fp).run _ s8 σ8 H8 _ I8 q8) fun b s9 ⟨H9, I9, q9⟩ => ?_
      have close : ∀ {s' : Shared} {H' : Hp}, Inv (inBlk X scope s3 H3 s3.heap.objs.size cl fp) ([] ++ pinsAt fp s7.heap) σ8 H' s' → Nx H' → ∃ m, m < n ∧ ∃ i H', Inv (inBlk X scope s3 H3 s3.heap.objs.size cl fp) [] (wipe σ (own.map (·.2))) H' s' ∧ tn i s'.heap ∧ (∀ b ∈ fp, H' b = none) ∧ W i m H' := fun {s' H'} I' nx => by
        obtain ⟨left, less, again⟩ := hNx H' nx
        have kept : ∀ b ∈ fp, ∀ o, s7.heap.get? b = some o → s'.heap.get? b = some o ∧ H' b = none := fun b hb o e =>
          let z := I'.pin (b, o) (List.mem_append_right _ (List.mem_append_right _ (mem_pinsAt hb e))); ⟨z.1, z.2.1⟩
        refine ⟨left, less, i + 1, H', (I'.unpinned (pins := [])).weak (by rw [← hw8, wipe_length]) (fun j v e => by rw [← hw8] at e; exact (wipe_some e).1), T.keep _ _ _ rec7 fun b hb o e => (kept b hb o e).1, fun b hb => ?_, again⟩
        obtain ⟨o, e, _⟩ := ob7 b hb
        exact (kept b hb o e).2
      cases b with
      | false =>
        simp only [if_false, Bool.false_eq_true] at q9 ⊢
        exact close I9 q9
      | true =>
        simp only [if_true] at q9 ⊢
        refine thnF ((hk s3 H3 s3.heap.objs.size cl fp).run _ s9 σ8 H9 _ I9 q9) fun zk s10 ⟨yk, H10, I10, r10, q10⟩ => ?_
        refine thnF ((he s3 H3 s3.heap.objs.size cl fp).run _ s10 σ8 H10 _ I10 q10) fun zv s11 ⟨yv, H11, I11, r11, b, k, o, xs, Hd, t, ey, hD11, hN11, hK11, ex11, hk11, hz11, hl11, nx⟩ => ?_
        subst ey
        cases r10
        exact n_dictSet (X := inBlk X scope s3 H3 s3.heap.objs.size cl fp) (by have := G.hu; exact (by omega : X.A.units + 16 < cLine)) I11 hD11 hN11 hK11 ex11 hk11 hz11 hl11 fun o' s12 I12 hN12 => close I12 (nx o' zv r11 hN12)
  have z := codeAny_compStart_dict (prog := X.prog) (w := X.w) loop (T.self X.A 0 _ _ _ rec4 loop)
  subst hs4 hcl
  subst hs3
  exact z
theorem pe_dcn {kx vx tg iter : Expr} {ifs : List Expr} {scope : Scope} {own : List (Str × Nat)} {pos : Pos} {wi : TI} {g : TG} {tt : TT} {tk tv : TE} (G : Gd X) (hN : X.N.Nodup) (hi : PI X tg iter wi) (ok : BlkOk X.N X.env.scope scope own)
    (hg : ∀ s H C cl fp, PG (inBlk X scope s H C cl fp) tg g) (ht : ∀ s H C cl fp, PTs (inBlk X scope s H C cl fp) ifs tt) (hk : ∀ s H C cl fp, PE (inBlk X scope s H C cl fp) kx tk) (he : ∀ s H C cl fp, PE (inBlk X scope s H C cl fp) vx tv)
    (hs : ∀ x, foldedSetIterable iter X.env x = pure x := by intro _; rfl) : PE X (.DictComp kx vx [⟨tg, iter, ifs, 0⟩] scope pos) (tDcN X.prog X.w wi g tt tk tv (own.map (·.2))) := by
  refine ⟨fun pins s σ H Q I h => ?_⟩
  rw [arm_eval_DictComp]
  refine dcn_core G hN I hi ok hg ht hk he hs h fun D C s' m H' I' q hn f => ⟨m, hn, fun h'' sb => ?_⟩
  exact ⟨.ref D, H', I'.turned (t' := s'.toks) (fun b o hb e => (sb.2 b hb).trans e) f.1 f.2.1 f.2.2.2.1 f.2.2.2.2.1 f.2.2.2.2.2, rfl, q⟩
/-- name = {..}, on one line, the name a local -/
theorem ps_setDcN {i : Nat} {y : Str} {py : Pos} {kx vx tg iter : Expr} {ifs : List Expr} {scope : Scope} {own : List (Str × Nat)} {pos spos : Pos} {wi : TI} {g : TG} {tt : TT} {tk tv : TE} (G : Gd X) (hN : X.N.Nodup) (hy : X.N[i]? = some y) (hyl : X.env.scope.names.lookup y = some .local)
    (hsw : swapsWith (.DictComp kx vx [⟨tg, iter, ifs, 0⟩] scope pos) (some (.Name y py)) spos.line X.env = pure true) (hi : PI X tg iter wi) (ok : BlkOk X.N X.env.scope scope own)
    (hg : ∀ s H C cl fp, PG (inBlk X scope s H C cl fp) tg g) (ht : ∀ s H C cl fp, PTs (inBlk X scope s H C cl fp) ifs tt) (hk : ∀ s H C cl fp, PE (inBlk X scope s H C cl fp) kx tk) (he : ∀ s H C cl fp, PE (inBlk X scope s H C cl fp) vx tv)
    (hs : ∀ x, foldedSetIterable iter X.env x = pure x := by intro _; rfl) : PS X (.Assign [.Name y py] (.DictComp kx vx [⟨tg, iter, ifs, 0⟩] scope pos) spos) (tAsg (tDcN X.prog X.w wi g tt tk tv (own.map (·.2))) (gName i)) := by
  refine ⟨fun pins s σ H D I h => ?_⟩
  rw [exec_Assign_Name_used _ _ _ _ hsw]
  refine wpAny_bind (wpAny_standAt (wpAny_bind ?_))
  show wpAny _ X.A (do let _ ← comprehension (.DictComp kx vx [⟨tg, iter, ifs, 0⟩] scope pos) scope X.env (firstIterPos [⟨tg, iter, ifs, 0⟩] pos) newDict false (eval iter X.env) (some (assign (.Name y py) X.env))) _ _ s
  have h : tDcN X.prog X.w wi g tt tk tv (own.map (·.2)) σ H (fun x H1 => gName i x σ H1 D.nx) := h
  refine wpAny_bind (thn (dcn_core (Qf := fun _ s' => SP X pins D .next s') G hN I hi ok hg ht hk he hs h fun L C s' m H' I' q hn f => ?_) fun _ s' hq => wpAny_pure (wpAny_pure hq))
  refine wpAny_assign_Name ?_
  refine store_ok2 (v := V.ref L) I' hN hy (.inl hyl) rfl (fun s2 I2 ⟨a, sb, ha⟩ => ?_) (.inr hyl)
  have away : C ≠ a := ha.elim (fun z => by rw [z]; exact f.2.1) fun z e => f.2.2.2.2.1 y a z e.symm
  exact ⟨m, hn.sameBut sb away, fun h3 sb3 => ⟨_, H', I2.turned (t' := s2.toks) (fun b o hb e => (sb3.2 b hb).trans e) f.1 f.2.1 f.2.2.2.1 f.2.2.2.2.1 f.2.2.2.2.2, q⟩⟩
theorem sw_dict {kx vx : Expr} {gs : List Comprehension} {scope : Scope} {pos py : Pos} {y : Str} {l : Nat} {env : PySem.Env} (hk : env.scope.kind = .function) (hy : env.scope.names.lookup y = some .local) (hl : (py.line == pos.line) = true)
    (ha : (scope.names.any fun (n, k) => n == y && (k == .local || k == .cell)) = false) : swapsWith (.DictComp kx vx gs scope pos) (some (.Name y py)) l env = pure true := by
  have h1 : env.kindOf y = some .local := hy
  have h2 : env.blockKind = .function := by unfold Env.blockKind; rw [hk]; rfl
  unfold swapsWith
  simp only [h2, h1, ha, Expr.pos, hl]
  rfl
/-- {k: v} -/
def tDisp1 (P : Program) (w : World) (tk tv : TE) : TE := fun σ H Q => ∀ p o0, H p = none → NObj P w p o0 [] → tk σ (upd H p (dob p o0)) fun y H1 => tv σ H1 fun z H2 => ∃ (b : Addr) (k : NestedKey), y = .ref b ∧ H2 p = some (dob p o0) ∧ Dr P w H2 (.ref b) k.data ∧ k.depth ≤ 8 ∧
  ∀ o' u, RelV z u → NObj P w p o' [(k, b, u)] → Q (.ref p) (upd H2 p (dob p o'))
theorem pe_disp1 {k v : Expr} {tk tv : TE} {pos : Pos} (G : Gd X) (hk : PE X k tk) (hv : PE X v tv) : PE X (.Dict [some k] [v] pos) (tDisp1 X.prog X.w tk tv) := by
  refine ⟨fun pins s σ H Q I q => ?_⟩
  have hn := I.hok.fresh (Nat.le_refl s.heap.objs.size)
  have I1 := n_laid (t' := s.toks) I
  have hroom : (nestedKind X.prog X.w).room X.A := by show X.A.units + 8 < cLine; have := G.hu; omega
  rw [arm_eval_Dict, show (evalEachOpt [some k] X.env).zip ((evalEach [v] X.env).map fun v => do let x ← v; standAt pos; pure x) = (pairTrees [some k] [v] X.env pos).map fun p => (some p.1, p.2) from rfl, dictDisplay_pairs (pairTrees [some k] [v] X.env pos) (by simp [pairTrees]) (by simp [pairTrees])]
  refine wpAny_bind (wpAny_standAt (wpAny_bind (wpAny_subDictH (knd := nestedKind X.prog X.w) (Q := fun d s' => wpAny (model X.prog X.w) X.A (pure (Value.ref d)) (EP X pins σ Q) X.xe s') hroom (by simp [pairTrees]) ?_)))
  refine pairTrees_cons_walk (thn (hk.run pins _ σ _ _ I1 (q _ _ hn (nobj_empty (low_new I)))) fun kv s1 ⟨y, H1, J1, ry, q1⟩ => thn (hv.run pins s1 σ H1 _ J1 q1) fun vv s2 ⟨z, H2, J2, rz, b, nk, ey, hp, hkd, hz, q2⟩ => pairTrees_nil_walk ?_)
  subst ey
  cases ry
  refine ⟨[(nk, b, vv)], ⟨rfl, rfl, key_is J2 hkd hz, True.intro⟩, nd_of (Hd := H2) (t := []) J2 hp (nobj_empty (low_new I)) .nil .rfl', fun h' tk' dd sb => ?_⟩
  obtain ⟨o', g1, g2⟩ := nobj_of (X := X) (ys := [(nk, b, vv)]) (low_new I) (show 1 ≤ sizeLine by decide) (show h'.DictOfH (nestedKind X.prog X.w) s.heap.objs.size [(nk, b, vv)] from dd)
  exact wpAny_pure ⟨.ref s.heap.objs.size, _, n_write (t' := tk') J2 hp sb g1, rfl, q2 o' vv rz g2⟩
end

/-! ### as readings -/
/-- a new dict -/
def EM (X : Cx) (e : Expr) (ρ : Env) (t : Tab) : Prop := ∀ (O0 O : Own) (H : Hp) (σ : L2.St), Live O H → RS X.prog X.w O0 O H σ ρ → ∀ Q : VK, (∀ p o xs H', H p = none → Ex H H' → H' p = some (dob p o) → NObj X.prog X.w p o xs → DrK X.prog X.w (hide (add O p) H') xs t → Q (.ref p) H') → WE X e σ H Q
section
variable {X : Cx} {e : Expr} {ρ : Env} {t : Tab}
theorem em_empty {pos : Pos} : EM X (.Dict [] [] pos) ρ [] := fun O0 O H σ L rs Q q => we_of pe_newN fun p o np hN => q p o [] _ np (.new np) upd_same hN .nil
theorem em_disp {k : NestedKey} {a b : Expr} {d : PyData} {pos : Pos} (G : Gd X) (ha : ED X a ρ k.data) (hb : ED X b ρ d) (hk : ∃ ks, k = .tup ks) (hz : k.depth ≤ 8) : EM X (.Dict [some a] [b] pos) ρ [(k, d)] := fun O0 O H σ L rs Q q =>
  we_of (pe_disp1 G pw_e pw_e) fun p o0 np hN => by
    have L1 : Live (add O p) (upd H p (dob p o0)) := fun c h => by
      by_cases z : c = p
      · subst z; exact ⟨_, upd_same⟩
      · rw [add_other z] at h
        obtain ⟨o, g⟩ := L c h
        exact ⟨o, by rw [upd_ne z]; exact g⟩
    have rs1 : RS X.prog X.w O0 (add O p) (upd H p (dob p o0)) σ ρ := rs.grow (.new np) (hide_new (.new np) np) fun c h => by simp [add, h]
    refine ha O0 (add O p) _ σ L1 rs1 _ fun y H1 e1 h1 => hb O0 (add O p) H1 σ (L1.ex e1) (rs1.ex e1) _ fun z H2 e2 h2 => ?_
    obtain ⟨ks, rfl⟩ := hk
    cases (show Dr X.prog X.w (hide (add O p) H1) y (PyData.tuple (NestedKey.datas ks)) from h1) with
    | @tup b vs _ g1 g2 =>
      have hd : Dr X.prog X.w (hide (add O p) H2) (.ref b) (NestedKey.tup ks).data := Dr.mono (hide_ex e2) h1
      have e12 : Ex H H2 := (Ex.new np).trans (e1.trans e2)
      refine ⟨b, .tup ks, rfl, e2 _ _ (e1 _ _ upd_same), hd.mono hide_sub, hz, fun o' u ru hN' => q p o' _ _ np (e12.mut' np) upd_same hN' ?_⟩
      rw [hide_upd add_self]
      exact .cons hd hz ru h2 .nil
theorem foldl_take {α β : Type} (f : β → α → β) (l : List α) (b : β) {i : Nat} {d : α} (h : l[i]? = some d) : (l.take (i + 1)).foldl f b = f ((l.take i).foldl f b) d := by
  rw [List.take_succ, h, List.foldl_append]; rfl
/-- as WalkD, of a state B whose owned objects stay as they are; Bd: what of it data stand in -/
def WalkO (P : Program) (w : World) (B Bd : Hp) (J : It) (ds : List PyData) : Prop := ∀ (i : Nat) (H : Hp) (O : Own), Ex B H → Live O H → (∀ a, O a = true → Bd a = none) →
  (i < ds.length → J.go i H) ∧ (∀ d, ds[i]? = some d → ∀ x H', J.yld i H x H' → Ex H H' ∧ Dr P w (hide O H') x d) ∧ (i = ds.length → J.stop i H)
theorem WalkD.o {P : Program} {w : World} {O : Own} {H : Hp} {J : It} {ds : List PyData} (h : WalkD P w (hide O H) J ds) : WalkO P w H (hide O H) J ds := fun i H2 O2 e L k => h i H2 O2 (hide_sub.trans e) L k
def EIo (X : Cx) (tg iter : Expr) (ρ : Env) (ds : List PyData) : Prop := ∃ wi, PI X tg iter wi ∧ ∀ (O0 O : Own) (H : Hp) (σ : L2.St), Live O H → RS X.prog X.w O0 O H σ ρ → ∀ R : It → Hp → Prop,
  (∀ J H', Ex H H' → WalkO X.prog X.w H' (hide O H') J ds → R J H') → wi σ H R
theorem EI.o {tg iter : Expr} {ds : List PyData} (h : EI X tg iter ρ ds) : EIo X tg iter ρ ds := by
  obtain ⟨wi, hp, hw⟩ := h
  exact ⟨wi, hp, fun O0 O H σ L rs R q => hw O0 O H σ L rs R fun J H' e wk => q J H' e wk.o⟩
/-- an owned list, walked while it stands -/
theorem eio_own {tg : Expr} {ds : List PyData} {x : Str} {pos : Pos} (i : Nat) (h : ρ[i]? = some (some (.lst ds))) (hN : X.N[i]? = some x := by rfl) (hv : Vis X.env.scope x := by first | exact Or.inl rfl | exact Or.inr (Or.inl rfl) | exact Or.inr (Or.inr rfl)) (hd : (x == ("__debug__" : Str)) = false := by decide)
    (hcd : (x == ("__classdict__" : Str)) = false := by decide) : EIo X tg (.Name x pos) ρ ds := ⟨_, pi_list pw_e, fun O0 O H σ L rs R q => (el_own (pos := pos) i h hN hv hd hcd) O0 O H σ L rs _ fun v H1 e1 h1 => by
  cases h1 with
  | lst h1 r1 =>
    rename_i a vs
    refine ⟨a, rfl, ⟨vs, .of h1⟩, q _ H1 e1 fun i H2 O2 ex L2 hO => ?_⟩
    have hs : SqL X.K H2 a vs := .of (ex _ _ h1)
    have hl := r1.length
    refine ⟨fun hi => ⟨vs, vs[i], hs, by rw [List.getElem?_eq_getElem (by omega)]⟩, fun d hd x H' y => ?_, fun hi => ⟨vs, hs, by omega⟩⟩
    obtain ⟨rfl, y⟩ := y
    exact ⟨.rfl', (seq_get r1 (y vs hs) hd).mono (hide_le (O := O2) (hide_sub.trans ex) hO)⟩⟩
/-- {k: v for ..}: what its reading asks -/
theorem dc_asks {kx vx tg : Expr} {scope : Scope} {own : List (Str × Nat)} {α : Type} {gd : α → PyData} {ds : List α} (kf : α → NestedKey) (vf : α → PyData) (us : α → List (Nat × PyData)) {wi : TI}
    (hw : ∀ (O0 O : Own) (H : Hp) (σ : L2.St), Live O H → RS X.prog X.w O0 O H σ ρ → ∀ R : It → Hp → Prop, (∀ J H', Ex H H' → WalkO X.prog X.w H' (hide O H') J (ds.map gd) → R J H') → wi σ H R) (hz : ds.length ≤ 1000000)
    (hb : ∀ s H C cl fp d, d ∈ ds → (∀ u ∈ us d, u.1 ∈ own.map (·.2)) ∧ GD (inBlk X scope s H C cl fp) tg (gd d) (us d) ∧ (∃ ks, kf d = .tup ks) ∧ (kf d).depth ≤ 8 ∧
      ED (inBlk X scope s H C cl fp) kx (setDs (wipeP ρ (own.map (·.2))) (us d)) (kf d).data ∧ ED (inBlk X scope s H C cl fp) vx (setDs (wipeP ρ (own.map (·.2))) (us d)) (vf d))
    (O0 O : Own) (H : Hp) (σ : L2.St) (L : Live O H) (rs : RS X.prog X.w O0 O H σ ρ) (Q : VK) (q : ∀ p o xs H', H p = none → Ex H H' → H' p = some (dob p o) → NObj X.prog X.w p o xs → DrK X.prog X.w (hide (add O p) H') xs (ds.foldl (fun t d => tput t (kf d) (vf d)) []) → Q (.ref p) H') :
    tDcN X.prog X.w wi (fun v σ H Q => ∀ s H' C cl fp, WG (inBlk X scope s H' C cl fp) tg v σ H Q) tYes (fun σ H Q => ∀ s H' C cl fp, WE (inBlk X scope s H' C cl fp) kx σ H Q) (fun σ H Q => ∀ s H' C cl fp, WE (inBlk X scope s H' C cl fp) vx σ H Q) (own.map (·.2)) σ H Q := by
  refine hw O0 O H σ L rs _ fun J H1 e1 wk D o0 hD hN0 => ?_
  have L1 := L.ex e1
  have hHD : H D = none := e1.back hD
  let tab : Nat → Tab := fun i => (ds.take i).foldl (fun t d => tput t (kf d) (vf d)) []
  have tlen : ∀ i, (tab i).length ≤ i := fun i => by
    have key : ∀ (l : List α) (t : Tab), (l.foldl (fun t d => tput t (kf d) (vf d)) t).length ≤ t.length + l.length := by
      intro l
      induction l with
      | nil => intro t; simp
      | cons d l ih =>
        intro t
        have h1 := ih (tput t (kf d) (vf d))
        have h2 := tput_length t (kf d) (vf d)
        rw [List.foldl_cons, List.length_cons]
        omega
    have := key (ds.take i) []
    rw [List.length_take] at this
    simp only [List.length_nil] at this
    show ((ds.take i).foldl (fun t d => tput t (kf d) (vf d)) []).length ≤ i
    omega
  let Pv : Nat → Hp → Prop := fun i H' => Ex H1 H' ∧ ∃ o xs, H' D = some (dob D o) ∧ NObj X.prog X.w D o xs ∧ DrK X.prog X.w (hide (add O D) H') xs (tab i)
  refine ⟨fun i m H' => m = ds.length - i ∧ i ≤ ds.length ∧ Pv i H', ⟨ds.length, by omega, Nat.zero_le _, .new hD, o0, [], upd_same, hN0, .nil⟩, ?_⟩
  rintro i m H2 ⟨rfl, hi, e2, o, xs, hacc, hN, dacc⟩
  have live2 : Live (add O D) H2 := fun a h => by
    by_cases z : a = D
    · subst z; exact ⟨_, hacc⟩
    · rw [add_other z] at h
      obtain ⟨o, k⟩ := L1 a h
      exact ⟨o, e2 _ _ k⟩
  have own2 : ∀ a, add O D a = true → hide O H1 a = none := fun a h => by
    by_cases z : a = D
    · subst z
      rw [hide_at (L1.no hD)]; exact hD
    · rw [add_other z] at h; exact hide_own h
  obtain ⟨w1, w2, w3⟩ := wk i H2 (add O D) e2 live2 own2
  rw [List.length_map] at w1 w3
  by_cases hlt : i < ds.length
  · refine .inr ⟨w1 hlt, Pv (i + 1), fun H' p' => ⟨ds.length - (i + 1), by omega, rfl, hlt, p'⟩, fun x H3 hy => ?_⟩
    obtain ⟨d, hd⟩ : ∃ d, ds[i]? = some d := ⟨ds[i], List.getElem?_eq_getElem hlt⟩
    obtain ⟨e3, hx⟩ := w2 (gd d) (by rw [List.getElem?_map, hd]; rfl) x H3 hy
    have hmem : d ∈ ds := List.mem_of_getElem? hd
    have e13 := e2.trans e3
    have live3 := live2.ex e3
    have rs3 : RS X.prog X.w O0 (add O D) H3 (wipe σ (own.map (·.2))) (wipeP ρ (own.map (·.2))) := (rs.grow (e1.trans e13) (hide_new (e1.trans e13) hHD) fun a h => by simp [add, h]).wipe _
    intro s H' C cl fp
    obtain ⟨b1, b2, _, _, _, _⟩ := hb s H' C cl fp d hmem
    refine b2 (add O D) H3 x _ hx _ fun ys hys => ?_
    have rs4 := rs3.setVs hys
    refine ⟨?_, ?_⟩
    · rw [wipe_setVs, wipe_wipe]
      intro p hp
      obtain ⟨u, hu, e⟩ := List.mem_map.mp (List.of_mem_zip hp).1
      rw [← e]; exact b1 u hu
    unfold tYes
    simp only [if_true]
    intro s H' C cl fp
    obtain ⟨_, _, b3, b4, b5, _⟩ := hb s H' C cl fp d hmem
    refine b5 O0 (add O D) H3 _ live3 rs4 _ fun y H4 e4 hy4 => fun s H' C cl fp => ?_
    obtain ⟨_, _, _, _, _, b6⟩ := hb s H' C cl fp d hmem
    refine b6 O0 (add O D) H4 _ (live3.ex e4) (rs4.ex e4) _ fun z H5 e5 hz5 => ?_
    obtain ⟨ks, hks⟩ := b3
    have hy5 := hy4.mono (hide_ex e5)
    have e35 := e3.trans (e4.trans e5)
    rw [hks] at hy4
    cases (show Dr X.prog X.w (hide (add O D) H4) y (PyData.tuple (NestedKey.datas ks)) from hy4) with
    | @tup b vs _ g1 g2 =>
      have tl := tlen i
      refine ⟨b, kf d, o, xs, hide (add O D) H5, tab i, rfl, e35 _ _ hacc, hN, dacc.mono (hide_ex e35), hide_sub, hy5.mono hide_sub, b4, by rw [sizeLine_eq]; omega, fun o' u ru hN' => ⟨(e2.trans e35).mut' hD, o', _, upd_same, hN', ?_⟩⟩
      rw [hide_upd add_self]
      have : tab (i + 1) = tput (tab i) (kf d) (vf d) := foldl_take _ ds [] hd
      rw [this]
      exact (dacc.mono (hide_ex e35)).put hy5 b4 ru hz5
  · have hin : i = ds.length := by omega
    refine .inl ⟨w3 hin, ?_⟩
    subst hin
    have : tab ds.length = ds.foldl (fun t d => tput t (kf d) (vf d)) [] := by show (ds.take ds.length).foldl _ _ = _; rw [List.take_length]
    rw [this] at dacc
    exact q D o xs H2 hHD (e1.trans e2) hacc hN dacc
theorem em_dcO {kx vx tg iter : Expr} {scope : Scope} {own : List (Str × Nat)} {α : Type} {gd : α → PyData} {ds : List α} {pos : Pos} (kf : α → NestedKey) (vf : α → PyData) (us : α → List (Nat × PyData)) (G : Gd X) (hN : X.N.Nodup) (hi : EIo X tg iter ρ (ds.map gd)) (ok : BlkOk X.N X.env.scope scope own) (hz : ds.length ≤ 1000000)
    (hb : ∀ s H C cl fp d, d ∈ ds → (∀ u ∈ us d, u.1 ∈ own.map (·.2)) ∧ GD (inBlk X scope s H C cl fp) tg (gd d) (us d) ∧ (∃ ks, kf d = .tup ks) ∧ (kf d).depth ≤ 8 ∧
      ED (inBlk X scope s H C cl fp) kx (setDs (wipeP ρ (own.map (·.2))) (us d)) (kf d).data ∧ ED (inBlk X scope s H C cl fp) vx (setDs (wipeP ρ (own.map (·.2))) (us d)) (vf d))
    (hs : ∀ x, foldedSetIterable iter X.env x = pure x := by intro _; rfl) : EM X (.DictComp kx vx [⟨tg, iter, [], 0⟩] scope pos) ρ (ds.foldl (fun t d => tput t (kf d) (vf d)) []) := fun O0 O H σ L rs Q q => by
  obtain ⟨wi, hp, hw⟩ := hi
  exact we_of (pe_dcn G hN hp ok (fun s H' C cl fp => ⟨fun pins s1 σ1 H1 v u Q1 I r h => (h s H' C cl fp).run pins s1 u I r⟩) (fun s H' C cl fp => pts_nil) (fun s H' C cl fp => ⟨fun pins s1 σ1 H1 Q1 I h => (h s H' C cl fp).run pins s1 I⟩) (fun s H' C cl fp => ⟨fun pins s1 σ1 H1 Q1 I h => (h s H' C cl fp).run pins s1 I⟩) hs)
    (dc_asks kf vf us hw hz hb O0 O H σ L rs Q q)
theorem em_dc {kx vx tg iter : Expr} {scope : Scope} {own : List (Str × Nat)} {α : Type} {gd : α → PyData} {ds : List α} {pos : Pos} (kf : α → NestedKey) (vf : α → PyData) (us : α → List (Nat × PyData)) (G : Gd X) (hN : X.N.Nodup) (hi : EI X tg iter ρ (ds.map gd)) (ok : BlkOk X.N X.env.scope scope own) (hz : ds.length ≤ 1000000)
    (hb : ∀ s H C cl fp d, d ∈ ds → (∀ u ∈ us d, u.1 ∈ own.map (·.2)) ∧ GD (inBlk X scope s H C cl fp) tg (gd d) (us d) ∧ (∃ ks, kf d = .tup ks) ∧ (kf d).depth ≤ 8 ∧
      ED (inBlk X scope s H C cl fp) kx (setDs (wipeP ρ (own.map (·.2))) (us d)) (kf d).data ∧ ED (inBlk X scope s H C cl fp) vx (setDs (wipeP ρ (own.map (·.2))) (us d)) (vf d))
    (hs : ∀ x, foldedSetIterable iter X.env x = pure x := by intro _; rfl) : EM X (.DictComp kx vx [⟨tg, iter, [], 0⟩] scope pos) ρ (ds.foldl (fun t d => tput t (kf d) (vf d)) []) := em_dcO kf vf us G hN hi.o ok hz hb hs
end
end K79

set_option Elab.async false
set_option linter.all false
set_option maxRecDepth 100000
set_option maxHeartbeats 4000000
/-! Statements: what they do to an environment of data -/
namespace K79
open PySem PySem.Spec PyProof.Rows L2

/-- H0, O0: heap and owned at the def's entry; B: what a loop leans on -/
structure KB (H0 : Hp) (O0 : Own) (B : Hp) (O : Own) (H : Hp) : Prop where
  ex0 : Ex H0 H
  sub : ∀ a, O0 a = true → O a = true
  own0 : ∀ a, O a = true → O0 a = true ∨ H0 a = none
  exB : Ex B H
  ownB : ∀ a, O a = true → B a = none
  live : Live O H
section
variable {H0 H H' B : Hp} {O0 O : Own} {p : Addr} {o : HO}
theorem KB.ex (k : KB H0 O0 B O H) (e : Ex H H') : KB H0 O0 B O H' := ⟨k.ex0.trans e, k.sub, k.own0, k.exB.trans e, k.ownB, k.live.ex e⟩
theorem KB.mut (k : KB H0 O0 B O H) (h1 : O p = true) (h2 : O0 p = false) : KB H0 O0 B O (upd H p o) where
  ex0 := k.ex0.mut' ((k.own0 p h1).resolve_left (by rw [h2]; decide))
  sub := k.sub
  own0 := k.own0
  exB := k.exB.mut' (k.ownB p h1)
  ownB := k.ownB
  live := fun a h => by
    by_cases z : a = p
    · subst z; exact ⟨_, upd_same⟩
    · obtain ⟨u, q⟩ := k.live a h
      exact ⟨u, by rw [upd_ne z]; exact q⟩
theorem KB.new (k : KB H0 O0 B O H) (e : Ex H H') (h : H p = none) (hp : ∃ o, H' p = some o) : KB H0 O0 B (add O p) H' where
  ex0 := k.ex0.trans e
  sub := fun a q => by simp [add, k.sub a q]
  own0 := fun a q => by
    by_cases z : a = p
    · subst z; exact .inr (k.ex0.back h)
    · rw [add_other z] at q; exact k.own0 a q
  exB := k.exB.trans e
  ownB := fun a q => by
    by_cases z : a = p
    · subst z; exact k.exB.back h
    · rw [add_other z] at q; exact k.ownB a q
  live := fun a q => by
    by_cases z : a = p
    · subst z; exact hp
    · rw [add_other z] at q
      obtain ⟨u, r⟩ := k.live a q
      exact ⟨u, e _ _ r⟩
theorem KB.frz (k : KB H0 O0 B O H) (h2 : O0 p = false) : KB H0 O0 B (del O p) H where
  ex0 := k.ex0
  sub := fun a q => by
    have : a ≠ p := fun z => by subst z; rw [h2] at q; cases q
    rw [del_other this]; exact k.sub a q
  own0 := fun a q => k.own0 a (by cases z : O a <;> simp [del, z] at q ⊢)
  exB := k.exB
  ownB := fun a q => k.ownB a (by cases z : O a <;> simp [del, z] at q ⊢)
  live := fun a q => k.live a (by cases z : O a <;> simp [del, z] at q ⊢)
/-- leaning on what a loop began with -/
theorem KB.base {O1 : Own} {H1 : Hp} (k : KB H0 O0 B O1 H1) (k2 : KB H0 O0 (hide O1 H1) O H) : KB H0 O0 B O H :=
  ⟨k2.ex0, k2.sub, k2.own0, (hide_le k.exB k.ownB).trans k2.exB, fun a q => (by
    cases z : B a with
    | none => rfl
    | some u =>
      have := hide_le k.exB k.ownB a u z
      rw [k2.ownB a q] at this
      cases this), k2.live⟩
theorem KB.start (k : KB H0 O0 B O H) : KB H0 O0 (hide O H) O H := ⟨k.ex0, k.sub, k.own0, hide_sub, fun a q => hide_own q, k.live⟩
end
section
variable {P : Program} {w : World} {O0 O : Own} {H : Hp} {σ : L2.St} {ρ : Env} {i : Nat} {p : Addr}
/-- an owned object is written -/
theorem RS.mut {pv qv : PV} {o : HO} (r : RS P w O0 O H σ ρ) (hi : ρ[i]? = some (some pv)) (ho : pv.own = true) (hs : σ[i]? = some (some (.ref p))) (hp : O p = true) (hn : RP P w O0 O (upd H p o) (.ref p) qv) (hq : qv.own = true) : RS P w O0 O (upd H p o) σ (ρ.set i (some qv)) where
  len := by simp [r.len]
  at_ := fun j rv e => by
    by_cases z : i = j
    · subst z
      have hl : i < ρ.length := (List.getElem?_eq_some_iff.mp hi).1
      rw [List.getElem?_set_self hl] at e
      cases e
      exact ⟨_, hs, hn⟩
    · rw [List.getElem?_set_ne z] at e
      obtain ⟨v, h1, h2⟩ := r.at_ j rv e
      refine ⟨v, h1, ?_⟩
      have ne : ∀ q, rv.own = true → v = .ref q → q ≠ p := fun q oq ev => by
        subst ev
        exact (r.apart i j pv rv p q z hi e ho oq hs h1).symm
      have eh : hide O (upd H p o) = hide O H := hide_upd hp
      cases h2 with
      | dat h => exact .dat (by rw [eh]; exact h)
      | lst a b c d => exact .lst a b (by rw [upd_ne (ne _ rfl rfl)]; exact c) (by rw [eh]; exact d)
      | dic a b c d f => exact .dic a b (by rw [upd_ne (ne _ rfl rfl)]; exact c) d (by rw [eh]; exact f)
      | dks a b c d => exact .dks a b (by rw [upd_ne (ne _ rfl rfl)]; exact c) (by rw [eh]; exact d)
  apart := fun j k rv sv a b hne e1 e2 o1 o2 s1 s2 => by
    have old : ∀ {m : Nat} {x : PV}, (ρ.set i (some qv))[m]? = some (some x) → x.own = true → ∃ y, ρ[m]? = some (some y) ∧ y.own = true := fun {m x} e ox => by
      by_cases z : i = m
      · subst z; exact ⟨pv, hi, ho⟩
      · rw [List.getElem?_set_ne z] at e; exact ⟨x, e, ox⟩
    obtain ⟨y1, f1, g1⟩ := old e1 o1
    obtain ⟨y2, f2, g2⟩ := old e2 o2
    exact r.apart j k y1 y2 a b hne f1 f2 g1 g2 s1 s2
/-- an owned object becomes data -/
theorem RS.frz {pv : PV} {d : PyData} (r : RS P w O0 O H σ ρ) (hi : ρ[i]? = some (some pv)) (ho : pv.own = true) (hs : σ[i]? = some (some (.ref p))) (hn : Dr P w (hide (del O p) H) (.ref p) d) : RS P w O0 (del O p) H σ (ρ.set i (some (.dat d))) where
  len := by simp [r.len]
  at_ := fun j rv e => by
    by_cases z : i = j
    · subst z
      have hl : i < ρ.length := (List.getElem?_eq_some_iff.mp hi).1
      rw [List.getElem?_set_self hl] at e
      cases e
      exact ⟨_, hs, .dat hn⟩
    · rw [List.getElem?_set_ne z] at e
      obtain ⟨v, h1, h2⟩ := r.at_ j rv e
      refine ⟨v, h1, ?_⟩
      have ne : ∀ q, rv.own = true → v = .ref q → q ≠ p := fun q oq ev => by
        subst ev
        exact (r.apart i j pv rv p q z hi e ho oq hs h1).symm
      cases h2 with
      | dat h => exact .dat (h.mono hide_del)
      | lst a b c d => exact .lst (by rw [del_other (ne _ rfl rfl)]; exact a) b c (d.mono hide_del)
      | dic a b c d f => exact .dic (by rw [del_other (ne _ rfl rfl)]; exact a) b c d (f.mono hide_del)
      | dks a b c d => exact .dks (by rw [del_other (ne _ rfl rfl)]; exact a) b c (d.mono hide_del)
  apart := fun j k rv sv a b hne e1 e2 o1 o2 s1 s2 => by
    have old : ∀ {m : Nat} {x : PV}, (ρ.set i (some (.dat d)))[m]? = some (some x) → x.own = true → ρ[m]? = some (some x) := fun {m x} e ox => by
      by_cases z : i = m
      · subst z
        have hl : i < ρ.length := (List.getElem?_eq_some_iff.mp hi).1
        rw [List.getElem?_set_self hl] at e; cases e; cases ox
      · rw [List.getElem?_set_ne z] at e; exact e
    exact r.apart j k rv sv a b hne (old e1 o1) (old e2 o2) o1 o2 s1 s2
end

/-- what is wanted behind a statement -/
structure Eds where
  nx : Env → Prop
  rt : PyData → Prop
  bk : Env → Prop := fun _ => False
  ct : Env → Prop := fun _ => False
def lift (X : Cx) (H0 : Hp) (O0 : Own) (B : Hp) (E : Eds) : L2.Ends where
  nx := fun σ H => ∃ O ρ, KB H0 O0 B O H ∧ RS X.prog X.w O0 O H σ ρ ∧ E.nx ρ
  rt := fun v H => Ex H0 H ∧ ∃ d, Dr X.prog X.w (hide O0 H) v d ∧ E.rt d
  bk := fun σ H => ∃ O ρ, KB H0 O0 B O H ∧ RS X.prog X.w O0 O H σ ρ ∧ E.bk ρ
  ct := fun σ H => ∃ O ρ, KB H0 O0 B O H ∧ RS X.prog X.w O0 O H σ ρ ∧ E.ct ρ
def SD1 (X : Cx) (st : Stmt) (ρ : Env) (E : Eds) : Prop := ∀ (H0 : Hp) (O0 : Own) (B : Hp) (O : Own) (H : Hp) (σ : L2.St), KB H0 O0 B O H → RS X.prog X.w O0 O H σ ρ → WS X st (lift X H0 O0 B E) σ H
def SD (X : Cx) (sts : List Stmt) (ρ : Env) (E : Eds) : Prop := ∀ (H0 : Hp) (O0 : Own) (B : Hp) (O : Own) (H : Hp) (σ : L2.St), KB H0 O0 B O H → RS X.prog X.w O0 O H σ ρ → WSs X sts (lift X H0 O0 B E) σ H

/-- weaker ends -/
structure LeE (D D' : L2.Ends) : Prop where
  nx : ∀ σ H, D.nx σ H → D'.nx σ H
  rt : ∀ v H, D.rt v H → D'.rt v H
  bk : ∀ σ H, D.bk σ H → D'.bk σ H
  ct : ∀ σ H, D.ct σ H → D'.ct σ H
section
variable {X : Cx} {st : Stmt} {sts : List Stmt} {D D' : L2.Ends} {σ : L2.St} {H : Hp} {ρ : Env} {E E' : Eds}
theorem sp_mono {pins : List (Addr × Obj)} {f : Flow} {s : Shared} (l : LeE D D') (h : SP X pins D f s) : SP X pins D' f s := by
  cases f with
  | next => obtain ⟨σ', H', I, q⟩ := h; exact ⟨σ', H', I, l.nx _ _ q⟩
  | brk => obtain ⟨σ', H', I, q⟩ := h; exact ⟨σ', H', I, l.bk _ _ q⟩
  | cont => obtain ⟨σ', H', I, q⟩ := h; exact ⟨σ', H', I, l.ct _ _ q⟩
  | ret u => obtain ⟨v, σ', H', I, r, q⟩ := h; exact ⟨v, σ', H', I, r, l.rt _ _ q⟩
theorem ws_mono (l : LeE D D') (h : WS X st D σ H) : WS X st D' σ H := ⟨fun pins s I => thn (h.run pins s I) fun _ _ q => sp_mono l q⟩
theorem wss_mono (l : LeE D D') (h : WSs X sts D σ H) : WSs X sts D' σ H := ⟨fun pins s I => thn (h.run pins s I) fun _ _ q => sp_mono l q⟩
structure LeD (E E' : Eds) : Prop where
  nx : ∀ ρ, E.nx ρ → E'.nx ρ
  rt : ∀ d, E.rt d → E'.rt d
  bk : ∀ ρ, E.bk ρ → E'.bk ρ
  ct : ∀ ρ, E.ct ρ → E'.ct ρ
theorem LeD.lift {H0 : Hp} {O0 : Own} {B : Hp} (l : LeD E E') : LeE (lift X H0 O0 B E) (K79.lift X H0 O0 B E') :=
  ⟨fun _ _ ⟨O, ρ, a, b, c⟩ => ⟨O, ρ, a, b, l.nx _ c⟩, fun _ _ ⟨e, d, a, b⟩ => ⟨e, d, a, l.rt _ b⟩, fun _ _ ⟨O, ρ, a, b, c⟩ => ⟨O, ρ, a, b, l.bk _ c⟩, fun _ _ ⟨O, ρ, a, b, c⟩ => ⟨O, ρ, a, b, l.ct _ c⟩⟩
theorem SD.mono (l : LeD E E') (h : SD X sts ρ E) : SD X sts ρ E' := fun H0 O0 B O H σ k r => wss_mono l.lift (h H0 O0 B O H σ k r)
theorem SD1.mono (l : LeD E E') (h : SD1 X st ρ E) : SD1 X st ρ E' := fun H0 O0 B O H σ k r => ws_mono l.lift (h H0 O0 B O H σ k r)
/-! ### blocks -/
theorem sd_nil (h : E.nx ρ) : SD X [] ρ E := fun H0 O0 B O H σ k r => wss_of pss_nil ⟨O, ρ, k, r, h⟩
theorem sd_cons (h : SD1 X st ρ { E with nx := fun ρ' => SD X sts ρ' E }) : SD X (st :: sts) ρ E := fun H0 O0 B O H σ k r =>
  wss_of (pss_cons pw_s pw_ss) (ws_mono (D := lift X H0 O0 B { E with nx := fun ρ' => SD X sts ρ' E }) ⟨fun σ' H' ⟨O', ρ', k', r', q⟩ => q H0 O0 B O' H' σ' k' r', fun _ _ q => q, fun _ _ q => q, fun _ _ q => q⟩ (h H0 O0 B O H σ k r))
theorem sd_one (h : SD1 X st ρ E) : SD X [st] ρ E := fun H0 O0 B O H σ k r => wss_of (pss_one pw_s) (h H0 O0 B O H σ k r)
theorem sd_frzL {i : Nat} {ds : List PyData} (hi : ρ[i]? = some (some (.lst ds))) (h : SD X sts (ρ.set i (some (.dat (.list ds)))) E) : SD X sts ρ E := fun H0 O0 B O H σ k r => by
  obtain ⟨v, h1, h2⟩ := r.at_ _ _ hi
  cases h2 with
  | @lst p vs _ a b c d =>
    refine h H0 O0 B (del O p) H σ (k.frz b) (r.frz hi rfl h1 (.lst ?_ (d.mono hide_del)))
    rw [hide_at del_self]; exact c
theorem sd_frzD {i : Nat} {t : Tab} (hi : ρ[i]? = some (some (.dic t))) (h : SD X sts (ρ.set i (some (.dat (tabD t)))) E) : SD X sts ρ E := fun H0 O0 B O H σ k r => by
  obtain ⟨v, h1, h2⟩ := r.at_ _ _ hi
  cases h2 with
  | @dic p o xs _ a b c d f =>
    refine h H0 O0 B (del O p) H σ (k.frz b) (r.frz hi rfl h1 (.dic ?_ d (f.mono hide_del)))
    rw [hide_at del_self]; exact c
theorem sd_frzS {i : Nat} {t : STab} (hi : ρ[i]? = some (some (.dks t))) (h : SD X sts (ρ.set i (some (.dat (stabD t)))) E) : SD X sts ρ E := fun H0 O0 B O H σ k r => by
  obtain ⟨v, h1, h2⟩ := r.at_ _ _ hi
  cases h2 with
  | @dks p ks _ a b c d =>
    refine h H0 O0 B (del O p) H σ (k.frz b) (r.frz hi rfl h1 (.dks ?_ (d.mono hide_del)))
    rw [hide_at del_self]; exact c
theorem sd_forget (i : Nat) (h : SD X sts (ρ.set i none) E) : SD X sts ρ E := fun H0 O0 B O H σ k r => h H0 O0 B O H σ k r.forget
end

section
variable {X : Cx} {e c : Expr} {ρ : Env} {d : PyData} {E : Eds} {pos p' : Pos} {x : Str} {i : Nat} {ds : List PyData} {a b : List Stmt}
/-! ### return, if -/
theorem s_ret (h : ED X e ρ d) (q : E.rt d) : SD1 X (.Return (some e) pos) ρ E := fun H0 O0 B O H σ k r =>
  ws_of (ps_ret pw_e) (h O0 O H σ k.live r _ fun v H' ex hd => ⟨k.ex0.trans ex, d, hd.mono (fun a o z => by
    obtain ⟨h1, h2⟩ := hide_some z
    have : O0 a = false := by
      cases y : O0 a with
      | false => rfl
      | true => rw [k.sub a y] at h1; cases h1
    rw [hide_at this]; exact h2), q⟩)
theorem s_if {u : Bool} (hc : ET X c ρ u) (ha : u = true → SD X a ρ E) (hb : u = false → SD X b ρ E) : SD1 X (.If c a b pos) ρ E := fun H0 O0 B O H σ k r =>
  ws_of (ps_if pw_t pw_ss pw_ss) (hc O0 O H σ k.live r _ fun H' ex => by
    cases u with
    | true => exact iteT (ha rfl H0 O0 B O H' σ (k.ex ex) (r.ex ex))
    | false => exact iteF (hb rfl H0 O0 B O H' σ (k.ex ex) (r.ex ex)))
/-! ### name = value -/
theorem s_set (i : Nat) (h : ED X e ρ d) (hN : X.N.Nodup) (q : E.nx (ρ.set i (some (.dat d)))) (hi : X.N[i]? = some x := by rfl) (hx : Loc X.env.scope x := by first | exact .inl rfl | exact .inr rfl) (hs : swapsWith e (some (.Name x p')) pos.line X.env = pure false := by rfl)
    (hf : X.fn x = true ∨ X.env.scope.names.lookup x = some .local := by first | exact .inl rfl | exact .inr rfl) : SD1 X (.Assign [.Name x p'] e pos) ρ E := fun H0 O0 B O H σ k r =>
  ws_of (ps_set hN hi hx pw_e hs hf) (h O0 O H σ k.live r _ fun v H' ex hd => ⟨O, _, k.ex ex, (r.ex ex).setD hd, q⟩)
theorem RS.newL {P : Program} {w : World} {H0 B H H' : Hp} {O0 O : Own} {σ : L2.St} {p : Addr} {vs : List V} (k : KB H0 O0 B O H) (r : RS P w O0 O H σ ρ) (np : H p = none) (ex : Ex H H') (hp : H' p = some (.lst vs)) (hd : DrA P w (hide (add O p) H') vs ds) :
    KB H0 O0 B (add O p) H' ∧ RS P w O0 (add O p) H' (σ.set i (some (.ref p))) (ρ.set i (some (.lst ds))) := by
  have hO := k.live.no np
  have hO0 : O0 p = false := by
    cases z : O0 p with
    | false => rfl
    | true => rw [k.sub p z] at hO; cases hO
  have r2 : RS P w O0 (add O p) H' σ ρ := r.grow ex (hide_new ex np) fun a h => by simp [add, h]
  exact ⟨k.new ex np ⟨_, hp⟩, r2.setO (.lst add_self hO0 hp hd) fun j qv q ne e o s => r.notOwned hO e o s⟩
theorem RS.newD {P : Program} {w : World} {H0 B H H' : Hp} {O0 O : Own} {σ : L2.St} {p : Addr} {o : Obj} {xs : List Ent} {t : Tab} (k : KB H0 O0 B O H) (r : RS P w O0 O H σ ρ) (np : H p = none) (ex : Ex H H') (hp : H' p = some (dob p o)) (hn : NObj P w p o xs) (hd : DrK P w (hide (add O p) H') xs t) :
    KB H0 O0 B (add O p) H' ∧ RS P w O0 (add O p) H' (σ.set i (some (.ref p))) (ρ.set i (some (.dic t))) := by
  have hO := k.live.no np
  have hO0 : O0 p = false := by
    cases z : O0 p with
    | false => rfl
    | true => rw [k.sub p z] at hO; cases hO
  have r2 : RS P w O0 (add O p) H' σ ρ := r.grow ex (hide_new ex np) fun a h => by simp [add, h]
  exact ⟨k.new ex np ⟨_, hp⟩, r2.setO (.dic add_self hO0 hp hn hd) fun j qv q ne e o s => r.notOwned hO e o s⟩
/-- name = a new list, owned -/
theorem s_setL (i : Nat) (h : EN X e ρ ds) (hN : X.N.Nodup) (q : E.nx (ρ.set i (some (.lst ds)))) (hi : X.N[i]? = some x := by rfl) (hx : Loc X.env.scope x := by first | exact .inl rfl | exact .inr rfl) (hs : swapsWith e (some (.Name x p')) pos.line X.env = pure false := by rfl)
    (hf : X.fn x = true ∨ X.env.scope.names.lookup x = some .local := by first | exact .inl rfl | exact .inr rfl) : SD1 X (.Assign [.Name x p'] e pos) ρ E := fun H0 O0 B O H σ k r =>
  ws_of (ps_set hN hi hx pw_e hs hf) (h O0 O H σ k.live r _ fun p vs H' np ex hp hd => let z := RS.newL (i := i) k r np ex hp hd; ⟨_, _, z.1, z.2, q⟩)
theorem s_setM {t : Tab} (i : Nat) (h : EM X e ρ t) (hN : X.N.Nodup) (q : E.nx (ρ.set i (some (.dic t)))) (hi : X.N[i]? = some x := by rfl) (hx : Loc X.env.scope x := by first | exact .inl rfl | exact .inr rfl) (hs : swapsWith e (some (.Name x p')) pos.line X.env = pure false := by rfl)
    (hf : X.fn x = true ∨ X.env.scope.names.lookup x = some .local := by first | exact .inl rfl | exact .inr rfl) : SD1 X (.Assign [.Name x p'] e pos) ρ E := fun H0 O0 B O H σ k r =>
  ws_of (ps_set hN hi hx pw_e hs hf) (h O0 O H σ k.live r _ fun p o xs H' np ex hp hn hd => let z := RS.newD (i := i) k r np ex hp hn hd; ⟨_, _, z.1, z.2, q⟩)
/-- name = [.. for ..] on one line: the new list owned -/
theorem s_setLc {elt tg iter : Expr} {ifs : List Expr} {scope : Scope} {own : List (Str × Nat)} {α : Type} {gd : α → PyData} {ds : List α} (i : Nat) (f : α → Option PyData) (us : α → List (Nat × PyData)) (G : Gd X) (hN : X.N.Nodup) (hi' : EI X tg iter ρ (ds.map gd)) (ok : BlkOk X.N X.env.scope scope own) (hz : ds.length ≤ 1000000)
    (hb : ∀ s H C cl fp d, d ∈ ds → (∀ u ∈ us d, u.1 ∈ own.map (·.2)) ∧ GD (inBlk X scope s H C cl fp) tg (gd d) (us d) ∧ ETs (inBlk X scope s H C cl fp) ifs (setDs (wipeP ρ (own.map (·.2))) (us d)) (f d).isSome ∧
      ∀ y, f d = some y → ED (inBlk X scope s H C cl fp) elt (setDs (wipeP ρ (own.map (·.2))) (us d)) y)
    (q : E.nx (ρ.set i (some (.lst (ds.filterMap f))))) (hsw : swapsWith (.ListComp elt [⟨tg, iter, ifs, 0⟩] scope p') (some (.Name x p'')) pos.line X.env = pure true) (hi : X.N[i]? = some x := by rfl) (hyl : X.env.scope.names.lookup x = some .local := by rfl)
    (hs : ∀ x, foldedSetIterable iter X.env x = pure x := by intro _; rfl) : SD1 X (.Assign [.Name x p''] (.ListComp elt [⟨tg, iter, ifs, 0⟩] scope p') pos) ρ E := fun H0 O0 B O H σ k r => by
  obtain ⟨wi, hp, hw⟩ := hi'
  exact ws_of (ps_setLc G.calm hN hi hyl hsw hp ok (fun s H' C cl fp => ⟨fun pins s1 σ1 H1 v u Q1 I r h => (h s H' C cl fp).run pins s1 u I r⟩) (fun s H' C cl fp => ⟨fun pins s1 σ1 H1 Q1 I h => (h s H' C cl fp).run pins s1 I⟩) (fun s H' C cl fp => ⟨fun pins s1 σ1 H1 Q1 I h => (h s H' C cl fp).run pins s1 I⟩) hs)
    (lc_asks f us hz hb O0 O H σ k.live r (hw O0 O H σ k.live r) _ fun p vs H' np ex hp hd => let z := RS.newL (i := i) k r np ex hp hd; ⟨_, _, z.1, z.2, q⟩)
theorem s_setDc {kx vx tg iter : Expr} {scope : Scope} {own : List (Str × Nat)} {α : Type} {gd : α → PyData} {ds : List α} (i : Nat) (kf : α → NestedKey) (vf : α → PyData) (us : α → List (Nat × PyData)) (G : Gd X) (hN : X.N.Nodup) (hi' : EI X tg iter ρ (ds.map gd)) (ok : BlkOk X.N X.env.scope scope own) (hz : ds.length ≤ 1000000)
    (hb : ∀ s H C cl fp d, d ∈ ds → (∀ u ∈ us d, u.1 ∈ own.map (·.2)) ∧ GD (inBlk X scope s H C cl fp) tg (gd d) (us d) ∧ (∃ ks, kf d = .tup ks) ∧ (kf d).depth ≤ 8 ∧
      ED (inBlk X scope s H C cl fp) kx (setDs (wipeP ρ (own.map (·.2))) (us d)) (kf d).data ∧ ED (inBlk X scope s H C cl fp) vx (setDs (wipeP ρ (own.map (·.2))) (us d)) (vf d))
    (q : E.nx (ρ.set i (some (.dic (ds.foldl (fun t d => tput t (kf d) (vf d)) []))))) (hsw : swapsWith (.DictComp kx vx [⟨tg, iter, [], 0⟩] scope p') (some (.Name x p'')) pos.line X.env = pure true) (hi : X.N[i]? = some x := by rfl) (hyl : X.env.scope.names.lookup x = some .local := by rfl)
    (hs : ∀ x, foldedSetIterable iter X.env x = pure x := by intro _; rfl) : SD1 X (.Assign [.Name x p''] (.DictComp kx vx [⟨tg, iter, [], 0⟩] scope p') pos) ρ E := fun H0 O0 B O H σ k r => by
  obtain ⟨wi, hp, hw⟩ := hi'.o
  exact ws_of (ps_setDcN G hN hi hyl hsw hp ok (fun s H' C cl fp => ⟨fun pins s1 σ1 H1 v u Q1 I r h => (h s H' C cl fp).run pins s1 u I r⟩) (fun s H' C cl fp => pts_nil) (fun s H' C cl fp => ⟨fun pins s1 σ1 H1 Q1 I h => (h s H' C cl fp).run pins s1 I⟩) (fun s H' C cl fp => ⟨fun pins s1 σ1 H1 Q1 I h => (h s H' C cl fp).run pins s1 I⟩) hs)
    (dc_asks kf vf us hw hz hb O0 O H σ k.live r _ fun p o xs H' np ex hp hn hd => let z := RS.newD (i := i) k r np ex hp hn hd; ⟨_, _, z.1, z.2, q⟩)
theorem s_setLcf {elt tg iter : Expr} {ifs : List Expr} {scope : Scope} {α : Type} {gd : α → PyData} {ds : List α} (own : List (Str × Nat)) (i : Nat) (c : α → Bool) (f : α → PyData) (us : α → List (Nat × PyData)) (G : Gd X) (hN : X.N.Nodup) (hi' : EI X tg iter ρ (ds.map gd)) (ok : BlkOk X.N X.env.scope scope own) (hz : ds.length ≤ 1000000)
    (hu : ∀ d, ∀ u ∈ us d, u.1 ∈ own.map (·.2)) (hg : ∀ s H C cl fp d, d ∈ ds → GD (inBlk X scope s H C cl fp) tg (gd d) (us d))
    (ht : ∀ s H C cl fp d, d ∈ ds → ETs (inBlk X scope s H C cl fp) ifs (setDs (wipeP ρ (own.map (·.2))) (us d)) (c d))
    (he : ∀ s H C cl fp d, d ∈ ds → c d = true → ED (inBlk X scope s H C cl fp) elt (setDs (wipeP ρ (own.map (·.2))) (us d)) (f d))
    (q : E.nx (ρ.set i (some (.lst ((ds.filter c).map f))))) (hsw : swapsWith (.ListComp elt [⟨tg, iter, ifs, 0⟩] scope p') (some (.Name x p'')) pos.line X.env = pure true) (hi : X.N[i]? = some x := by rfl) (hyl : X.env.scope.names.lookup x = some .local := by rfl)
    (hs : ∀ x, foldedSetIterable iter X.env x = pure x := by intro _; rfl) : SD1 X (.Assign [.Name x p''] (.ListComp elt [⟨tg, iter, ifs, 0⟩] scope p') pos) ρ E := by
  rw [← filterMap_c] at q
  refine s_setLc i (fun x => if c x = true then some (f x) else none) us G hN hi' ok hz (fun s H C cl fp d hd => ⟨hu d, hg s H C cl fp d hd, ets_c (ht s H C cl fp d hd) ?_, fun y e => ?_⟩) q hsw hi hyl hs
  · by_cases h : c d = true
    · rw [if_pos h, h]; rfl
    · rw [if_neg h]; simpa using h
  · by_cases h : c d = true
    · rw [if_pos h] at e; cases e
      exact he s H C cl fp d hd h
    · rw [if_neg h] at e; cases e
theorem s_setLcm {elt tg iter : Expr} {scope : Scope} {α : Type} {gd : α → PyData} {ds : List α} (own : List (Str × Nat)) (i : Nat) (f : α → PyData) (us : α → List (Nat × PyData)) (G : Gd X) (hN : X.N.Nodup) (hi' : EI X tg iter ρ (ds.map gd)) (ok : BlkOk X.N X.env.scope scope own) (hz : ds.length ≤ 1000000)
    (hu : ∀ d, ∀ u ∈ us d, u.1 ∈ own.map (·.2)) (hg : ∀ s H C cl fp d, d ∈ ds → GD (inBlk X scope s H C cl fp) tg (gd d) (us d))
    (he : ∀ s H C cl fp d, d ∈ ds → ED (inBlk X scope s H C cl fp) elt (setDs (wipeP ρ (own.map (·.2))) (us d)) (f d))
    (q : E.nx (ρ.set i (some (.lst (ds.map f))))) (hsw : swapsWith (.ListComp elt [⟨tg, iter, [], 0⟩] scope p') (some (.Name x p'')) pos.line X.env = pure true) (hi : X.N[i]? = some x := by rfl) (hyl : X.env.scope.names.lookup x = some .local := by rfl)
    (hs : ∀ x, foldedSetIterable iter X.env x = pure x := by intro _; rfl) : SD1 X (.Assign [.Name x p''] (.ListComp elt [⟨tg, iter, [], 0⟩] scope p') pos) ρ E := by
  refine s_setLcf own i (fun _ => true) f us G hN hi' ok hz hu hg (fun s H C cl fp d hd => ets_nil) (fun s H C cl fp d hd _ => he s H C cl fp d hd) ?_ hsw hi hyl hs
  rw [List.filter_eq_self.mpr (fun _ _ => rfl)]
  exact q
/-- name = an owned name: it moves -/
theorem s_move {y : Str} {pv : PV} {p2 : Pos} (i j : Nat) (hj : ρ[j]? = some (some pv)) (ho : pv.own = true) (hij : i ≠ j) (hN : X.N.Nodup) (q : E.nx ((ρ.set j none).set i (some pv))) (hi : X.N[i]? = some x := by rfl) (hjN : X.N[j]? = some y := by rfl) (hx : Loc X.env.scope x := by first | exact .inl rfl | exact .inr rfl)
    (hv : Vis X.env.scope y := by first | exact Or.inl rfl | exact Or.inr (Or.inl rfl) | exact Or.inr (Or.inr rfl)) (hd : (y == ("__debug__" : Str)) = false := by decide) (hcd : (y == ("__classdict__" : Str)) = false := by decide)
    (hs : swapsWith (.Name y p2) (some (.Name x p')) pos.line X.env = pure false := by rfl) (hf : X.fn x = true ∨ X.env.scope.names.lookup x = some .local := by first | exact .inl rfl | exact .inr rfl) : SD1 X (.Assign [.Name x p'] (.Name y p2) pos) ρ E := fun H0 O0 B O H σ k r => by
  obtain ⟨v, h1, h2⟩ := r.at_ _ _ hj
  refine ws_of (ps_set hN hi hx (pe_var hjN hv hd hcd) hs hf) ⟨v, h1, ?_⟩
  have hv : ∃ p, v = .ref p := by cases h2 <;> first | exact ⟨_, rfl⟩ | cases ho
  obtain ⟨p, rfl⟩ := hv
  refine ⟨O, _, k, (r.forget (i := j)).setO h2 fun m qv s ne e o hs => ?_, q⟩
  by_cases z : j = m
  · subst z
    have hl : j < ρ.length := (List.getElem?_eq_some_iff.mp hj).1
    rw [List.getElem?_set_self hl] at e; cases e
  · rw [List.getElem?_set_ne z] at e
    exact r.apart m j qv pv s p (Ne.symm z) e hj o ho hs h1
end
end K79

set_option Elab.async false
set_option linter.all false
set_option maxRecDepth 100000
set_option maxHeartbeats 4000000
/-! Loops, stores, calls -/
namespace K79
open PySem PySem.Spec PyProof.Rows L2

section
variable {X : Cx} {e c tg iter : Expr} {ρ : Env} {d : PyData} {E : Eds} {pos p' : Pos} {x : Str} {i : Nat} {ds : List PyData} {body : List Stmt}
/-! ### for, while -/
theorem s_for (G : Gd X) (hi : EI X tg iter ρ ds) (Pv : Nat → Env → Prop) (h0 : Pv 0 ρ)
    (hs : ∀ i d ρ', ds[i]? = some d → Pv i ρ' → ∃ us, GD X tg d us ∧ SD X body (setDs ρ' us) { nx := Pv (i + 1), ct := Pv (i + 1), bk := E.nx, rt := E.rt }) (hd : ∀ ρ', Pv ds.length ρ' → E.nx ρ')
    (hp : PassesOwn (model X.prog X.w) X.A X.env X.xe := by exact PassesOwn.never) (hf : ∀ x, foldedSetIterable iter X.env x = pure x := by intro _; rfl) : SD1 X (.For tg iter body [] pos) ρ E := fun H0 O0 B O H σ k r => by
  obtain ⟨wi, hpi, hw⟩ := hi
  refine ws_of (ps_for hp G.calm hpi pw_g pw_ss hf) (hw O0 O H σ k.live r _ fun J H1 e1 wk => ?_)
  have k1 := k.ex e1
  refine ⟨fun i m σ H => m = ds.length - i ∧ i ≤ ds.length ∧ ∃ O' ρ', KB H0 O0 (hide O H1) O' H ∧ RS X.prog X.w O0 O' H σ ρ' ∧ Pv i ρ', ⟨ds.length, by omega, Nat.zero_le _, O, ρ, k1.start, r.ex e1, h0⟩, ?_⟩
  rintro i m σ2 H2 ⟨rfl, hi, O', ρ', k2, r2, p⟩
  obtain ⟨w1, w2, w3⟩ := wk i H2 O' k2.exB k2.live k2.ownB
  by_cases hlt : i < ds.length
  · refine .inr ⟨w1 hlt, fun σ H => i + 1 ≤ ds.length ∧ ∃ O' ρ', KB H0 O0 (hide O H1) O' H ∧ RS X.prog X.w O0 O' H σ ρ' ∧ Pv (i + 1) ρ', fun σ' H' q => ⟨ds.length - (i + 1), by omega, rfl, q⟩, fun v H3 hy => ?_⟩
    obtain ⟨d, hdi⟩ : ∃ d, ds[i]? = some d := ⟨ds[i], List.getElem?_eq_getElem hlt⟩
    obtain ⟨e3, hv⟩ := w2 d hdi v H3 hy
    obtain ⟨us, hg, hb⟩ := hs i d ρ' hdi p
    refine hg O' H3 v σ2 hv _ fun xs hxs => ?_
    refine wss_mono (D := lift X H0 O0 (hide O H1) { nx := Pv (i + 1), ct := Pv (i + 1), bk := E.nx, rt := E.rt }) ⟨fun σ' H' q => ⟨hlt, q⟩, fun _ _ q => q, fun σ' H' ⟨O4, ρ4, k4, r4, q⟩ => ⟨O4, ρ4, k1.base k4, r4, q⟩, fun σ' H' q => ⟨hlt, q⟩⟩ (hb H0 O0 (hide O H1) O' H3 _ (k2.ex e3) ((r2.ex e3).setVs hxs))
  · have hin : i = ds.length := by omega
    subst hin
    exact .inl ⟨w3 rfl, O', ρ', k1.base k2, r2, hd ρ' p⟩
theorem s_while (inv : Nat → Env → Prop) (m0 : Nat) (h0 : inv m0 ρ)
    (hs : ∀ m ρ', inv m ρ' → ∃ b, ET X c ρ' b ∧ (b = true → SD X body ρ' { nx := fun ρ'' => ∃ m', m' < m ∧ inv m' ρ'', ct := fun ρ'' => ∃ m', m' < m ∧ inv m' ρ'', bk := E.nx, rt := E.rt }) ∧ (b = false → E.nx ρ'))
    (hp : PassesOwn (model X.prog X.w) X.A X.env X.xe := by exact PassesOwn.never) : SD1 X (.While c body [] pos) ρ E := fun H0 O0 B O H σ k r => by
  refine ws_of (ps_while hp pw_t pw_ss) ⟨fun m σ H => ∃ O' ρ', KB H0 O0 B O' H ∧ RS X.prog X.w O0 O' H σ ρ' ∧ inv m ρ', ⟨m0, O, ρ, k, r, h0⟩, ?_⟩
  rintro m σ2 H2 ⟨O', ρ', k2, r2, p⟩
  obtain ⟨b, hb, h1, h2⟩ := hs m ρ' p
  refine hb O0 O' H2 σ2 k2.live r2 _ fun H3 e3 => ?_
  cases b with
  | true =>
    refine iteT ⟨fun σ H => ∃ m', m' < m ∧ ∃ O' ρ', KB H0 O0 B O' H ∧ RS X.prog X.w O0 O' H σ ρ' ∧ inv m' ρ', fun σ' H' q => q, ?_⟩
    exact wss_mono (D := lift X H0 O0 B { nx := fun ρ'' => ∃ m', m' < m ∧ inv m' ρ'', ct := fun ρ'' => ∃ m', m' < m ∧ inv m' ρ'', bk := E.nx, rt := E.rt }) ⟨fun σ' H' ⟨O4, ρ4, k4, r4, m', hm, q⟩ => ⟨m', hm, O4, ρ4, k4, r4, q⟩, fun _ _ q => q, fun _ _ q => q, fun σ' H' ⟨O4, ρ4, k4, r4, m', hm, q⟩ => ⟨m', hm, O4, ρ4, k4, r4, q⟩⟩ (h1 rfl H0 O0 B O' H3 σ2 (k2.ex e3) (r2.ex e3))
  | false => exact iteF ⟨O', ρ', k2.ex e3, r2.ex e3, h2 rfl⟩

/-! ### owned lists change -/
theorem s_append (i : Nat) (hi : ρ[i]? = some (some (.lst ds))) (h : ED X e ρ d) (hz : ds.length < 1000000) (q : E.nx (ρ.set i (some (.lst (ds ++ [d]))))) {l : Str} {p2 apos cpos : Pos} (hN : X.N[i]? = some l := by rfl) (hv : Vis X.env.scope l := by first | exact Or.inl rfl | exact Or.inr (Or.inl rfl) | exact Or.inr (Or.inr rfl)) (hd : (l == ("__debug__" : Str)) = false := by decide)
    (hcd : (l == ("__classdict__" : Str)) = false := by decide) (hbase : attributeBase (.Name l p2) "append" X.env (eval (.Name l p2) X.env) = eval (.Name l p2) X.env := by rfl)
    (hfew : ((backTo cpos (starEach [e] X.env)).all (fun x => !x.1) && (backToKw cpos (keywordEach [] X.env)).all (fun x => x.1.isSome)
      && decide ([e].length + ([] : List Keyword).length + (if ([] : List Keyword).isEmpty then 0 else 1) < 30)) = true := by rfl)
    (hline : (apos.endLine == cpos.line) = true := by rfl) (hst : starEach [e] X.env = (false, eval e X.env) :: starEach [] X.env := by exact star_of rfl) (hsw : swapsWith (.Call (.Attribute (.Name l p2) "append" apos) [e] [] cpos) none pos.line X.env = pure false := by rfl) :
    SD1 X (.Expr (.Call (.Attribute (.Name l p2) "append" apos) [e] [] cpos) pos) ρ E := fun H0 O0 B O H σ k r => by
  obtain ⟨v, h1, h2⟩ := r.at_ _ _ hi
  cases h2 with
  | @lst p vs _ a b c' dd =>
    refine ws_of (ps_expr (pe_bm PySem.F.plainAttrs_list PySem.F.slot_list_append PySem.F.type_list_append mt_append (pe_var hN hv hd hcd) (pa_cons pw_e pa_nil hst) hbase hfew hline hst) hsw) ⟨_, h1, .inl ⟨rfl, vs, .of c'⟩, ?_⟩
    refine h O0 O H σ k.live r _ fun y H1 e1 hy => ?_
    have c1 := e1 _ _ c'
    have hl := dd.length
    refine ⟨p, vs, y, rfl, rfl, c1, by rw [sizeLine_eq]; omega, O, _, (k.ex e1).mut a b, (r.ex e1).mut hi rfl h1 a (.lst a b upd_same ?_) rfl, q⟩
    rw [hide_upd a]
    exact (dd.mono (hide_ex e1)).append (.cons hy .nil)
theorem s_extend (i : Nat) (hi : ρ[i]? = some (some (.lst ds))) {es : List PyData} (h : EN X e ρ es) (hz : ds.length + es.length < 1000000) (q : E.nx (ρ.set i (some (.lst (ds ++ es))))) {l : Str} {p2 apos cpos : Pos} (hN : X.N[i]? = some l := by rfl) (hv : Vis X.env.scope l := by first | exact Or.inl rfl | exact Or.inr (Or.inl rfl) | exact Or.inr (Or.inr rfl)) (hd : (l == ("__debug__" : Str)) = false := by decide)
    (hcd : (l == ("__classdict__" : Str)) = false := by decide) (hbase : attributeBase (.Name l p2) "extend" X.env (eval (.Name l p2) X.env) = eval (.Name l p2) X.env := by rfl)
    (hfew : ((backTo cpos (starEach [e] X.env)).all (fun x => !x.1) && (backToKw cpos (keywordEach [] X.env)).all (fun x => x.1.isSome)
      && decide ([e].length + ([] : List Keyword).length + (if ([] : List Keyword).isEmpty then 0 else 1) < 30)) = true := by rfl)
    (hline : (apos.endLine == cpos.line) = true := by rfl) (hst : starEach [e] X.env = (false, eval e X.env) :: starEach [] X.env := by exact star_of rfl) (hsw : swapsWith (.Call (.Attribute (.Name l p2) "extend" apos) [e] [] cpos) none pos.line X.env = pure false := by rfl) :
    SD1 X (.Expr (.Call (.Attribute (.Name l p2) "extend" apos) [e] [] cpos) pos) ρ E := fun H0 O0 B O H σ k r => by
  obtain ⟨v, h1, h2⟩ := r.at_ _ _ hi
  cases h2 with
  | @lst p vs _ a b c' dd =>
    refine ws_of (ps_expr (pe_bm PySem.F.plainAttrs_list PySem.F.slot_list_extend PySem.F.type_list_extend mt_extend (pe_var hN hv hd hcd) (pa_cons pw_e pa_nil hst) hbase hfew hline hst) hsw) ⟨_, h1, .inl ⟨rfl, vs, .of c'⟩, ?_⟩
    refine h O0 O H σ k.live r _ fun y ys H1 np e1 hy hys => ?_
    have c1 := e1 _ _ c'
    have hl := dd.length
    have hl2 := hys.length
    refine ⟨p, y, vs, ys, rfl, rfl, c1, hy, by rw [sizeLine_eq]; omega, O, _, (k.ex e1).mut a b, (r.ex e1).mut hi rfl h1 a (.lst a b upd_same ?_) rfl, q⟩
    rw [hide_upd a]
    exact (dd.mono (hide_ex e1)).append (hys.mono hide_add)

/-! ### targets that store -/
/-- storing data v into the target makes ρ' of ρ -/
def GT (X : Cx) (tg : Expr) (d : PyData) (ρ ρ' : Env) : Prop := ∀ (H0 : Hp) (O0 : Own) (B : Hp) (O : Own) (H : Hp) (σ : L2.St) (v : V), KB H0 O0 B O H → RS X.prog X.w O0 O H σ ρ → Dr X.prog X.w (hide O H) v d → ∀ Q : L2.St → Hp → Prop,
  (∀ σ' H', KB H0 O0 B O H' → RS X.prog X.w O0 O H' σ' ρ' → Ex (hide O H) (hide O H') → Q σ' H') → WG X tg v σ H Q
def GTs (X : Cx) (ts : List Expr) (ds : List PyData) (ρ ρ' : Env) : Prop := ∃ t, PGs X ts t ∧ ∀ (H0 : Hp) (O0 : Own) (B : Hp) (O : Own) (H : Hp) (σ : L2.St) (vs : List V), KB H0 O0 B O H → RS X.prog X.w O0 O H σ ρ → DrA X.prog X.w (hide O H) vs ds → ∀ Q : L2.St → Hp → Prop,
  (∀ σ' H', KB H0 O0 B O H' → RS X.prog X.w O0 O H' σ' ρ' → Ex (hide O H) (hide O H') → Q σ' H') → t vs σ H Q
theorem gt_of {us : List (Nat × PyData)} (h : GD X tg d us) : GT X tg d ρ (setDs ρ us) := fun H0 O0 B O H σ v k r hv Q q => h O H v σ hv Q fun xs hx => q _ _ k (r.setVs hx) .rfl'
theorem gts_nil : GTs X [] [] ρ ρ := ⟨_, pgs_nil, fun H0 O0 B O H σ vs k r h Q q => by
  cases h
  exact ⟨rfl, q _ _ k r .rfl'⟩⟩
theorem gts_cons {es : List Expr} {ρ1 ρ2 : Env} (h1 : GT X e d ρ ρ1) (h2 : GTs X es ds ρ1 ρ2) (hs : (assignEach (e :: es) X.env).map (·.2) = assign e X.env :: (assignEach es X.env).map (·.2) := by rfl) : GTs X (e :: es) (d :: ds) ρ ρ2 := by
  obtain ⟨t, p, g⟩ := h2
  refine ⟨_, pgs_cons pw_g p hs, fun H0 O0 B O H σ vs k r h Q q => ?_⟩
  cases h with
  | @cons v vs' _ _ hv hr => exact ⟨v, vs', rfl, h1 H0 O0 B O H σ v k r hv _ fun σ' H' k' r' e' => g H0 O0 B O H' σ' vs' k' r' (hr.mono e') _ fun σ2 H2 k2 r2 e2 => q σ2 H2 k2 r2 (e'.trans e2)⟩
theorem gt_tup {es : List Expr} {ρ' : Env} {k n : Nat} (hc : X.calm = true) (h : GTs X es ds ρ ρ') (hl : ds.length = n) (hn : (assignEach es X.env).length = n := by rfl) (hst : (assignEach es X.env).findIdx? (·.1) = none := by rfl) : GT X (.Tuple es k pos) (.tuple ds) ρ ρ' := by
  obtain ⟨t, p, g⟩ := h
  intro H0 O0 B O H σ v k r h Q q
  refine wg_of (pg_tup hc p hn hst) ?_
  cases h with
  | tup h1 h2 => exact ⟨_, _, rfl, .of (hide_sub _ _ h1), by rw [h2.length]; exact hl, g H0 O0 B O H σ _ k r h2 Q q⟩
/-- d[k] = v of an owned dict -/
theorem set_n {o : Expr} (G : Gd X) : PSet X (fun ov iv v H Q => ∃ (p b : Addr) (ob : Obj) (xs : List Ent) (Hd : Hp) (t : Tab) (k : NestedKey), ov = .ref p ∧ iv = .ref b ∧ H p = some (dob p ob) ∧ NObj X.prog X.w p ob xs ∧ DrK X.prog X.w Hd xs t ∧ Ex Hd H ∧ Dr X.prog X.w H (.ref b) k.data ∧ k.depth ≤ 8 ∧ t.length < sizeLine ∧
    ∀ o' u, RelV v u → NObj X.prog X.w p o' (storedH xs k b u) → Q (upd H p (dob p o'))) := by
  intro pins s σ H ov iv v ou iu u Q I r1 r2 r3 h
  obtain ⟨p, b, ob, xs, Hd, t, k, rfl, rfl, h1, h2, h3, h4, h5, h6, h7, q⟩ := h
  cases r1; cases r2
  exact n_set (by have := G.hu; omega) I h1 h2 h3 h4 h5 h6 h7 fun o' s' I' hn => ⟨_, I', q o' u r3 hn⟩
theorem gt_sub {ke : Expr} {t : Tab} {k : NestedKey} {p2 : Pos} (i : Nat) (G : Gd X) (hi : ρ[i]? = some (some (.dic t))) (hk : ED X ke ρ k.data) (hz : k.depth ≤ 8) (hkt : ∃ ks, k = .tup ks) (hl : t.length < 1000000) (hN : X.N[i]? = some x := by rfl) (hv : Vis X.env.scope x := by first | exact Or.inl rfl | exact Or.inr (Or.inl rfl) | exact Or.inr (Or.inr rfl))
    (hd : (x == ("__debug__" : Str)) = false := by decide) (hcd : (x == ("__classdict__" : Str)) = false := by decide)
    (ha : ∀ v, assign (.Subscript (.Name x p2) ke pos) X.env v = (do
      let ov ← holding [v] (eval (.Name x p2) X.env)
      let iv ← holding [v, ov] (eval ke X.env)
      standAt pos
      holding [v, ov, iv] (setItem ov iv v)
      release [v, ov, iv] []) := by intro _; rfl) : GT X (.Subscript (.Name x p2) ke pos) d ρ (ρ.set i (some (.dic (tput t k d)))) := fun H0 O0 B O H σ v kb r hv' Q q => by
  obtain ⟨u, h1, h2⟩ := r.at_ _ _ hi
  cases h2 with
  | @dic p o xs _ a b c dd f =>
    refine wg_of (pg_sub (pe_var hN hv hd hcd) pw_e (set_n (o := ke) G) ha) ⟨_, h1, hk O0 O H σ kb.live r _ fun y H1 e1 hy => ?_⟩
    obtain ⟨ks, rfl⟩ := hkt
    have hy2 := hy
    cases (show Dr X.prog X.w (hide O H1) y (PyData.tuple (NestedKey.datas ks)) from hy) with
    | @tup bk vs _ g1 g2 =>
      have hl2 := f.length
      refine ⟨p, bk, o, xs, hide O H1, t, .tup ks, rfl, rfl, e1 _ _ c, dd, f.mono (hide_ex e1), hide_sub, hy2.mono hide_sub, hz, by rw [sizeLine_eq]; omega, fun o' u' ru hn => ?_⟩
      have eh : hide O (upd H1 p (dob p o')) = hide O H1 := hide_upd a
      refine q σ _ ((kb.ex e1).mut a b) ((r.ex e1).mut hi rfl h1 a (.dic a b upd_same hn ?_) rfl) (by rw [eh]; exact hide_ex e1)
      rw [eh]
      exact (f.mono (hide_ex e1)).put hy2 hz ru (hv'.mono (hide_ex e1))
/-- target = data -/
theorem s_asg {ρ' : Env} (h : ED X e ρ d) (hg : GT X tg d ρ ρ') (q : E.nx ρ') (hs : swapsWithSole [tg] e pos.line X.env = pure false := by rfl) (hw : swappedStores [tg] e X.env = pure none := by rfl)
    (h1 : (assignEach [tg] X.env).map (·.2) = [assign tg X.env] := by rfl) : SD1 X (.Assign [tg] e pos) ρ E := fun H0 O0 B O H σ k r =>
  ws_of (ps_asg pw_e pw_g hs hw h1) (h O0 O H σ k.live r _ fun v H1 e1 hv => hg H0 O0 B O H1 σ v (k.ex e1) (r.ex e1) hv _ fun σ' H' k' r' _ => ⟨O, ρ', k', r', q⟩)
/-- name op= an int -/
theorem s_aug {f : Int → Int → Int} {op : Operator} {m n : Int} (i : Nat) (ho : PIp X op (ipI f)) (hi : ρ[i]? = some (some (.dat (.int m)))) (h : ED X e ρ (.int n)) (hN : X.N.Nodup) (q : E.nx (ρ.set i (some (.dat (.int (f m n)))))) (hiN : X.N[i]? = some x := by rfl) (hx : Loc X.env.scope x := by first | exact .inl rfl | exact .inr rfl)
    (hf : X.fn x = true ∨ X.env.scope.names.lookup x = some .local := by first | exact .inl rfl | exact .inr rfl) : SD1 X (.AugAssign (.Name x p') op e pos) ρ E := fun H0 O0 B O H σ k r => by
  obtain ⟨v, h1, h2⟩ := r.at_ _ _ hi
  cases h2 with
  | dat h2 =>
    cases h2
    refine ws_of (ps_aug hN hiN hx pw_e ho hf) ⟨_, h1, h O0 O H σ k.live r _ fun y H1 e1 hy => ?_⟩
    cases hy
    exact ⟨m, n, rfl, rfl, O, _, k.ex e1, (r.ex e1).setD (.int _), q⟩
end

/-! ### several new values, into names -/
/-- data, or something new -/
inductive NV (P : Program) (w : World) (O : Own) (H H' : Hp) : V → PV → Own → Prop
  | dat {v : V} {d : PyData} : Dr P w (hide O H') v d → NV P w O H H' v (.dat d) O
  | lst {p : Addr} {vs : List V} {ds : List PyData} : H p = none → H' p = some (.lst vs) → DrA P w (hide (add O p) H') vs ds → NV P w O H H' (.ref p) (.lst ds) (add O p)
  | dic {p : Addr} {o : Obj} {xs : List Ent} {t : Tab} : H p = none → H' p = some (dob p o) → NObj P w p o xs → DrK P w (hide (add O p) H') xs t → NV P w O H H' (.ref p) (.dic t) (add O p)
  | dks {p : Addr} {ks : List (Key × V)} {t : STab} : H p = none → H' p = some (.dK ks) → DrS P w (hide (add O p) H') ks t → NV P w O H H' (.ref p) (.dks t) (add O p)
def EV (X : Cx) (e : Expr) (ρ : Env) (pv : PV) : Prop := ∀ (O0 O : Own) (H : Hp) (σ : L2.St), Live O H → RS X.prog X.w O0 O H σ ρ → ∀ Q : VK, (∀ v H' O', Ex H H' → NV X.prog X.w O H H' v pv O' → Q v H') → WE X e σ H Q
section
variable {X : Cx} {e : Expr} {ρ : Env} {d : PyData} {ds : List PyData} {t : Tab}
theorem ev_d (h : ED X e ρ d) : EV X e ρ (.dat d) := fun O0 O H σ L rs Q q => h O0 O H σ L rs Q fun v H' ex hv => q v H' O ex (.dat hv)
theorem ev_l (h : EN X e ρ ds) : EV X e ρ (.lst ds) := fun O0 O H σ L rs Q q => h O0 O H σ L rs Q fun p vs H' np ex hp hv => q _ H' _ ex (.lst np hp hv)
theorem ev_m (h : EM X e ρ t) : EV X e ρ (.dic t) := fun O0 O H σ L rs Q q => h O0 O H σ L rs Q fun p o xs H' np ex hp hn hv => q _ H' _ ex (.dic np hp hn hv)
/-- values made one after another, from O on -/
structure NVs (P : Program) (w : World) (O0 O O' : Own) (H' : Hp) (vs : List V) (pvs : List PV) : Prop where
  len : vs.length = pvs.length
  rp : ∀ (i : Nat) (v : V) (pv : PV), vs[i]? = some v → pvs[i]? = some pv → RP P w O0 O' H' v pv
  fresh : ∀ (i : Nat) (p : Addr) (pv : PV), vs[i]? = some (.ref p) → pvs[i]? = some pv → pv.own = true → O p = false
  apart : ∀ (i j : Nat) (p q : Addr) (pv qv : PV), i ≠ j → vs[i]? = some (.ref p) → vs[j]? = some (.ref q) → pvs[i]? = some pv → pvs[j]? = some qv → pv.own = true → qv.own = true → p ≠ q
structure Gro (O : Own) (H : Hp) (O' : Own) (H' : Hp) : Prop where
  ex : Ex H H'
  le : ∀ a, O a = true → O' a = true
  new : ∀ a, O' a = true → O a = true ∨ H a = none
  live : Live O' H'
theorem Gro.hide {O O' : Own} {H H' : Hp} (g : Gro O H O' H') : Ex (hide O H) (K79.hide O' H') := fun a o h => by
  obtain ⟨h1, h2⟩ := hide_some h
  have : O' a = false := by
    cases z : O' a with
    | false => rfl
    | true => rcases g.new a z with y | y
              · rw [h1] at y; cases y
              · rw [h2] at y; cases y
  rw [hide_at this]; exact g.ex _ _ h2
theorem Gro.trans {O O' O2 : Own} {H H' H2 : Hp} (g : Gro O H O' H') (g2 : Gro O' H' O2 H2) : Gro O H O2 H2 :=
  ⟨g.ex.trans g2.ex, fun a h => g2.le a (g.le a h), fun a h => (g2.new a h).elim (fun z => g.new a z) fun z => .inr (g.ex.back z), g2.live⟩
theorem NV.gro {P : Program} {w : World} {O O' : Own} {H H' : Hp} {v : V} {pv : PV} (L : Live O H) (e : Ex H H') (h : NV P w O H H' v pv O') : Gro O H O' H' := by
  have key : ∀ {p : Addr} {o : HO}, H p = none → H' p = some o → Gro O H (add O p) H' := fun {p o} np hp => ⟨e, fun a h => by simp [add, h], fun a h => by
    by_cases z : a = p
    · subst z; exact .inr np
    · rw [add_other z] at h; exact .inl h, fun a h => by
    by_cases z : a = p
    · subst z; exact ⟨_, hp⟩
    · rw [add_other z] at h
      obtain ⟨o, q⟩ := L a h
      exact ⟨o, e _ _ q⟩⟩
  cases h with
  | dat _ => exact ⟨e, fun _ h => h, fun _ h => .inl h, L.ex e⟩
  | lst np hp _ => exact key np hp
  | dic np hp _ _ => exact key np hp
  | dks np hp _ => exact key np hp
theorem NV.rp {P : Program} {w : World} {O0 O O' : Own} {H H' : Hp} {v : V} {pv : PV} (L : Live O H) (sub : ∀ a, O0 a = true → O a = true) (h : NV P w O H H' v pv O') : RP P w O0 O' H' v pv := by
  have key : ∀ {p : Addr}, H p = none → O0 p = false := fun {p} np => by
    cases z : O0 p with
    | false => rfl
    | true => have := L.no np; rw [sub p z] at this; cases this
  cases h with
  | dat h => exact .dat h
  | lst np hp h => exact .lst add_self (key np) hp h
  | dic np hp hn h => exact .dic add_self (key np) hp hn h
  | dks np hp h => exact .dks add_self (key np) hp h
theorem NV.own {P : Program} {w : World} {O O' : Own} {H H' : Hp} {p : Addr} {pv : PV} (L : Live O H) (h : NV P w O H H' (.ref p) pv O') (ho : pv.own = true) : O p = false ∧ O' p = true := by
  cases h with
  | dat _ => cases ho
  | lst np _ _ => exact ⟨L.no np, add_self⟩
  | dic np _ _ _ => exact ⟨L.no np, add_self⟩
  | dks np _ _ => exact ⟨L.no np, add_self⟩
def EVs (X : Cx) (es : List Expr) (ρ : Env) (pvs : List PV) : Prop := ∀ (O0 O : Own) (H : Hp) (σ : L2.St), Live O H → (∀ a, O0 a = true → O a = true) → RS X.prog X.w O0 O H σ ρ → ∀ Q : List V → Hp → Prop,
  (∀ vs H' O', Gro O H O' H' → NVs X.prog X.w O0 O O' H' vs pvs → Q vs H') → WA X es σ H Q
theorem evs_nil : EVs X [] ρ [] := fun O0 O H σ L sub rs Q q => wa_of pa_nil (q [] H O ⟨.rfl', fun _ h => h, fun _ h => .inl h, L⟩ ⟨rfl, fun i v pv h => by simp at h, fun i p pv h => by simp at h, fun i j p q' pv qv ne h => by simp at h⟩)
theorem evs_cons {es : List Expr} {pv : PV} {pvs : List PV} (ha : EV X e ρ pv) (hb : EVs X es ρ pvs) (hs : starEach (e :: es) X.env = (false, eval e X.env) :: starEach es X.env := by exact star_of rfl) : EVs X (e :: es) ρ (pv :: pvs) := fun O0 O H σ L sub rs Q q =>
  wa_of (pa_cons pw_e pw_a hs) (ha O0 O H σ L rs _ fun v H1 O1 e1 h1 => by
    have g1 := h1.gro L e1
    refine hb O0 O1 H1 σ g1.live (fun a h => g1.le a (sub a h)) (rs.grow e1 g1.hide g1.le) _ fun vs H2 O2 g2 n => q _ H2 O2 (g1.trans g2) ⟨by simp [n.len], fun i u pu hu hp => ?_, fun i p pu hu hp ho => ?_, fun i j p r pu qu ne hu hr hp hq op oq => ?_⟩
    · cases i with
      | zero =>
        simp at hu hp
        subst hu hp
        exact (h1.rp L sub).grow g2.ex g2.hide g2.le
      | succ i => exact n.rp i u pu (by simpa using hu) (by simpa using hp)
    · cases i with
      | zero =>
        simp at hu hp
        subst hu hp
        exact (h1.own L ho).1
      | succ i =>
        have := n.fresh i p pu (by simpa using hu) (by simpa using hp) ho
        cases z : O p with
        | false => rfl
        | true => rw [g1.le p z] at this; cases this
    · cases i with
      | zero =>
        cases j with
        | zero => exact absurd rfl ne
        | succ j =>
          simp at hu hp
          subst hu hp
          have h3 := (h1.own L op).2
          have h4 := n.fresh j r qu (by simpa using hr) (by simpa using hq) oq
          intro z; subst z; rw [h3] at h4; cases h4
      | succ i =>
        cases j with
        | zero =>
          simp at hr hq
          subst hr hq
          have h3 := (h1.own L oq).2
          have h4 := n.fresh i p pu (by simpa using hu) (by simpa using hp) op
          intro z; subst z; rw [h3] at h4; cases h4
        | succ j => exact n.apart i j p r pu qu (by omega) (by simpa using hu) (by simpa using hr) (by simpa using hp) (by simpa using hq) op oq)
def setPs (ρ : Env) (l : List (Nat × PV)) : Env := l.foldl (fun ρ p => ρ.set p.1 (some p.2)) ρ
theorem RS.setPs {P : Program} {w : World} {O0 O O' : Own} {H' : Hp} : ∀ {is : List Nat} {vs : List V} {pvs : List PV} {σ : L2.St} {ρ : Env}, is.length = pvs.length → RS P w O0 O' H' σ ρ → NVs P w O0 O O' H' vs pvs →
    (∀ (j : Nat) (qv : PV) (q : Addr), ρ[j]? = some (some qv) → qv.own = true → σ[j]? = some (some (.ref q)) → ∀ (m : Nat) (p : Addr) (pv : PV), vs[m]? = some (.ref p) → pvs[m]? = some pv → pv.own = true → q ≠ p) → RS P w O0 O' H' (K79.setVs σ (is.zip vs)) (K79.setPs ρ (is.zip pvs))
  | [], [], [], _, _, _, r, _, _ => r
  | [], _ :: _, [], _, _, _, _, n, _ => by have := n.len; simp at this
  | [], _, _ :: _, _, _, h, _, _, _ => by simp at h
  | _ :: _, _, [], _, _, h, _, _, _ => by simp at h
  | _ :: _, [], _ :: _, _, _, _, _, n, _ => by have := n.len; simp at this
  | i :: is, v :: vs, pv :: pvs, σ, ρ, h, r, n, no => by
    have hn : NVs P w O0 O O' H' vs pvs := ⟨by have := n.len; simpa using this, fun m u pu a b => n.rp (m + 1) u pu (by simpa using a) (by simpa using b), fun m p pu a b c => n.fresh (m + 1) p pu (by simpa using a) (by simpa using b) c,
      fun m l p q pu qu ne a b c d => n.apart (m + 1) (l + 1) p q pu qu (by omega) (by simpa using a) (by simpa using b) (by simpa using c) (by simpa using d)⟩
    have hrp : RP P w O0 O' H' v pv := n.rp 0 v pv rfl rfl
    have fin : RS P w O0 O' H' (σ.set i (some v)) (ρ.set i (some pv)) → RS P w O0 O' H' (K79.setVs σ ((i :: is).zip (v :: vs))) (K79.setPs ρ ((i :: is).zip (pv :: pvs))) := fun r2 =>
      RS.setPs (is := is) (by simpa using h) r2 hn fun j qv q e o s m p pu hv hp ho => by
        by_cases z : i = j
        · subst z
          have hl : i < ρ.length := by have := (List.getElem?_eq_some_iff.mp e).1; simpa using this
          rw [List.getElem?_set_self hl] at e
          rw [List.getElem?_set_self (by rw [r.len]; exact hl)] at s
          cases e; cases s
          exact n.apart 0 (m + 1) q p pv pu (by omega) rfl (by simpa using hv) rfl (by simpa using hp) o ho
        · rw [List.getElem?_set_ne z] at e s
          exact no j qv q e o s (m + 1) p pu (by simpa using hv) (by simpa using hp) ho
    cases hp : pv.own with
    | false =>
      cases hrp with
      | dat hd => exact fin (r.setD hd)
      | lst _ _ _ _ => cases hp
      | dic _ _ _ _ _ => cases hp
      | dks _ _ _ _ => cases hp
    | true =>
      have hv : ∃ p, v = .ref p := by cases hrp <;> first | exact ⟨_, rfl⟩ | cases hp
      obtain ⟨p, rfl⟩ := hv
      exact fin (r.setO hrp fun j qv q ne e o s => no j qv q e o s 0 p pv rfl rfl hp)
/-- what several new values make of a state -/
theorem KB.gro {H0 : Hp} {O0 : Own} {B : Hp} {O O' : Own} {H H' : Hp} (k : KB H0 O0 B O H) (g : Gro O H O' H') : KB H0 O0 B O' H' :=
  ⟨k.ex0.trans g.ex, fun a h => g.le a (k.sub a h), fun a h => (g.new a h).elim (fun z => k.own0 a z) fun z => .inr (k.ex0.back z), k.exB.trans g.ex, fun a h => (g.new a h).elim (fun z => k.ownB a z) fun z => k.exB.back z, g.live⟩
theorem RS.news {P : Program} {w : World} {O0 O O' : Own} {H H' : Hp} {is : List Nat} {vs : List V} {pvs : List PV} {σ : L2.St} (hl : is.length = pvs.length) (r : RS P w O0 O H σ ρ) (g : Gro O H O' H') (n : NVs P w O0 O O' H' vs pvs) : RS P w O0 O' H' (K79.setVs σ (is.zip vs)) (K79.setPs ρ (is.zip pvs)) :=
  (r.grow g.ex g.hide g.le).setPs hl n fun j qv q e o s m p pv hv hp ho => r.notOwned (n.fresh m p pv hv hp ho) e o s
end
section
variable {X : Cx} {ρ : Env} {E : Eds} {pos : Pos} {a b c : Expr} {x y z : Str} {u v w' : PV}
theorem s_par2 {px py pt : Pos} {kt k2 : Nat} {pt2 : Pos} (i j : Nat) (G : Gd X) (h : EVs X [a, b] ρ [u, v]) (hN : X.N.Nodup) (q : E.nx ((ρ.set i (some u)).set j (some v))) (hij : i ≠ j := by decide) (hi : X.N[i]? = some x := by rfl) (hj : X.N[j]? = some y := by rfl)
    (hx : X.env.scope.names.lookup x = some .local := by rfl) (hy : X.env.scope.names.lookup y = some .local := by rfl) (hw : swappedStores [.Tuple [.Name x px, .Name y py] kt pt] (.Tuple [a, b] k2 pt2) X.env = pure (some [x, y]) := by rfl)
    (hs : swapsWithSole [.Tuple [.Name x px, .Name y py] kt pt] (.Tuple [a, b] k2 pt2) pos.line X.env = pure false := by rfl) : SD1 X (.Assign [.Tuple [.Name x px, .Name y py] kt pt] (.Tuple [a, b] k2 pt2) pos) ρ E := fun H0 O0 B O H σ k r =>
  ws_of (ps_par G.calm hN hi hj hij hx hy pw_a hw hs) (h O0 O H σ k.live k.sub r _ fun vs H' O' g n => by
    have hr := RS.news (is := [i, j]) rfl r g n
    have hl := n.len
    match vs, hl with
    | [v1, v2], _ => exact ⟨v1, v2, rfl, O', _, k.gro g, hr, q⟩)
theorem s_par3 {px py pz pt : Pos} {kt k2 : Nat} {pt2 : Pos} (i j l : Nat) (G : Gd X) (h : EVs X [a, b, c] ρ [u, v, w']) (hN : X.N.Nodup) (q : E.nx (((ρ.set i (some u)).set j (some v)).set l (some w'))) (hij : i ≠ j := by decide) (hil : i ≠ l := by decide) (hjl : j ≠ l := by decide) (hi : X.N[i]? = some x := by rfl) (hj : X.N[j]? = some y := by rfl) (hl' : X.N[l]? = some z := by rfl)
    (hx : X.env.scope.names.lookup x = some .local := by rfl) (hy : X.env.scope.names.lookup y = some .local := by rfl) (hz : X.env.scope.names.lookup z = some .local := by rfl) (hw : swappedStores [.Tuple [.Name x px, .Name y py, .Name z pz] kt pt] (.Tuple [a, b, c] k2 pt2) X.env = pure (some [x, y, z]) := by rfl)
    (hs : swapsWithSole [.Tuple [.Name x px, .Name y py, .Name z pz] kt pt] (.Tuple [a, b, c] k2 pt2) pos.line X.env = pure false := by rfl) : SD1 X (.Assign [.Tuple [.Name x px, .Name y py, .Name z pz] kt pt] (.Tuple [a, b, c] k2 pt2) pos) ρ E := fun H0 O0 B O H σ k r =>
  ws_of (ps_par3 G.calm hN hi hj hl' hij hil hjl hx hy hz pw_a hw hs) (h O0 O H σ k.live k.sub r _ fun vs H' O' g n => by
    have hr := RS.news (is := [i, j, l]) rfl r g n
    have hl := n.len
    match vs, hl with
    | [v1, v2, v3], _ => exact ⟨v1, v2, v3, rfl, O', _, k.gro g, hr, q⟩)
/-- plain names as targets of a tuple -/
def GNs (X : Cx) (ts : List Expr) (is : List Nat) : Prop := ∃ t, PGs X ts t ∧ ∀ (vs : List V) (σ : L2.St) (H : Hp) (Q : L2.St → Hp → Prop), vs.length = is.length → Q (K79.setVs σ (is.zip vs)) H → t vs σ H Q
theorem gns_nil : GNs X [] [] := ⟨_, pgs_nil, fun vs σ H Q h q => by
  match vs, h with
  | [], _ => exact ⟨rfl, q⟩⟩
theorem gns_cons {ts : List Expr} {is : List Nat} {p : Pos} (i : Nat) (hN : X.N.Nodup) (h : GNs X ts is) (hi : X.N[i]? = some x := by rfl) (hx : Loc X.env.scope x := by first | exact .inl rfl | exact .inr rfl) (hf : X.fn x = true ∨ X.env.scope.names.lookup x = some .local := by first | exact .inl rfl | exact .inr rfl)
    (hs : (assignEach (.Name x p :: ts) X.env).map (·.2) = assign (.Name x p) X.env :: (assignEach ts X.env).map (·.2) := by rfl) : GNs X (.Name x p :: ts) (i :: is) := by
  obtain ⟨t, g, r⟩ := h
  refine ⟨_, pgs_cons (pg_name hN hi hx hf) g hs, fun vs σ H Q h q => ?_⟩
  match vs, h with
  | v :: vs, h => exact ⟨v, vs, rfl, r vs _ H Q (by simpa using h) q⟩
theorem s_tupN {ts es : List Expr} {is : List Nat} {pvs : List PV} {kt k2 : Nat} {pt pt2 : Pos} {n : Nat} (G : Gd X) (h : EVs X es ρ pvs) (hg : GNs X ts is) (hl : is.length = pvs.length) (hz : pvs.length ≤ 100) (q : E.nx (setPs ρ (is.zip pvs))) (hnl : pvs.length = n) (hn : (assignEach ts X.env).length = n := by rfl) (hst : (assignEach ts X.env).findIdx? (·.1) = none := by rfl)
    (hs : swapsWithSole [.Tuple ts kt pt] (.Tuple es k2 pt2) pos.line X.env = pure false := by rfl) (hw : swappedStores [.Tuple ts kt pt] (.Tuple es k2 pt2) X.env = pure none := by rfl)
    (h1 : (assignEach [.Tuple ts kt pt] X.env).map (·.2) = [assign (.Tuple ts kt pt) X.env] := by rfl) : SD1 X (.Assign [.Tuple ts kt pt] (.Tuple es k2 pt2) pos) ρ E := fun H0 O0 B O H σ k r => by
  obtain ⟨t, g, rd⟩ := hg
  refine ws_of (ps_asg (pe_tup pw_a) (pg_tup G.calm g hn hst) hs hw h1) (h O0 O H σ k.live k.sub r _ fun vs H' O' gr nv => ?_)
  have hr := RS.news (is := is) hl r gr nv
  have hlen := nv.len
  refine ⟨by rw [sizeLine_eq]; omega, fun p np => ⟨p, vs, rfl, .of upd_same, by omega, rd vs σ _ _ (by omega) ⟨O', _, (k.gro gr).ex (.new np), hr.ex (.new np), q⟩⟩⟩
end
end K79

set_option Elab.async false
set_option linter.all false
set_option maxRecDepth 100000
set_option maxHeartbeats 4000000
/-! Defs: their promises over data -/
namespace K79
open PySem PySem.Spec PyProof.Rows L2

/-- from data fn ds d: called with ds it hands back d, and leaves all as it was -/
def spD (P : Program) (w : World) (fn : List PyData → PyData → Prop) : Sp := fun vs H Q _ => ∃ (O : Own) (ds : List PyData) (d : PyData), Live O H ∧ DrA P w (hide O H) vs ds ∧ fn ds d ∧ ∀ v H', Ex H H' → Dr P w (hide O H') v d → Q v H'
/-- the def x of the text keeps fn, by at most level k -/
structure FD (P : Program) (w : World) (K : PySem.W.Frag) (mg : Str → Option Value) (base : Heap) (x : Str) (n k : Nat) (fn : List PyData → PyData → Prop) : Prop where
  ex : ∃ (f : Addr) (fd : FuncData) (ps : List Str), ps.length = n ∧ FnOk P w K mg base CX0 k f fd ps (spD P w fn) ∧ mg x = some (.ref f) ∧ PySem.W.keepIn K (.ref f) = true ∧ Binds K fd ps []
section
variable {X : Cx} {x : Str} {e : Expr} {es : List Expr} {ρ : Env} {ds : List PyData} {d : PyData} {p pos : Pos} {n k : Nat} {fn : List PyData → PyData → Prop}
theorem we_call (F : FD X.prog X.w X.K X.mg X.base x n k fn) (hr : Room k X.A) (ha : EA X (e :: es) ρ ds) (h : fn ds d) (hg : Gl X x := by rfl) (hdb : (x == ("__debug__" : Str)) = false := by decide) (he : starEach (e :: es) X.env = (false, eval e X.env) :: starEach es X.env := by exact star_of rfl)
    (hpl : (backTo pos (starEach es X.env)).any (·.1) = false := by rfl) : ED X (.Call (.Name x p) (e :: es) [] pos) ρ d := fun O0 O H σ L r Q q => by
  obtain ⟨f, fd, ps, hn, F, hm, hk, hb⟩ := F.ex
  refine we_of (pe_call F hr hg hm hk hb .nil pass0 pw_a hdb he hpl) (ha O0 O H σ L r _ fun vs H1 e1 h1 => ?_)
  exact ⟨O, ds, d, L.ex e1, by rw [List.append_nil]; exact h1, h, fun v H' e2 hv => q v H' (e1.trans e2) hv⟩
end
def startE (N : List Str) (ds : List PyData) : Env := ds.map (fun d => some (.dat d)) ++ List.replicate (N.length - ds.length) none
theorem rs_start {P : Program} {w : World} {O : Own} {H : Hp} {N : List Str} : ∀ {vs : List V} {ds : List PyData}, DrA P w (hide O H) vs ds → RS P w O O H (L2.start N vs) (startE N ds) := fun {vs ds} h => by
  have hl := h.length
  refine ⟨by simp [L2.start, startE]; omega, fun i pv e => ?_, fun i j pv qv p q ne e1 e2 o1 o2 => ?_⟩
  · by_cases hi : i < ds.length
    · unfold startE at e
      rw [List.getElem?_append_left (by simpa using hi), List.getElem?_map] at e
      obtain ⟨d, hd⟩ : ∃ d, ds[i]? = some d := ⟨ds[i], List.getElem?_eq_getElem hi⟩
      rw [hd] at e
      cases e
      obtain ⟨v, hv, hr⟩ := h.get hd
      refine ⟨v, ?_, .dat hr⟩
      unfold L2.start
      rw [List.getElem?_append_left (by simp; omega), List.getElem?_map, hv]; rfl
    · unfold startE at e
      rw [List.getElem?_append_right (by simp; omega), List.getElem?_replicate] at e
      split at e <;> cases e
  · have key : ∀ {m : Nat} {u : PV}, (startE N ds)[m]? = some (some u) → u.own = false := fun {m u} e => by
      unfold startE at e
      by_cases hi : m < ds.length
      · rw [List.getElem?_append_left (by simpa using hi), List.getElem?_map] at e
        cases hd : ds[m]? with
        | none => rw [hd] at e; cases e
        | some d => rw [hd] at e; cases e; rfl
      · rw [List.getElem?_append_right (by simp; omega), List.getElem?_replicate] at e
        split at e <;> cases e
    rw [key e1] at o1; cases o1
/-- the module's facts that every body leans on -/
structure Md (mg : Str → Option Value) : Prop where
  len : mg "len" = none
  range : mg "range" = none
  tuple : mg "tuple" = none
  list : mg "list" = none
  int : mg "int" = none
  str : mg "str" = none
  bool : mg "bool" = none
  dict : mg "dict" = none
  isi : mg "isinstance" = none
  sum : mg "sum" = none
  min : mg "min" = none
  max : mg "max" = none
  sorted : mg "sorted" = none
  all : mg "all" = none
  any : mg "any" = none
  zip : mg "zip" = none
  enum : mg "enumerate" = none
  abs : mg "abs" = none
  repr : mg "repr" = none
  letters : ∃ u, mg "LETTERS" = some u ∧ RelV (.str "abcdefghijklmnopqrstuvwxyz") u
  most : ∃ u, mg "MOST_STATES" = some u ∧ RelV (.int 20000) u
/-- the context of a def's body -/
abbrev bx (P : Program) (w : World) (K : PySem.W.Frag) (mg : Str → Option Value) (base : Heap) (N : List Str) (qual : Str) (st : Stmt) (f : Addr) (cdv : Value) (A : Around) (outer : List PySem.Env) (s : Shared) (H : Hp) (E : XK) : Cx :=
  (cxOf CX0 P w K mg base N qual (defScope st) f cdv A outer s H E).nox
section
variable {P : Program} {w : World} {K : PySem.W.Frag} {mg : Str → Option Value} {base : Heap}
/-- a def by its body -/
theorem fd_of {x qual : Str} {gname : Str} {st : Stmt} {f : Addr} {fd : FuncData} {N ps : List Str} {k : Nat} {fn : List PyData → PyData → Prop} (M : Md mg) (F : FunD K x qual (defArgs st) (defBody st) (defScope st) [] [] f fd) (S : FnScope N ps (defScope st)) (hm : mg gname = some (.ref f))
    (hb : ∀ (kV doc pm : Value) (an : Option Addr) (cdv ct : Value) (us : List Value), us.length = ps.length → bindArgs (PySem.W.fnOf x qual (defArgs st) (defBody st) (defScope st) .none kV doc pm an cdv ct) ⟨us, []⟩ = pure (ps.zip us))
    (len : ∀ ds d, fn ds d → ds.length = ps.length)
    (body : ∀ (f : Addr) (cdv : Value) (A : Around) (outer : List PySem.Env) (s : Shared) (H : Hp) (E : XK), Room k (bx P w K mg base N qual st f cdv A outer s H E).A → Gd (bx P w K mg base N qual st f cdv A outer s H E) → ∀ ds d, fn ds d →
      SD (bx P w K mg base N qual st f cdv A outer s H E) (defBody st) (startE N ds) { nx := fun _ => d = .none, rt := fun d' => d' = d }) : FD P w K mg base gname ps.length (k + 1) fn := by
  refine ⟨f, fd, ps, rfl, F.ok S (fun vs H Q E h => ?_) (fun cdv A outer s H vs Q E hr h => ?_), hm, F.kp, FunD.bindsN F hb⟩
  · obtain ⟨O, ds, d, L, h1, h2, _⟩ := h
    rw [h1.length, len ds d h2]
  · obtain ⟨O, ds, d, L, h1, h2, q⟩ := h
    have G : Gd (bx P w K mg base N qual st f cdv A outer s H E) := ⟨rfl, by have := hr.un; exact (by omega : (A.deeper (envOfC qual (defScope st) s.heap.objs.size f cdv)).units + 180 < cLine), M.len, M.range, M.tuple, M.list, M.int, M.str, M.bool, M.dict, M.isi, M.sum, M.min, M.max, M.sorted, M.all, M.any, M.zip, M.enum, M.abs, M.repr⟩
    have z := body f cdv A outer s H E hr G ds d h2 H O (hide O H) O H (L2.start N vs) ⟨.rfl', fun _ h => h, fun _ h => .inl h, hide_sub, fun a h => hide_own h, L⟩ (rs_start h1)
    refine ⟨_, PSs.nox pw_ss, wss_mono (D := lift (bx P w K mg base N qual st f cdv A outer s H E) H O (hide O H) { nx := fun _ => d = .none, rt := fun d' => d' = d }) ⟨fun σ' H' ⟨O', ρ', k', r', e⟩ => ?_, fun v H' ⟨e, d', hd, e2⟩ => by subst e2; exact q v H' e hd, fun _ _ h => ?_, fun _ _ h => ?_⟩ z⟩
    · subst e
      exact q .non H' k'.ex0 .non
    · obtain ⟨_, _, _, _, h⟩ := h; exact h.elim
    · obtain ⟨_, _, _, _, h⟩ := h; exact h.elim
end
end K79

set_option Elab.async false
set_option linter.all false
set_option maxRecDepth 100000
set_option maxHeartbeats 4000000
/-! Loops over any index type; defs by their names -/
namespace K79
open PySem PySem.Spec PyProof.Rows L2

/-! a comparison, as a test -/
theorem isTrue_of_eval {M : Model} {A : Around} {env : PySem.Env} {E : Value → Shared → Prop} {s : Shared} {l r : Expr} {op : CmpOp} {pos : Pos} {whole : Sem Value} {Q : Bool → Shared → Prop}
    (h : wpAny M A (eval (.Compare l [op] [r] pos) env) (fun c s₃ => wpAny M A (truthy c) Q E s₃) E s) (hm : behindInMarks op r = false) : wpAny M A (isTrue (.Compare l [op] [r] pos) env whole) Q E s := fun Γ p hΓ => by
  have ev := h Γ p hΓ
  simp only [markedBehindIn_of_false hm, eval_Compare1, Sem.wp_operate, Sem.wp_cmd_standAt, Sem.wp_holding, Sem.wp_bind'] at ev
  simp only [markedBehindIn_of_false hm, isTrue_Compare1, Sem.wp_operate, Sem.wp_cmd_standAt, Sem.wp_holding, Sem.wp_bind']
  refine Sem.wp_mono M Γ _ (fun left p1 s1 at1 => ?_) (fun _ _ _ z => z) _ _ ev
  refine Sem.wp_mono M Γ _ (fun right p2 s2 at2 => ?_) (fun _ _ _ z => z) _ _ at1
  exact Sem.wp_mono M Γ _ (fun answer p3 s3 at3 => at3 Γ p3 hΓ) (fun _ _ _ z => z) _ _ at2
theorem et_of {X : Cx} {a b : Expr} {op : CmpOp} {pos : Pos} {u : Bool} {ρ : Env} (h : ED X (.Compare a [op] [b] pos) ρ (.bool u)) (h1 : behindInMarks op b = false := by first | exact nobehind _ (by decide) (by decide) | with_unfolding_all rfl) : ET X (.Compare a [op] [b] pos) ρ u := fun O0 O H σ L rs Q q => by
  refine ⟨fun pins s I => ?_⟩
  refine isTrue_of_eval (thn ((h O0 O H σ L rs (fun v H' => v = .bl u ∧ Ex H H') (fun v H' e hv => ⟨by cases hv; rfl, e⟩)).run pins s I) fun v s1 ⟨x, H1, I1, r1, e1, e2⟩ => ?_) h1
  subst e1
  cases r1
  exact wpAny_truthy_bool ⟨H1, I1, q H1 e2⟩

/-- a block's slots, by a test -/
def blkB (N : List Str) (sc scope : Scope) (own : List (Str × Nat)) : Bool :=
  decide (scope.kind = .function) && (scope.names.all fun y => decide (scope.names.lookup y.1 = some y.2)) && (own.all fun p => decide (N[p.2]? = some p.1)) &&
  (scope.names.all fun y => !decide (y.2 = .free) || (decide (sc.names.lookup y.1 = some .cell) || decide (sc.names.lookup y.1 = some .free))) &&
  (scope.names.all fun y => !(decide (y.2 = .local) || decide (y.2 = .cell)) || (decide (y.1 ∈ own.map (·.1)) || decide (y.1 ∉ N)))
theorem blk_ok {N : List Str} {sc scope : Scope} {own : List (Str × Nat)} (h : blkB N sc scope own = true) : BlkOk N sc scope own := by
  unfold blkB at h
  simp only [Bool.and_eq_true, List.all_eq_true, decide_eq_true_eq, Bool.or_eq_true, Bool.not_eq_true', decide_eq_false_iff_not] at h
  obtain ⟨⟨⟨⟨h1, h2⟩, h3⟩, h4⟩, h5⟩ := h
  refine ⟨h1, h2, h3, fun y hy e => ?_, fun y hy e => ?_⟩
  · rcases h4 y hy with z | z
    · exact absurd e z
    · exact z
  · rcases h5 y hy with z | z
    · rcases e with e | e <;> simp [e] at z
    · exact z
structure Dn (K : PySem.W.Frag) (mg : Str → Option Value) (d : He.DefD) : Prop where
  fn : ∃ fd, FunD K d.name d.qual d.params d.body d.scope [] [] (He.fAd K d.at_) fd
  glo : mg d.at_.1 = some (.ref (He.fAd K d.at_))
abbrev dD (d : PyData) : Option PV := some (.dat d)
abbrev dL (ds : List PyData) : Option PV := some (.lst ds)
abbrev dT (t : Tab) : Option PV := some (.dic t)
abbrev dZ : Option PV := none
section
variable {X : Cx} {e c tg iter : Expr} {ρ : Env} {d : PyData} {E : Eds} {pos p' : Pos} {x : Str} {i : Nat} {body : List Stmt}
theorem EI.cast {ds ds' : List PyData} (h : EI X tg iter ρ ds) (e : ds = ds') : EI X tg iter ρ ds' := e ▸ h
/-- for over any index type -/
theorem s_forA {α : Type} {gd : α → PyData} {as : List α} (G : Gd X) (hi : EI X tg iter ρ (as.map gd)) (Pv : Nat → Env → Prop) (h0 : Pv 0 ρ)
    (hs : ∀ i a ρ', as[i]? = some a → Pv i ρ' → ∃ us, GD X tg (gd a) us ∧ SD X body (setDs ρ' us) { nx := Pv (i + 1), ct := Pv (i + 1), bk := E.nx, rt := E.rt }) (hd : ∀ ρ', Pv as.length ρ' → E.nx ρ')
    (hp : PassesOwn (model X.prog X.w) X.A X.env X.xe := by exact PassesOwn.never) (hf : ∀ x, foldedSetIterable iter X.env x = pure x := by intro _; rfl) : SD1 X (.For tg iter body [] pos) ρ E :=
  s_for G hi Pv h0 (fun i d ρ' hd p => by
    rw [List.getElem?_map] at hd
    cases ha : as[i]? with
    | none => rw [ha] at hd; cases hd
    | some a =>
      rw [ha] at hd; cases hd
      exact hs i a ρ' ha p) (by rw [List.length_map]; exact hd) hp hf
/-- for that steps one environment to the next -/
theorem s_forE {α : Type} {gd : α → PyData} {as : List α} (G : Gd X) (hi : EI X tg iter ρ (as.map gd)) (en : List α → Env) (h0 : ρ = en [])
    (hs : ∀ pre a, (pre ++ [a]) <+: as → ∃ us, GD X tg (gd a) us ∧ SD X body (setDs (en pre) us) { nx := fun ρ' => ρ' = en (pre ++ [a]), ct := fun ρ' => ρ' = en (pre ++ [a]), bk := E.nx, rt := E.rt }) (hd : E.nx (en as))
    (hp : PassesOwn (model X.prog X.w) X.A X.env X.xe := by exact PassesOwn.never) (hf : ∀ x, foldedSetIterable iter X.env x = pure x := by intro _; rfl) : SD1 X (.For tg iter body [] pos) ρ E :=
  s_forA G hi (fun i ρ' => ρ' = en (as.take i)) (by rw [List.take_zero]; exact h0) (fun i a ρ' ha p => by
    subst p
    have e : as.take (i + 1) = as.take i ++ [a] := by rw [List.take_add_one, ha]; rfl
    have z := hs (as.take i) a (by rw [← e]; exact List.take_prefix _ _)
    rw [← e] at z
    exact z) (fun ρ' p => by rw [List.take_length] at p; subst p; exact hd) hp hf
/-- a loop that steps a state by a function -/
theorem s_forF {α β : Type} {gd : α → PyData} {as : List α} (G : Gd X) (hi : EI X tg iter ρ (as.map gd)) (f : β → α → β) (b0 : β) (en : β → Env) (h0 : ρ = en b0)
    (hs : ∀ pre a, (pre ++ [a]) <+: as → ∃ us, GD X tg (gd a) us ∧ SD X body (setDs (en (pre.foldl f b0)) us) { nx := fun ρ' => ρ' = en (f (pre.foldl f b0) a), ct := fun ρ' => ρ' = en (f (pre.foldl f b0) a), bk := E.nx, rt := E.rt }) (hd : E.nx (en (as.foldl f b0)))
    (hp : PassesOwn (model X.prog X.w) X.A X.env X.xe := by exact PassesOwn.never) (hf : ∀ x, foldedSetIterable iter X.env x = pure x := by intro _; rfl) : SD1 X (.For tg iter body [] pos) ρ E :=
  s_forE G hi (fun l => en (l.foldl f b0)) h0 (fun pre a h => by
    obtain ⟨us, h1, h2⟩ := hs pre a h
    refine ⟨us, h1, ?_⟩
    rw [List.foldl_append]
    exact h2) hd hp hf
theorem mem_of_pre {α : Type} {pre as : List α} {a : α} (h : (pre ++ [a]) <+: as) : a ∈ as := by
  obtain ⟨t, e⟩ := h
  rw [← e]; simp
theorem sd_nx {sts : List Stmt} (h : SD X sts ρ E) : SD X sts ρ E := h
/-- the end of a loop's body: what the target left is forgotten -/
theorem sd_end (i : Nat) (h : E.nx (ρ.set i none)) : SD X [] ρ E := sd_forget i (sd_nil h)
theorem ed_c {d2 : PyData} (q : d = d2) (h : ED X e ρ d) : ED X e ρ d2 := ed_cast h q
theorem en_c {ds ds' : List PyData} (q : ds = ds') (h : EN X e ρ ds) : EN X e ρ ds' := q ▸ h
theorem room_le {j k : Nat} (hr : Room k X.A) (h : j ≤ k := by decide) : Room j X.A := hr.mono h
end
end K79

set_option Elab.async false
set_option linter.all false
set_option maxRecDepth 100000
set_option maxHeartbeats 4000000
/-! More rules: isinstance, sum, sorted, list(dict), dict.get -/
namespace K79
open PySem PySem.Spec PyProof.Rows L2

section
variable {X : Cx} {a b c e : Expr} {ρ : Env} {d d1 d2 : PyData} {i j : Int} {x : Str} {pos p p2 : Pos} {ds : List PyData}
/-! ### isinstance -/
def isDict : PyData → Bool
  | .dict _ => true
  | _ => false
theorem ed_isi {T : Str} {Ts : String} {r : Bool} (G : Gd X) (ha : ED X a ρ d) (hd : isDict d = false) (h : kitB (tyD d) Ts = some r) (hT : X.mg T = none) (hv : bootBuiltins T = some (.type Ts)) (hg : Gl X "isinstance" := by rfl) (hgT : Gl X T := by rfl) (hn : T ≠ "__name__" := by decide) (hdb : (T == ("__debug__" : Str)) = false := by decide)
    (he : starEach [a, .Name T p2] X.env = (false, eval a X.env) :: starEach [.Name T p2] X.env := by exact star_of rfl) (he2 : starEach [.Name T p2] X.env = (false, eval (.Name T p2) X.env) :: starEach [] X.env := by exact star_of rfl)
    (hpl : (backTo pos (starEach [.Name T p2] X.env)).any (·.1) = false := by rfl) : ED X (.Call (.Name "isinstance" p) [a, .Name T p2] [] pos) ρ (.bool r) := fun O0 O H σ L rs Q q =>
  we_of (pe_callB call_isi hg G.isi (by decide +kernel) (pa_cons pw_e (pa_cons (pe_bltn (v := .ty Ts) hgT hT hv rfl hn hdb) pa_nil he2) he) (by decide) (by decide) he hpl) (ha O0 O H σ L rs _ fun v H1 e1 r1 => by
    have key : ∃ t, TyX X.K H1 v (.type t) ∧ t = tyD d := by
      cases r1 with
      | non => exact ⟨_, .base .non, rfl⟩
      | bl b => exact ⟨_, .base (.bl b), rfl⟩
      | int i => exact ⟨_, .base (.int i), rfl⟩
      | str y => exact ⟨_, .base (.str y), rfl⟩
      | lst h1 h2 => exact ⟨_, .base (.lst (hide_some h1).2), rfl⟩
      | tup h1 h2 => exact ⟨_, .base (.tup (hide_some h1).2), rfl⟩
      | dic h1 h2 h3 => cases hd
      | dks h1 h2 => cases hd
      | bag h1 h2 h3 => cases hd
    obtain ⟨t, k1, k2⟩ := key
    subst k2
    exact ⟨v, .ty Ts, _, _, r, rfl, .ty Ts, k1, kit_ty h, q _ H1 e1 (.bl r)⟩)
/-! ### sums -/
theorem drA_ints {P : Program} {w : World} {H : Hp} : ∀ {vs : List V} {ns : List Int}, DrA P w H vs (ns.map .int) → vs = ns.map V.int
  | _, [], h => by cases h; rfl
  | _, n :: ns, h => by
    cases h with
    | cons h1 h2 => cases h1; rw [drA_ints h2]; rfl
theorem ed_sumL {ns : List Int} (G : Gd X) (ha : EL X e ρ (ns.map .int)) (hg : Gl X "sum" := by rfl) (he : starEach [e] X.env = (false, eval e X.env) :: starEach [] X.env := by exact star_of rfl) : ED X (.Call (.Name "sum" p) [e] [] pos) ρ (.int ns.sum) := fun O0 O H σ L rs Q q =>
  we_seq1 (T := false) (id := "sum") rfl (cr_sum G.calm) G.sum (by decide +kernel) (ha O0 O H σ L rs _ fun v H1 e1 r1 => by
    cases r1 with
    | lst h1 h2 =>
      have := drA_ints h2
      subst this
      exact ⟨_, ns, rfl, .of h1, q _ H1 e1 (.int _)⟩) hg (by decide) (by decide) he
end
section
variable {prog : Program} {w : World} {A : Around} {E : Value → Shared → Prop} {s : Shared} {l : Addr} {its : List Value} {ns : List Int} {Q : Value → Shared → Prop}
theorem sum_rawT (hh : A.handled = none) (hl : s.heap.IsTuple l its.toArray) (hi : IntsAre its ns)
    (h : ∀ h' tk t', (∀ b o, s.heap.get? b = some o → h'.get? b = some o) → Q (.int ns.sum t') { s with heap := h', toks := tk }) : wpAny (model prog w) A (call (.builtin "sum") [.ref l]) Q E s := by
  obtain ⟨whole, eq⟩ := hi.allInts.items
  have nums : whole.toList.map (·.1) = ns := by rw [← nums_intItems, ← eq, hi.numsOf]
  rw [eq] at hl
  refine PySem.W.ktm_sumG hh hl fun heap tk t' kept => ?_
  have all := h heap tk t' kept
  rw [preSum_eq, List.take_of_length_le (Nat.le_of_eq (by simp)), nums]
  exact all
end
section
variable {X : Cx} {a b c e : Expr} {ρ : Env} {d d1 d2 : PyData} {i j : Int} {x : Str} {pos p p2 : Pos} {ds : List PyData}
theorem cr_sumT (hc : X.calm = true) : CallR X (.builtin "sum") (fun vs H Q => ∃ (a : Addr) (ns : List Int), vs = [V.ref a] ∧ H a = some (.tup (ns.map V.int)) ∧ Q (.int ns.sum) H) := by
  intro pins s σ H vs us Q I r h
  obtain ⟨a, ns, rfl, hs, q⟩ := h
  obtain ⟨its, rv, hl, _⟩ := I.tuple (.of hs)
  rw [Vals.ref1 r]
  exact sum_rawT (I.ok.hd hc) hl rv.ints fun h' tk t' hk => ⟨.int _, H, I.kept hk, ⟨_, rfl⟩, q⟩
theorem ed_sumT {ns : List Int} (G : Gd X) (ha : ED X e ρ (.tuple (ns.map .int))) (hg : Gl X "sum" := by rfl) (he : starEach [e] X.env = (false, eval e X.env) :: starEach [] X.env := by exact star_of rfl) : ED X (.Call (.Name "sum" p) [e] [] pos) ρ (.int ns.sum) := fun O0 O H σ L rs Q q =>
  we_seq1 (T := false) (id := "sum") rfl (cr_sumT G.calm) G.sum (by decide +kernel) (ha O0 O H σ L rs _ fun v H1 e1 r1 => by
    cases r1 with
    | tup h1 h2 =>
      have := drA_ints h2
      subst this
      exact ⟨_, ns, rfl, (hide_some h1).2, q _ H1 e1 (.int _)⟩) hg (by decide) (by decide) he
/-! ### sorted -/
def sortD (ds : List PyData) : List PyData := ds.mergeSort (PySem.W.dataLe false id)
/-- what sorted asks of data -/
structure SortOk (ds : List PyData) : Prop where
  pl : PyData.plainAll ds = true
  al : PySem.W.AllAlike ds
  so : PySem.W.Sortable ds
  ln : ds.length ≤ 1000000
  dp : ∀ d ∈ ds, d.depth ≤ 60
theorem each_of {P : Program} {w : World} {Hd : Hp} : ∀ {vs : List V} {us : List Value} {ds : List PyData}, Vals vs us → DrA P w Hd vs ds → PySem.W.EachIs (fun u d => ∃ v, RelV v u ∧ Dr P w Hd v d) us ds
  | [], _, _, .nil, h => by cases h; exact .nil
  | v :: vs, _, _, .cons r rs, h => by
    cases h with
    | cons h1 h2 => exact .cons ⟨v, r, h1⟩ (each_of rs h2)
theorem of_each {P : Program} {w : World} {Hd : Hp} : ∀ {us : List Value} {ds : List PyData}, PySem.W.EachIs (fun u d => ∃ v, RelV v u ∧ Dr P w Hd v d) us ds → ∃ vs, Vals vs us ∧ DrA P w Hd vs ds
  | [], _, h => by cases h; exact ⟨[], .nil, .nil⟩
  | u :: us, _, h => by
    cases h with
    | cons h1 h2 =>
      obtain ⟨v, r, hd⟩ := h1
      obtain ⟨vs, rs, ha⟩ := of_each h2
      exact ⟨v :: vs, .cons r rs, .cons hd ha⟩
theorem reads_each {pins : List (Addr × Obj)} {σ : L2.St} {H Hd : Hp} {s : Shared} (I : Inv X pins σ H s) (ex : Ex Hd H) : ∀ {us : List Value} {ds : List PyData}, PySem.W.EachIs (fun u d => ∃ v, RelV v u ∧ Dr X.prog X.w Hd v d) us ds → PyData.plainAll ds = true →
    PySem.W.EachIs (fun v b => ∃ as, Reads s.heap v (id b) as) us ds
  | [], _, h, _ => by cases h; exact .nil
  | u :: us, _, h, hp => by
    cases h with
    | cons h1 h2 =>
      obtain ⟨v, r, hd⟩ := h1
      simp only [PyData.plainAll, Bool.and_eq_true] at hp
      exact .cons (Dp.reads I _ v u ((hd.mono ex).dp hp.1) r) (reads_each I ex h2 hp.2)
theorem cr_sortD (G : Gd X) : CallR X (.builtin "sorted") (fun vs H Q => ∃ (a : Addr) (xs : List V) (Hd : Hp) (ds : List PyData), vs = [V.ref a] ∧ H a = some (.lst xs) ∧ DrA X.prog X.w Hd xs ds ∧ Ex Hd H ∧ SortOk ds ∧
    ∀ q ys, H q = none → DrA X.prog X.w Hd ys (sortD ds) → Q (.ref q) (upd H q (.lst ys))) := by
  intro pins s σ H vs us Q I r h
  obtain ⟨a, xs, Hd, ds, rfl, hs, hd, ex, ok, q⟩ := h
  obtain ⟨its, rv, hl, hz⟩ := I.list (.of hs)
  rw [Vals.ref1 r]
  have e := each_of rv hd
  have hu := G.hu
  refine PySem.W.sorted_data (enc := id) hl.isList e (reads_each I ex e ok.pl) (by rw [List.map_id]; exact ok.al) (by rw [List.map_id]; exact ok.so) (by rw [sizeLine_eq]; have := ok.ln; omega) (fun d hd => by have := ok.dp d hd; show X.A.units + 2 + d.depth < cLine; omega) fun out ho eo => ?_
  obtain ⟨ys, ry, dy⟩ := of_each eo
  obtain ⟨c, hc⟩ := sortedAll_at s.heap its out.toArray
  have hzy : ys.length ≤ sizeLine := by
    rw [dy.length, List.length_mergeSort, sizeLine_eq]; have := ok.ln; omega
  exact ⟨.ref (s.heap.objs.size + 1), _, I.laid (t' := s.toks) (o := .lst ys) (fun b u e => sortedAll_old e) (Nat.le_succ _) ⟨hzy, out, c, ry, hc⟩, rfl, q _ ys (I.hok.fresh (Nat.le_succ _)) dy⟩
theorem en_sort (G : Gd X) (ha : EL X e ρ ds) (ok : SortOk ds) (hg : Gl X "sorted" := by rfl) (he : starEach [e] X.env = (false, eval e X.env) :: starEach [] X.env := by exact star_of rfl) : EN X (.Call (.Name "sorted" p) [e] [] pos) ρ (sortD ds) := fun O0 O H σ L rs Q q =>
  we_seq1 (T := false) (id := "sorted") rfl (cr_sortD G) G.sorted (by decide +kernel) (ha O0 O H σ L rs _ fun v H1 e1 r1 => by
    cases r1 with
    | lst h1 h2 => exact ⟨_, _, hide O H1, ds, rfl, h1, h2, hide_sub, ok, fun n ys hn hy => q n ys _ (e1.back hn) (e1.trans (.new hn)) upd_same (drA_new hn hy)⟩) hg (by decide) (by decide) he
/-! ### the keys of a dict -/
theorem DrK.keysA {P : Program} {w : World} {Hd : Hp} : ∀ {xs : List Ent} {t : Tab}, DrK P w Hd xs t → DrA P w Hd (xs.map fun x => V.ref x.2.1) (t.map fun p => p.1.data)
  | [], _, h => by cases h; exact .nil
  | _ :: _, _, h => by
    cases h with
    | cons h1 h2 h3 h4 h5 => exact .cons h1 h5.keysA
theorem entry_keys {P : Program} {w : World} {Hd : Hp} {es : Array DictEntry} {xs : List Ent} {t : Tab} {acc : Array Value} (he : es.toList = xs.map (entryOfKey (nestedKind P w))) (r : DrK P w Hd xs t)
    (it : ItemsOf (fun i v => ∃ en : DictEntry, es[i]? = some en ∧ v = en.key) acc es.size) : ∃ vs, Vals vs acc.toList ∧ DrA P w Hd vs (t.map fun p => p.1.data) := by
  have same : es.size = xs.length := size_of_entries he
  have ea : acc.toList = xs.map fun x => Value.ref x.2.1 := by
    refine List.ext_getElem (by rw [Array.length_toList, it.1, same, List.length_map]) fun j lt1 lt2 => ?_
    have lt : j < xs.length := by simpa using lt2
    obtain ⟨entry, isE, isV⟩ := it.2 j acc.toList[j] (by rw [Array.getElem_toList, Array.getElem?_eq_getElem])
    have both := entry_at he j
    rw [isE, List.getElem?_eq_getElem lt] at both
    have eqE : entry = entryOfKey (nestedKind P w) xs[j] := Option.some.inj both
    rw [isV, eqE, List.getElem_map]
    rfl
  refine ⟨xs.map fun x => V.ref x.2.1, ?_, r.keysA⟩
  rw [ea]
  clear ea it same r he
  induction xs with
  | nil => exact .nil
  | cons y ys ih => exact .cons rfl ih
theorem cr_listN (hc : X.calm = true) : CallR X (.type "list") (fun vs H Q => ∃ (a : Addr) (o : Obj) (xs : List Ent) (Hd : Hp) (t : Tab), vs = [V.ref a] ∧ H a = some (dob a o) ∧ NObj X.prog X.w a o xs ∧ DrK X.prog X.w Hd xs t ∧
    ∀ q ys, H q = none → DrA X.prog X.w Hd ys (t.map fun p => p.1.data) → Q (.ref q) (upd H q (.lst ys))) := by
  intro pins s σ H vs us Q I r h
  obtain ⟨a, o, xs, Hd, t, rfl, ha, N, hd, q⟩ := h
  rw [Vals.ref1 r]
  have ho := dob_get I ha
  obtain ⟨es, ep, hdt, he⟩ := N.dat
  have l1 : es.size = xs.length := size_of_entries he
  refine PySem.W.kdl_call (kdl_raw N.low N.ex hdt) (I.ok.hd hc) ho (by have := N.le; omega) fun h' tk acc' c' kp e it => ?_
  obtain ⟨ys, ry, dy⟩ := entry_keys he hd it
  have hz : ys.length ≤ sizeLine := by rw [dy.length, List.length_map, ← hd.length]; exact N.le
  exact ⟨.ref s.heap.objs.size, _, I.laid (t' := tk) (o := .lst ys) kp (Nat.le_refl _) ⟨hz, acc'.toList, c', ry, by rw [Array.toArray_toList]; exact e⟩, rfl, q _ ys (I.hok.fresh (Nat.le_refl _)) dy⟩
/-- list(d) -/
theorem en_listN {t : Tab} (G : Gd X) (ha : EK X e ρ t) (hg : Gl X "list" := by rfl) (he : starEach [e] X.env = (false, eval e X.env) :: starEach [] X.env := by exact star_of rfl) : EN X (.Call (.Name "list" p) [e] [] pos) ρ (t.map fun p => p.1.data) := fun O0 O H σ L rs Q q =>
  we_seq1 (T := true) (id := "list") rfl (cr_listN G.calm) G.list (by decide +kernel) (ha O0 O H σ L rs _ fun v H1 e1 r1 => by
    cases r1 with
    | dic h1 h2 h3 => exact ⟨_, _, _, hide O H1, t, rfl, h1, h2, h3, fun n ys hn hy => q n ys _ (e1.back hn) (e1.trans (.new hn)) upd_same (drA_new hn hy)⟩) hg (by decide) (by decide) he
end
end K79

set_option Elab.async false
set_option linter.all false
set_option maxRecDepth 100000
set_option maxHeartbeats 4000000
/-! More rules: dicts with text keys, sorted(dict), repeated tuples, dict.get, pop(0), index -/
namespace K79
open PySem PySem.Spec PyProof.Rows L2

/-! ### dicts with text keys -/
section
variable {P : Program} {w : World} {H : Hp}
theorem valV_cons {κ : Type} [DecidableEq κ] {p : κ × V} {ks : List (κ × V)} {k : κ} : valV (p :: ks) k = if p.1 = k then some p.2 else valV ks k := by
  unfold valV
  rw [List.find?_cons]
  by_cases h : p.1 = k
  · rw [if_pos h]; simp [h]
  · rw [if_neg h]; simp [h]
theorem DrS.get {x : Str} : ∀ {ks : List (Key × V)} {t : STab}, DrS P w H ks t → ∀ d, tget t x = some d → ∃ v, valV ks (Sum.inr x) = some v ∧ Dr P w H v d
  | _, _, .nil, d, e => by rw [tget_nil] at e; cases e
  | _, _, @DrS.cons _ _ _ y v d' ks t h1 h2, d, e => by
    rw [tget_cons] at e
    rw [valV_cons]
    by_cases z : y = x
    · rw [if_pos z] at e; cases e
      exact ⟨v, if_pos (congrArg Sum.inr z), h1⟩
    · rw [if_neg z] at e
      obtain ⟨v', k1, k2⟩ := h2.get d e
      exact ⟨v', by rw [if_neg (fun q => z (Sum.inr.inj q))]; exact k1, k2⟩
theorem DrS.some_iff {x : Str} : ∀ {ks : List (Key × V)} {t : STab}, DrS P w H ks t → (valV ks (Sum.inr x)).isSome = (tget t x).isSome
  | _, _, .nil => rfl
  | _, _, @DrS.cons _ _ _ y v d' ks t h1 h2 => by
    rw [tget_cons, valV_cons]
    by_cases z : y = x
    · rw [if_pos z, if_pos (congrArg Sum.inr z)]; rfl
    · rw [if_neg z, if_neg (fun q => z (Sum.inr.inj q))]
      exact h2.some_iff
theorem DrS.length : ∀ {ks : List (Key × V)} {t : STab}, DrS P w H ks t → ks.length = t.length
  | _, _, .nil => rfl
  | _, _, .cons _ h2 => congrArg Nat.succ h2.length
theorem DrS.snoc {x : Str} {v : V} {d : PyData} (hv : Dr P w H v d) : ∀ {ks : List (Key × V)} {t : STab}, DrS P w H ks t → DrS P w H (ks ++ [(Sum.inr x, v)]) (t ++ [(x, d)])
  | _, _, .nil => .cons hv .nil
  | _, _, .cons h1 h2 => .cons h1 (h2.snoc hv)
theorem DrS.repl {x : Str} {v : V} {d : PyData} (hv : Dr P w H v d) : ∀ {ks : List (Key × V)} {t : STab}, DrS P w H ks t → DrS P w H (ks.map fun kv => if kv.1 = (Sum.inr x : Key) then (kv.1, v) else kv) (t.map fun p => if p.1 = x then (p.1, d) else p)
  | _, _, .nil => .nil
  | _, _, @DrS.cons _ _ _ y v' d' ks t h1 h2 => by
    rw [List.map_cons, List.map_cons]
    by_cases z : y = x
    · subst z
      rw [if_pos rfl, if_pos rfl]
      exact .cons hv (h2.repl hv)
    · rw [if_neg (fun q => z (Sum.inr.inj q)), if_neg z]
      exact .cons h1 (h2.repl hv)
end

theorem DrS.put {P : Program} {w : World} {H : Hp} {x : Str} {v : V} {d : PyData} (hv : Dr P w H v d) {ks : List (Key × V)} {t : STab} (r : DrS P w H ks t) : DrS P w H (putK ks (Sum.inr x) v) (tput t x d) := by
  unfold putK tput
  rw [valV_any, r.some_iff]
  by_cases h : (tget t x).isSome = true
  · rw [if_pos h, if_pos h]; exact r.repl hv
  · rw [if_neg h, if_neg h]; exact r.snoc hv
inductive DsR (P : Program) (w : World) (Hd H : Hp) : V → STab → Prop
  | dks {p : Addr} {ks : List (Key × V)} {t : STab} : H p = some (.dK ks) → DrS P w Hd ks t → DsR P w Hd H (.ref p) t
/-- a dict with text keys, read -/
def EKS (X : Cx) (e : Expr) (ρ : Env) (t : STab) : Prop := ∀ (O0 O : Own) (H : Hp) (σ : L2.St), Live O H → RS X.prog X.w O0 O H σ ρ → ∀ Q : VK, (∀ v H', Ex H H' → DsR X.prog X.w (hide O H') H' v t → Q v H') → WE X e σ H Q
/-- a new dict with text keys -/
def EMS (X : Cx) (e : Expr) (ρ : Env) (t : STab) : Prop := ∀ (O0 O : Own) (H : Hp) (σ : L2.St), Live O H → RS X.prog X.w O0 O H σ ρ → ∀ Q : VK, (∀ p ks H', H p = none → Ex H H' → H' p = some (.dK ks) → DrS X.prog X.w (hide (add O p) H') ks t → Q (.ref p) H') → WE X e σ H Q
section
variable {X : Cx} {a b c e : Expr} {ρ : Env} {d d1 d2 : PyData} {i j : Int} {x : Str} {pos p p2 : Pos} {ds : List PyData} {t : STab} {E : Eds}
theorem eks_own (i : Nat) (h : ρ[i]? = some (some (.dks t))) (hN : X.N[i]? = some x := by rfl) (hv : Vis X.env.scope x := by first | exact Or.inl rfl | exact Or.inr (Or.inl rfl) | exact Or.inr (Or.inr rfl)) (hd : (x == ("__debug__" : Str)) = false := by decide)
    (hcd : (x == ("__classdict__" : Str)) = false := by decide) : EKS X (.Name x pos) ρ t := fun O0 O H σ L rs Q q => by
  obtain ⟨v, h1, h2⟩ := rs.at_ _ _ h
  cases h2 with
  | dks h3 h4 h5 h6 => exact we_of (pe_var hN hv hd hcd) ⟨_, h1, q _ H .rfl' (.dks h5 h6)⟩
theorem eks_ed (h : ED X e ρ (stabD t)) : EKS X e ρ t := fun O0 O H σ L rs Q q => h O0 O H σ L rs Q fun v H' ex h' => by
  obtain ⟨a, ks, rfl, h1, h2⟩ := h'.stab
  exact q _ H' ex (.dks (hide_some h1).2 h2)
theorem ems_empty : EMS X (.Dict [] [] pos) ρ [] := fun O0 O H σ L rs Q q => we_of pe_dnewK fun p np => q p [] _ np (.new np) upd_same .nil
theorem ems_disp {y : Str} (ha : ED X a ρ (.str y)) (hb : ED X b ρ d) : EMS X (.Dict [some a] [b] pos) ρ [(y, d)] := fun O0 O H σ L rs Q q =>
  we_of (pe_disp (pps_cons pw_e pw_e pps_nil) rfl rfl (by simp) (by simp)) fun p np => by
    have L1 : Live (add O p) (upd H p (.dK [])) := fun c h => by
      by_cases z : c = p
      · subst z; exact ⟨_, upd_same⟩
      · rw [add_other z] at h
        obtain ⟨o, g⟩ := L c h
        exact ⟨o, by rw [upd_ne z]; exact g⟩
    have rs1 : RS X.prog X.w O0 (add O p) (upd H p (.dK [])) σ ρ := rs.grow (.new np) (hide_new (.new np) np) fun c h => by simp [add, h]
    refine ha O0 (add O p) _ σ L1 rs1 _ fun v H1 e1 h1 => hb O0 (add O p) H1 σ (L1.ex e1) (rs1.ex e1) _ fun z H2 e2 h2 => ?_
    cases h1
    have e12 : Ex H H2 := (Ex.new np).trans (e1.trans e2)
    refine ⟨e2 _ _ (e1 _ _ upd_same), [(Sum.inr y, z)], rfl, by simp, q p _ _ np (e12.mut' np) upd_same ?_⟩
    rw [hide_upd add_self]
    exact .cons h2 .nil
theorem ev_s (h : EMS X e ρ t) : EV X e ρ (.dks t) := fun O0 O H σ L rs Q q => h O0 O H σ L rs Q fun p ks H' np ex hp hd => q _ H' _ ex (.dks np hp hd)
theorem ed_getS {y : Str} (G : Gd X) (ha : EKS X a ρ t) (hb : ED X b ρ (.str y)) (h : tget t y = some d) (hs : NoSl b := by exact fun _ _ => rfl) : ED X (.Subscript a b pos) ρ d := fun O0 O H σ L rs Q q =>
  we_of (pe_dget (by have := G.hu; omega) pw_e pw_e hs) (ha O0 O H σ L rs _ fun v H1 e1 r1 => hb O0 O H1 σ (L.ex e1) (rs.ex e1) _ fun u H2 e2 r2 => by
    cases r2
    cases r1 with
    | dks h1 h2 =>
      obtain ⟨z, k1, k2⟩ := h2.get d h
      refine ⟨_, z, rfl, ?_, q z H2 (e1.trans e2) (k2.mono (hide_ex e2))⟩
      have := DGet.k (k := Sum.inr y) (e2 _ _ h1)
      rw [k1] at this
      exact this)
theorem ed_inS {y : Str} (G : Gd X) (ha : ED X a ρ (.str y)) (hb : EKS X b ρ t) (hm : behindInMarks .In b = false := by with_unfolding_all rfl) : ED X (.Compare a [.In] [b] pos) ρ (.bool (tget t y).isSome) := fun O0 O H σ L rs Q q =>
  we_of (pe_cmp (pc_din (by have := G.hu; omega) pw_e pw_e) hm) (ha O0 O H σ L rs _ fun u H1 e1 r1 => hb O0 O H1 σ (L.ex e1) (rs.ex e1) _ fun v H2 e2 r2 => by
    cases r1
    cases r2 with
    | dks h1 h2 =>
      refine ⟨_, _, rfl, DGet.k (k := Sum.inr y) h1, ?_⟩
      rw [h2.some_iff]
      exact q _ H2 (e1.trans e2) (.bl _))
theorem ed_notInS {y : Str} (G : Gd X) (ha : ED X a ρ (.str y)) (hb : EKS X b ρ t) (hm : behindInMarks .NotIn b = false := by with_unfolding_all rfl) : ED X (.Compare a [.NotIn] [b] pos) ρ (.bool (!(tget t y).isSome)) := fun O0 O H σ L rs Q q =>
  we_of (pe_cmp (pc_dnotin (by have := G.hu; omega) pw_e pw_e) hm) (ha O0 O H σ L rs _ fun u H1 e1 r1 => hb O0 O H1 σ (L.ex e1) (rs.ex e1) _ fun v H2 e2 r2 => by
    cases r1
    cases r2 with
    | dks h1 h2 =>
      refine ⟨_, _, rfl, DGet.k (k := Sum.inr y) h1, ?_⟩
      rw [h2.some_iff]
      exact q _ H2 (e1.trans e2) (.bl _))
theorem set_s {o : Expr} (G : Gd X) : PSet X (fun ov iv v H Q => ∃ p ks y, ov = .ref p ∧ iv = .str y ∧ H p = some (.dK ks) ∧ ks.length < sizeLine ∧ Q (upd H p (.dK (putK ks (Sum.inr y) v)))) := by
  intro pins s σ H ov iv v ou iu u Q I r1 r2 r3 h
  obtain ⟨p, ks, y, rfl, rfl, h1, h2, q⟩ := h
  cases r1
  exact d_setItem (by have := G.hu; omega) I (DPut.k (k := Sum.inr y) h1 h2) r2 r3 fun s' I' => ⟨_, I', q⟩
theorem gt_subS {ke : Expr} {y : Str} (i : Nat) (G : Gd X) (hi : ρ[i]? = some (some (.dks t))) (hk : ED X ke ρ (.str y)) (hl : t.length < 1000000) (hN : X.N[i]? = some x := by rfl) (hv : Vis X.env.scope x := by first | exact Or.inl rfl | exact Or.inr (Or.inl rfl) | exact Or.inr (Or.inr rfl))
    (hd : (x == ("__debug__" : Str)) = false := by decide) (hcd : (x == ("__classdict__" : Str)) = false := by decide)
    (ha : ∀ v, assign (.Subscript (.Name x p2) ke pos) X.env v = (do
      let ov ← holding [v] (eval (.Name x p2) X.env)
      let iv ← holding [v, ov] (eval ke X.env)
      standAt pos
      holding [v, ov, iv] (setItem ov iv v)
      release [v, ov, iv] []) := by intro _; rfl) : GT X (.Subscript (.Name x p2) ke pos) d ρ (ρ.set i (some (.dks (tput t y d)))) := fun H0 O0 B O H σ v kb r hv' Q q => by
  obtain ⟨u, h1, h2⟩ := r.at_ _ _ hi
  cases h2 with
  | @dks p ks _ a b c f =>
    refine wg_of (pg_sub (pe_var hN hv hd hcd) pw_e (set_s (o := ke) G) ha) ⟨_, h1, hk O0 O H σ kb.live r _ fun y H1 e1 hy => ?_⟩
    cases hy
    have hl2 := f.length
    refine ⟨p, ks, _, rfl, rfl, e1 _ _ c, by rw [sizeLine_eq]; omega, ?_⟩
    have eh : ∀ o', hide O (upd H1 p o') = hide O H1 := fun o' => hide_upd a
    refine q σ _ ((kb.ex e1).mut a b) ((r.ex e1).mut hi rfl h1 a (.dks a b upd_same ?_) rfl) (by rw [eh]; exact hide_ex e1)
    rw [eh]
    exact (f.mono (hide_ex e1)).put (hv'.mono (hide_ex e1))
end
end K79

set_option Elab.async false
set_option linter.all false
set_option maxRecDepth 100000
set_option maxHeartbeats 4000000
/-! tuple * int, all counts -/
namespace K79
open PySem PySem.Spec PyProof.Rows L2
theorem tuple_mul0 (l : Addr) (items : Array Value) (n : Nat) (dd : Option Addr) (sl : Array (Option Value)) (u : Tok) (c1 : (items.isEmpty || (0 : Int) == 1) = false) :
    Meets (Builtin.«tuple.__mul__» ⟨[.ref l, .int 0 u], []⟩) (fun _ R s => s.heap.get? l = some { cls := .type "tuple", dict := dd, data := .seq items n, slots := sl } ∧
      R (.ok (.ret (Value.ref s.heap.objs.size))) { s with heap := s.heap.push { cls := Value.type "tuple", data := Data.seq #[] }, toks := s.toks }) :=
  .of_wp fun prog w A R s h => by
    obtain ⟨hp, g, d, tk, os⟩ := s
    obtain ⟨hl, h⟩ := h
    have f1 := AutoSeq1.idx_int
    wp_walk using wpAny_loadPart' hl
    repeat (first
      | (refine wpAny_ite_false (decide_eq_false (by decide)) ?_; wp_walk using wpAny_loadPart' hl)
      | (refine wpAny_ite_false (decide_eq_false fun z => by rw [c1] at z; cases z) ?_; wp_walk using wpAny_loadPart' hl)
      | (refine wpAny_ite_true (decide_eq_true (by simp)) ?_; wp_walk using wpAny_loadPart' hl))
    exact ⟨_, rfl, h⟩
theorem tuple_mul1 (l : Addr) (items : Array Value) (n : Nat) (dd : Option Addr) (sl : Array (Option Value)) (u : Tok) :
    Meets (Builtin.«tuple.__mul__» ⟨[.ref l, .int 1 u], []⟩) (fun _ R s => s.heap.get? l = some { cls := .type "tuple", dict := dd, data := .seq items n, slots := sl } ∧
      R (.ok (.ret (Value.ref l))) s) :=
  .of_wp fun prog w A R s h => by
    obtain ⟨hp, g, d, tk, os⟩ := s
    obtain ⟨hl, h⟩ := h
    have f1 := AutoSeq1.idx_int
    wp_walk using wpAny_loadPart' hl
    repeat (first
      | (refine wpAny_ite_false (decide_eq_false (by decide)) ?_; wp_walk using wpAny_loadPart' hl)
      | (refine wpAny_ite_true (decide_eq_true (by simp)) ?_; wp_walk using wpAny_loadPart' hl))
    exact ⟨_, rfl, h⟩
section
variable {X : Cx}
def rRep (K : PySem.W.Frag) : R2 := fun x y H Q => ∃ l k xs, x = .ref l ∧ y = .int k ∧ SqT K H l xs ∧ xs ≠ [] ∧ 0 ≤ k ∧ k ≤ 100000 ∧ xs.length ≤ 10 ∧ (k = 1 → Q (.ref l) H) ∧ (k ≠ 1 → ∀ p, H p = none → Q (.ref p) (upd H p (.tup (List.replicate k.toNat xs).flatten)))
/-- the tests that tuple.__mul__ makes, for a count from 2 on -/
structure RepFlags (cells : List Value) (k : Int) : Prop where
  fit : (decide (k < -(2 ^ 63)) || decide (k ≥ 2 ^ 63)) = false
  one : (cells.toArray.isEmpty || k == 1) = false
  pos : (decide (k ≤ 0) || cells.toArray.isEmpty) = false
  most : ((cells.toArray.size : Nat) : Int) * k ≤ 1000000
  room : Builtin.Tuple.tupleTooMany (((cells.toArray.size : Nat) : Int) * k) = false
theorem rep_size {α : Type} {cells : List α} {k : Int} (hi : k ≤ 100000) (few : cells.length ≤ 10) : (List.replicate k.toNat cells).flatten.length ≤ 1000000 := by
  rw [PyProof.Rows.lm_len_rep_flat]
  exact Nat.le_trans (Nat.mul_le_mul (show k.toNat ≤ 100000 by omega) few) (by decide)
theorem full_of {α : Type} {cells : List α} (full : cells ≠ []) : cells.toArray.isEmpty = false := by
  cases cells with
  | nil => exact (full rfl).elim
  | cons c r => rfl
theorem rep_flags {cells : List Value} {k : Int} (full : cells ≠ []) (lo : 2 ≤ k) (hi : k ≤ 100000) (few : cells.length ≤ 10) : RepFlags cells k where
  fit := by simp; omega
  one := by rw [full_of full]; simp; omega
  pos := by rw [full_of full]; simp; omega
  most := by
    have tenth : (cells.length : Int) * k ≤ 10 * k := Int.mul_le_mul_of_nonneg_right (by omega) (by omega)
    rw [List.size_toArray]
    omega
  room := by
    have tenth : (cells.length : Int) * k ≤ 10 * k := Int.mul_le_mul_of_nonneg_right (by omega) (by omega)
    refine decide_eq_false ?_
    rw [sizeLine_eq, List.size_toArray]
    omega
theorem op_rep : OpR X (binaryOp .Mult) (rRep X.K) := fun pins s σ H x y v u Q I rx ry asked => by
  obtain ⟨l, k, xs, ex, ey, tup, full, lo, hi, few, once, else_⟩ := asked
  subst ex ey
  cases rx
  obtain ⟨t, rfl⟩ := ry
  obtain ⟨cells, rel, ⟨⟨c, dd, dat, sl⟩, here, isT, n, isS⟩, _⟩ := I.tuple tup
  cases isT
  cases isS
  have len : xs.length = cells.length := rel.length
  have fullC : cells ≠ [] := fun e => full (List.eq_nil_of_length_eq_zero (by rw [len, e]; rfl))
  have typed : s.TypeIs (.ref l) "tuple" := ⟨_, here, rfl⟩
  refine wpAny_binaryOp_repeat_ref (T := "tuple") (U := "int") (by decide) typed (fun s' => typeIs_int s' k t) noFill_tuple_mul F.fills_int_mul F.slot_int_rmul repeat_tuple F.slot_int_index.lookup ?_
  refine call_meets F.slot_int_rmul (typeIs_int s k t) F.entry_int_rmul (F.args_int_rmul_2 _ _) (int_rmul_tuple k t l cells.toArray n dd sl) ⟨here, rfl, typed, ?_⟩
  have laid : ∀ (its : List Value), Vals (List.replicate k.toNat xs).flatten its → k ≠ 1 → EP X pins σ Q (.ref s.heap.objs.size) { s with heap := s.heap.push { cls := .type "tuple", data := .seq its.toArray } } := fun its rv e =>
    ⟨.ref s.heap.objs.size, _, I.laid (t' := s.toks) (o := .tup (List.replicate k.toNat xs).flatten) (fun b ob q => Heap.get?_push_of_some _ q) (Nat.le_refl _) ⟨by rw [sizeLine_eq]; have := rep_size hi few; omega, its, rv, IsTup.new _ _⟩, rfl, else_ e _ (I.hok.fresh (Nat.le_refl _))⟩
  have : k = 1 ∨ k = 0 ∨ 2 ≤ k := by omega
  rcases this with e | e | e
  · subst e
    exact call_meets F.slot_tuple_mul typed F.entry_tuple_mul (F.args_tuple_mul_2 _ _) (tuple_mul1 l cells.toArray n dd sl t) ⟨here, .ref l, H, I, rfl, once rfl⟩
  · subst e
    exact call_meets F.slot_tuple_mul typed F.entry_tuple_mul (F.args_tuple_mul_2 _ _) (tuple_mul0 l cells.toArray n dd sl t (by rw [full_of fullC]; rfl)) ⟨here, laid [] .nil (by decide)⟩
  · have fl := rep_flags fullC e hi (by omega)
    have small : (List.replicate k.toNat cells).flatten.length ≤ sizeLine := by
      rw [sizeLine_eq]
      have := rep_size (cells := cells) hi (by omega)
      omega
    refine call_meets F.slot_tuple_mul typed F.entry_tuple_mul (F.args_tuple_mul_2 _ _) (tuple_mulW l cells.toArray n dd sl k t fl.fit fl.one fl.pos (by have := fl.most; omega) fl.room (by rw [size_rep, List.size_toArray]; exact small)) ⟨here, ?_⟩
    rw [size_rep]
    exact laid _ (rel.rep k.toNat) (by omega)
variable {a b e : Expr} {ρ : Env} {pos p p2 : Pos} {ds : List PyData} {d : PyData}
theorem ed_rep {k : Nat} (ha : ED X a ρ (.tuple ds)) (hb : ED X b ρ (.int k)) (h0 : ds ≠ []) (hk : k ≤ 100000) (hz : ds.length ≤ 10) : ED X (.BinOp a .Mult b pos) ρ (.tuple (List.replicate k ds).flatten) :=
  ed_bin (pe_op op_rep pw_e pw_e) ha hb fun O H x y Q L r1 r2 q => by
    cases r2
    cases r1 with
    | @tup p xs _ h1 h2 =>
      have hl := h2.length
      refine ⟨p, k, xs, rfl, rfl, .of (hide_some h1).2, fun e => h0 (by rw [e] at hl; exact List.eq_nil_of_length_eq_zero hl.symm), by omega, by omega, by omega, fun e => ?_, fun e n hn => ?_⟩
      · have : k = 1 := by omega
        subst this
        refine q _ H .rfl' (.tup h1 ?_)
        simpa using h2
      · refine q _ _ (.new hn) (.tup (by rw [hide_at (L.no hn)]; exact upd_same) ?_)
        rw [Int.toNat_natCast]
        exact (h2.mono (hide_ex (.new hn))).flatRep k
/-! ### sorted(dict) -/
theorem cr_sortN (G : Gd X) : CallR X (.builtin "sorted") (fun vs H Q => ∃ (a : Addr) (o : Obj) (xs : List Ent) (Hd : Hp) (t : Tab), vs = [V.ref a] ∧ H a = some (dob a o) ∧ NObj X.prog X.w a o xs ∧ DrK X.prog X.w Hd xs t ∧ Ex Hd H ∧ SortOk (t.map fun p => p.1.data) ∧
    ∀ q ys, H q = none → DrA X.prog X.w Hd ys (sortD (t.map fun p => p.1.data)) → Q (.ref q) (upd H q (.lst ys))) := fun pins s σ H vs us Q I r asked => by
  obtain ⟨a, o, xs, Hd, t, rfl, ha, N, keysOf, ex, ok, wish⟩ := asked
  rw [Vals.ref1 r]
  obtain ⟨es, ep, hdt, he⟩ := N.dat
  have few : es.size ≤ sizeLine := by rw [size_of_entries he]; exact N.le
  have short := ok.ln
  rw [List.length_map] at short
  have room := G.hu
  refine Calls.call_function_entry PyProof.Rows.kind_sorted PyProof.Rows.plain_sorted PyProof.Rows.entry_sorted
    (PyProof.Rows.args_sorted1 _) ?_
  unfold Builtin.«sorted»
  refine wpAny_bind (m := checkCount "sorted" 1 1 _) (wpAny_pure (wpAny_bind ?_))
  refine PySem.W.kdu_collect (A := X.A.in1) (kdl_raw N.low N.ex hdt) (I.ok.hd G.calm) (dob_get I ha) few fun heap1 tk got keep1 gotIs => ?_
  obtain ⟨ks, rk, dk⟩ := entry_keys he keysOf gotIs
  have lenGot : got.toList.length = t.length := by rw [← rk.length, dk.length, List.length_map]
  have fits : got.toList.length ≤ sizeLine := by rw [lenGot, sizeLine_eq]; omega
  refine wpAny_bind (wpAny_newList ?_ fits)
  let made : Obj := seqObj "list" got.toList.toArray 0
  let heap2 : Heap := heap1.push made
  let heap3 : Heap := PySem.W.sortingHeap heap2 heap1.objs.size got.toList
  have at2 : heap2.get? heap1.objs.size = some made := Heap.get?_push_size _ rfl
  have old2 : ∀ b u, heap1.get? b = some u → heap2.get? b = some u := fun b u e => Heap.get?_push_of_some _ e
  have I1 : Inv X pins σ H ⟨heap1, s.gens, s.drawn, tk, s.os⟩ := I.kept (t' := tk) keep1
  have I3 : Inv X pins σ H ⟨heap3, s.gens, s.drawn, tk, s.os⟩ := I1.kept (t' := tk) fun b u e => PySem.W.sortingHeap_old (Nat.ne_of_lt (Heap.lt_size e)) (old2 b u e)
  have each := each_of rk dk
  have read := reads_each I3 ex each ok.pl
  have out := PySem.W.sortVals_data (enc := id) (R := fun u d => ∃ v, RelV v u ∧ Dr X.prog X.w Hd v d) false each read (by rw [List.map_id]; exact ok.al)
  rw [List.map_id] at out
  obtain ⟨ys, ry, dy⟩ := of_each out
  have fitsY : ys.length ≤ sizeLine := by rw [dy.length, List.length_mergeSort, List.length_map, sizeLine_eq]; omega
  have sorts := PySem.W.SortsAt.data (prog := X.prog) (w := X.w) (A := X.A.in1.in1) read ok.al ok.so (fun d hd => by have := ok.dp d hd; show X.A.units + 2 + d.depth < cLine; omega)
  refine wpAny_bind (wpAny_holding ?_)
  refine wpAny_call_entry PyProof.Rows.slot_list_sort ⟨made, at2, rfl⟩ PyProof.Rows.entry_list_sort ?_ (PyProof.Rows.args_list_sort _)
  refine PySem.W.list_sort_vals (s := ⟨heap2, s.gens, s.drawn, tk, s.os⟩) at2 sorts fits ⟨_, rfl, ?_⟩
  obtain ⟨e', at4⟩ := PyProof.Rows.sortedHeap_at (vs := got.toList) (out := (PySem.W.sortVals (PySem.W.dataKind heap3 (t.map fun p => p.1.data)) false got.toList got.toList).toArray) at2
  refine wpAny_pure ⟨_, rfl, .ref heap1.objs.size, upd H heap1.objs.size (.lst ys), I1.laid (t' := tk) (fun b u e => ?_) (Nat.le_refl _) ⟨fitsY, _, e', ry, at4⟩, rfl, wish _ ys (I1.hok.fresh (Nat.le_refl _)) dy⟩
  have hb := Heap.lt_size e
  rw [PyProof.Rows.sortedHeap_old (Nat.ne_of_lt hb) (Nat.lt_trans hb (by rw [size_push']; exact Nat.lt_succ_self _))]
  exact old2 b u e
theorem en_sortN {t : Tab} (G : Gd X) (ha : EK X e ρ t) (ok : SortOk (t.map fun p => p.1.data)) (hg : Gl X "sorted" := by rfl) (he : starEach [e] X.env = (false, eval e X.env) :: starEach [] X.env := by exact star_of rfl) : EN X (.Call (.Name "sorted" p) [e] [] pos) ρ (sortD (t.map fun p => p.1.data)) := fun O0 O H σ L rs Q q =>
  we_seq1 (T := false) (id := "sorted") rfl (cr_sortN G) G.sorted (by decide +kernel) (ha O0 O H σ L rs _ fun v H1 e1 r1 => by
    cases r1 with
    | dic h1 h2 h3 => exact ⟨_, _, _, hide O H1, t, rfl, h1, h2, h3, hide_sub, ok, fun n ys hn hy => q n ys _ (e1.back hn) (e1.trans (.new hn)) upd_same (drA_new hn hy)⟩) hg (by decide) (by decide) he
end
end K79

set_option Elab.async false
set_option linter.all false
set_option maxRecDepth 100000
set_option maxHeartbeats 4000000
/-! More rules: dict.get, a sign in a text, pop(0), index -/
namespace K79
open PySem PySem.Spec PyProof.Rows L2
section
variable {X : Cx} {a b c e : Expr} {ρ : Env} {d d1 d2 : PyData} {i j : Int} {x : Str} {pos p p2 : Pos} {ds : List PyData} {E : Eds}
/-! ### d.get(k, x) -/
theorem n_getD {pins : List (Addr × Obj)} {σ : L2.St} {H Hd : Hp} {s : Shared} {a b : Addr} {o : Obj} {xs : List Ent} {t : Tab} {k : NestedKey} {A : Around} {E : Value → Shared → Prop} {v : V} {u : Value} {d : PyData} {Q : Value → Shared → Prop} (hu : A.units + 16 < cLine) (I : Inv X pins σ H s) (e : H a = some (dob a o)) (N : NObj X.prog X.w a o xs) (r : DrK X.prog X.w Hd xs t) (ex : Ex Hd H)
    (hk : Dr X.prog X.w H (.ref b) k.data) (hz : k.depth ≤ 8) (rv : RelV v u) (hv : Dr X.prog X.w Hd v d) (h : ∀ v' u' s', Inv X pins σ H s' → RelV v' u' → Dr X.prog X.w Hd v' ((tget t k).getD d) → Q u' s') :
    wpAny (model X.prog X.w) A (call (.builtin "dict.get") [.ref a, .ref b, u]) Q E s := by
  have dd := nd_of I e N r ex
  refine call_meetsIn PySem.F.slot_dict_get dd.typeIs PySem.F.entry_dict_get (PySem.F.args_dict_get_3 _ _ _) (meetsH_dict_get_default (nestedKind X.prog X.w) a b N.low u) ⟨roomN hu, k, xs, key_is I hk hz, dd, ?_⟩
  cases ht : tget t k with
  | some d' =>
    obtain ⟨a', u', v', d2, g1, g2, g3, g4⟩ := r.get ⟨d', ht⟩
    rw [g1]
    rw [ht] at g2; cases g2
    refine h v' u' _ (I.tok _) g3 ?_
    rw [ht]; exact g4
  | none =>
    have : atKey xs k = none := by
      have z := r.some_iff (k := k)
      rw [ht] at z
      cases q : atKey xs k with
      | none => rfl
      | some _ => rw [q] at z; cases z
    rw [this]
    refine h v u _ (I.tok _) rv ?_
    rw [ht]; exact hv
theorem ed_getD {t : Tab} {k : NestedKey} {apos cpos : Pos} (G : Gd X) (ha : EK X a ρ t) (hb : ED X b ρ k.data) (hc : ED X c ρ d) (hk : ∃ ks, k = .tup ks) (hz : k.depth ≤ 8)
    (hbase : attributeBase a "get" X.env (eval a X.env) = eval a X.env := by rfl)
    (hfew : ((backTo cpos (starEach [b, c] X.env)).all (fun x => !x.1) && (backToKw cpos (keywordEach [] X.env)).all (fun x => x.1.isSome)
      && decide ([b, c].length + ([] : List Keyword).length + (if ([] : List Keyword).isEmpty then 0 else 1) < 30)) = true := by rfl)
    (hline : (apos.endLine == cpos.line) = true := by rfl) (hst : starEach [b, c] X.env = (false, eval b X.env) :: starEach [c] X.env := by exact star_of rfl) (hst2 : starEach [c] X.env = (false, eval c X.env) :: starEach [] X.env := by exact star_of rfl)
    (hplain : (backTo cpos (starEach [c] X.env)).any (·.1) = false := by rfl) : ED X (.Call (.Attribute a "get" apos) [b, c] [] cpos) ρ ((tget t k).getD d) := fun O0 O H σ L rs Q q => by
  refine ⟨fun pins s I => ?_⟩
  refine wpAny_Call_method_late hbase hfew hline rfl (thn ((ha O0 O H σ L rs (fun v H1 => Ex H H1 ∧ DcR X.prog X.w (hide O H1) H1 v t) fun v H1 e1 r1 => ⟨e1, r1⟩).run pins s I) fun v s1 ⟨x, H1, I1, r1, e1, r2⟩ => ?_)
  cases r2 with
  | @dic p o xs _ h1 h2 h3 =>
    cases r1
    have dd := nd_of I1 h1 h2 h3 hide_sub
    refine ⟨"dict", "dict.get", PySem.F.plainAttrs_dict, PySem.F.slot_dict_get, PySem.F.type_dict_get, dd.typeIs, fun a e => ?_, ?_⟩
    · cases e
      obtain ⟨ob, _, _, g1, g2, _⟩ := dd
      exact ⟨ob, g1, g2.2.1⟩
    have hA := ((ea_cons hb (ea_cons hc ea_nil hst2) hst) O0 O H1 σ (L.ex e1) (rs.ex e1) (fun vs H2 => Ex H1 H2 ∧ DrA X.prog X.w (hide O H2) vs [k.data, d]) (fun vs H2 e2 h => ⟨e2, h⟩)).run cpos pins s1 I1
    rw [hst] at hA ⊢
    refine Calls.callWith_builtin (by show (false || (backTo cpos (starEach [c] X.env)).any (·.1)) = false; rw [hplain] <;> rfl) (Calls.evalArgs_plain ?_)
    refine thn hA fun us s2 ⟨vs, H2, I2, r2, e2, q2⟩ => ?_
    cases q2 with
    | cons g1 g2 =>
      cases g2 with
      | cons g2 g3 =>
        cases g3
        obtain ⟨u1, u2, rfl, w1, w2⟩ := vals2 r2
        obtain ⟨ks, rfl⟩ := hk
        cases (show Dr X.prog X.w (hide O H2) _ (PyData.tuple (NestedKey.datas ks)) from g1) with
        | tup f1 f2 =>
          cases w1
          exact n_getD (Hd := hide O H2) (by have := G.hu; omega) I2 (e2 _ _ h1) h2 (h3.mono (hide_ex e2)) hide_sub (g1.mono hide_sub) hz w2 g2 fun v' u' s' I' r' d' => ⟨v', H2, I', r', q v' H2 (e1.trans e2) d'⟩
/-! ### one sign in a text -/
theorem ed_sign {n : Nat} {z : Str} (ha : ED X a ρ (.str ⟨#[n]⟩)) (hb : ED X b ρ (.str z)) (hm : behindInMarks .In b = false := by with_unfolding_all rfl) : ED X (.Compare a [.In] [b] pos) ρ (.bool (decide (n ∈ z.cps.toList))) :=
  ed_cmpF (pe_cmpR op_in_sign pw_e pw_e hm) (ef_ed ha) (ef_ed hb) fun H x y Q r1 r2 q => by
    cases r1; cases r2
    exact ⟨n, z, rfl, rfl, q⟩
/-! ### target = l.pop(0) -/
theorem s_pop0 {tg : Expr} {ρ' : Env} {kk : Nat} {p3 apos cpos : Pos} {l : Str} (i : Nat) (hi : ρ[i]? = some (some (.lst (d :: ds)))) (hg : GT X tg d (ρ.set i (some (.lst ds))) ρ') (q : E.nx ρ') (hN : X.N[i]? = some l := by rfl) (hv : Vis X.env.scope l := by first | exact Or.inl rfl | exact Or.inr (Or.inl rfl) | exact Or.inr (Or.inr rfl)) (hd : (l == ("__debug__" : Str)) = false := by decide)
    (hcd : (l == ("__classdict__" : Str)) = false := by decide) (hbase : attributeBase (.Name l p2) "pop" X.env (eval (.Name l p2) X.env) = eval (.Name l p2) X.env := by rfl)
    (hfew : ((backTo cpos (starEach [.Constant (.int 0) kk p3] X.env)).all (fun x => !x.1) && (backToKw cpos (keywordEach [] X.env)).all (fun x => x.1.isSome)
      && decide ([Expr.Constant (.int 0) kk p3].length + ([] : List Keyword).length + (if ([] : List Keyword).isEmpty then 0 else 1) < 30)) = true := by rfl)
    (hline : (apos.endLine == cpos.line) = true := by rfl) (hst : starEach [.Constant (.int 0) kk p3] X.env = (false, eval (.Constant (.int 0) kk p3) X.env) :: starEach [] X.env := by exact star_of rfl)
    (hs : swapsWithSole [tg] (.Call (.Attribute (.Name l p2) "pop" apos) [.Constant (.int 0) kk p3] [] cpos) pos.line X.env = pure false := by rfl) (hw : swappedStores [tg] (.Call (.Attribute (.Name l p2) "pop" apos) [.Constant (.int 0) kk p3] [] cpos) X.env = pure none := by rfl)
    (h1 : (assignEach [tg] X.env).map (·.2) = [assign tg X.env] := by rfl) : SD1 X (.Assign [tg] (.Call (.Attribute (.Name l p2) "pop" apos) [.Constant (.int 0) kk p3] [] cpos) pos) ρ E := fun H0 O0 B O H σ k r => by
  obtain ⟨v, g1, g2⟩ := r.at_ _ _ hi
  cases g2 with
  | @lst pp vs _ o1 o2 c' dd =>
    cases dd with
    | @cons v0 vs' _ _ dv dd =>
      refine ws_of (ps_asg (pe_bm PySem.F.plainAttrs_list PySem.F.slot_list_pop PySem.F.type_list_pop mt_popAt (pe_var hN hv hd hcd) (pa_cons pw_e pa_nil hst) hbase hfew hline hst) pw_g hs hw h1) ⟨_, g1, .inl ⟨rfl, _, .of c'⟩, ?_⟩
      refine (ed_int (X := X) (ρ := ρ) (i := 0)) O0 O H σ k.live r _ fun y H1 e1 hy => ?_
      cases hy
      have c1 := e1 _ _ c'
      refine ⟨pp, _, 0, 0, v0, rfl, rfl, c1, by decide, by decide, ?_, rfl, ?_⟩
      · unfold seqIndex?
        simp
      have eh : hide O (upd H1 pp (.lst ((v0 :: vs').eraseIdx 0))) = hide O H1 := hide_upd o1
      refine hg H0 O0 B O _ σ v0 ((k.ex e1).mut o1 o2) ((r.ex e1).mut hi rfl g1 o1 (.lst o1 o2 upd_same (by rw [eh]; exact dd.mono (hide_ex e1))) rfl) (by rw [eh]; exact dv.mono (hide_ex e1)) _ fun σ' H' k' r' _ => ⟨O, ρ', k', r', q⟩
theorem drA_strs {P : Program} {w : World} {H : Hp} : ∀ {ys : List Str} {vs : List V}, DrA P w H vs (ys.map .str) → vs = ys.map V.str
  | [], _, h => by cases h; rfl
  | y :: ys, _, h => by
    cases h with
    | cons h1 h2 => cases h1; rw [drA_strs h2]; rfl
/-! ### l.index(text) -/
theorem ed_indexS {ys : List Str} {y : Str} {m : Nat} {apos cpos : Pos} (ha : EL X a ρ (ys.map .str)) (hb : ED X b ρ (.str y)) (hm : ys[m]? = some y) (hno : ∀ j, j < m → ys[j]? ≠ some y)
    (hbase : attributeBase a "index" X.env (eval a X.env) = eval a X.env := by rfl)
    (hfew : ((backTo cpos (starEach [b] X.env)).all (fun x => !x.1) && (backToKw cpos (keywordEach [] X.env)).all (fun x => x.1.isSome)
      && decide ([b].length + ([] : List Keyword).length + (if ([] : List Keyword).isEmpty then 0 else 1) < 30)) = true := by rfl)
    (hline : (apos.endLine == cpos.line) = true := by rfl) (hst : starEach [b] X.env = (false, eval b X.env) :: starEach [] X.env := by exact star_of rfl) : ED X (.Call (.Attribute a "index" apos) [b] [] cpos) ρ (.int (m : Nat)) := fun O0 O H σ L rs Q q => by
  refine we_of (pe_bm PySem.F.plainAttrs_list PySem.F.slot_list_index PySem.F.type_list_index mt_index pw_e (pa_cons pw_e pa_nil hst) hbase hfew hline hst) (ha O0 O H σ L rs _ fun v H1 e1 r1 => ?_)
  cases r1 with
  | @lst pp vs _ h1 h2 =>
    have hv := drA_strs h2
    subst hv
    refine ⟨.inl ⟨rfl, _, .of h1⟩, hb O0 O H1 σ (L.ex e1) (rs.ex e1) _ fun u H2 e2 r2 => ?_⟩
    cases r2
    refine ⟨pp, ys.map V.str, .str y, m, .str y, rfl, rfl, .of (e2 _ _ h1), rfl, ?_, by rw [List.getElem?_map, hm]; rfl, by simp [eqV], fun j z' hj hz => ?_, q _ H2 (e1.trans e2) (.int _)⟩
    · rw [List.all_eq_true]
      intro z hz
      obtain ⟨w, _, rfl⟩ := List.mem_map.mp hz
      rfl
    · rw [List.getElem?_map] at hz
      cases hj2 : ys[j]? with
      | none => rw [hj2] at hz; cases hz
      | some w =>
        rw [hj2] at hz; cases hz
        have : w ≠ y := fun e => hno j hj (by rw [hj2, e])
        simpa [eqV] using this
end
/-! ### rows = zip(a, b); return tuple([.. for .. in rows if ..]) -/
theorem dob_ok {P : Program} {w : World} {H : Hp} {h : Heap} {a : Addr} {o : Obj} (e : h.get? a = some o) : ObjOk P w H h a (dob a o) := ⟨e, ⟨o, e⟩, fun h1 h2 g k => k o g⟩
/-- five objects that were just made are tracked as they stand -/
def upd5 (H : Hp) (n : Nat) (o0 o1 o2 o3 o4 : Obj) : Hp := fun b => if b = n then some (dob b o0) else if b = n + 1 then some (dob b o1) else if b = n + 2 then some (dob b o2) else if b = n + 3 then some (dob b o3) else if b = n + 4 then some (dob b o4) else H b
theorem upd5_old {H : Hp} {n b : Nat} {o0 o1 o2 o3 o4 : Obj} (h : b < n) : upd5 H n o0 o1 o2 o3 o4 b = H b := by
  unfold upd5
  have h0 : ¬ b = n := by omega
  have h1 : ¬ b = n + 1 := by omega
  have h2 : ¬ b = n + 2 := by omega
  have h3 : ¬ b = n + 3 := by omega
  have h4 : ¬ b = n + 4 := by omega
  rw [if_neg h0, if_neg h1, if_neg h2, if_neg h3, if_neg h4]
theorem upd5_some {H : Hp} {n b : Nat} {o0 o1 o2 o3 o4 : Obj} {u : HO} (h : upd5 H n o0 o1 o2 o3 o4 b = some u) : (b = n ∧ u = dob b o0) ∨ (b = n + 1 ∧ u = dob b o1) ∨ (b = n + 2 ∧ u = dob b o2) ∨ (b = n + 3 ∧ u = dob b o3) ∨ (b = n + 4 ∧ u = dob b o4) ∨ H b = some u := by
  unfold upd5 at h
  split at h
  · exact .inl ⟨‹_›, (Option.some.inj h).symm⟩
  split at h
  · exact .inr (.inl ⟨‹_›, (Option.some.inj h).symm⟩)
  split at h
  · exact .inr (.inr (.inl ⟨‹_›, (Option.some.inj h).symm⟩))
  split at h
  · exact .inr (.inr (.inr (.inl ⟨‹_›, (Option.some.inj h).symm⟩)))
  split at h
  · exact .inr (.inr (.inr (.inr (.inl ⟨‹_›, (Option.some.inj h).symm⟩))))
  exact .inr (.inr (.inr (.inr (.inr h))))
section
variable {X : Cx} {pins : List (Addr × Obj)} {σ : L2.St} {H : Hp} {s : Shared} {h' : Heap} {o0 o1 o2 o3 o4 : Obj}
theorem inv_five (I : Inv X pins σ H s) (k : ∀ b u, s.heap.get? b = some u → h'.get? b = some u) (g0 : h'.get? s.heap.objs.size = some o0) (g1 : h'.get? (s.heap.objs.size + 1) = some o1) (g2 : h'.get? (s.heap.objs.size + 2) = some o2)
    (g3 : h'.get? (s.heap.objs.size + 3) = some o3) (g4 : h'.get? (s.heap.objs.size + 4) = some o4) : Inv X pins σ (upd5 H s.heap.objs.size o0 o1 o2 o3 o4) { s with heap := h' } := by
  have old : ∀ {b : Addr} {u : HO}, H b = some u → upd5 H s.heap.objs.size o0 o1 o2 o3 o4 b = some u := fun {b u} e => by rw [upd5_old (I.hok.lt e)]; exact e
  have un : Un X.fs [] H (upd5 H s.heap.objs.size o0 o1 o2 o3 o4) s.heap h' := ⟨fun b o e _ _ _ => k b o e, fun b o e _ _ _ => ⟨o.slots, k b o e⟩, fun b o e n _ => by rw [upd5_old (Heap.lt_size e)]; exact n,
    fun b o e _ => ⟨o, k b o e⟩, fun b xs e => old e, fun b o u e => old e, fun b ps e => ⟨#[], by rw [old e]; simp⟩⟩
  refine I.un (t' := s.toks) un fun b u e => ?_
  rcases upd5_some e with ⟨h, rfl⟩ | ⟨h, rfl⟩ | ⟨h, rfl⟩ | ⟨h, rfl⟩ | ⟨h, rfl⟩ | e
  · subst h; exact dob_ok g0
  · subst h; exact dob_ok g1
  · subst h; exact dob_ok g2
  · subst h; exact dob_ok g3
  · subst h; exact dob_ok g4
  · exact (I.hok b u e).stay (fun c v _ z => k c v z) (fun c z => old z) fun c xs z => old z
end
/-- what the heap is behind zip(a, b) of tuples: n the first of the five new objects -/
structure Zp (H : Hp) (ta tb n : Addr) (o0 o1 o2 o3 o4 : Obj) : Prop where
  z : ∀ h : Heap, h.get? (n + 4) = some o4 → IsZip h (n + 4) (n + 2) (n + 3) .none
  ti : ∀ h : Heap, h.get? (n + 2) = some o2 → IsPair h (n + 2) (.ref n) (.ref (n + 1))
  to' : ∀ h : Heap, h.get? (n + 3) = some o3 → IsPair h (n + 3) .none .none
  i1 : ∀ h : Heap, h.get? n = some o0 → h.IsTupleIter n ta 0
  i2 : ∀ h : Heap, h.get? (n + 1) = some o1 → h.IsTupleIter (n + 1) tb 0
  ap : ZipApart (n + 4) (n + 2) (n + 3) n (n + 1) ta tb
end K79

set_option Elab.async false
set_option linter.all false
set_option maxRecDepth 100000
set_option maxHeartbeats 4000000
/-! rows = zip(a, b); return tuple([.. for .. in rows if ..]) -/
namespace K79
open PySem PySem.Spec PyProof.Rows L2
/-- the state of the five objects behind zip(a, b) of tuples, the first at n, whatever the heap -/
structure Zq (ta tb n : Nat) (o0 o1 o2 o3 o4 : Obj) : Prop where
  ap : ZipApart (n + 4) (n + 2) (n + 3) n (n + 1) ta tb
  st : ∀ h : Heap, h.get? n = some o0 → h.get? (n + 1) = some o1 → h.get? (n + 2) = some o2 → h.get? (n + 3) = some o3 → h.get? (n + 4) = some o4 →
    (IsZip h (n + 4) (n + 2) (n + 3) .none ∧ IsPair h (n + 2) (.ref n) (.ref (n + 1)) ∧ (∃ x y, IsPair h (n + 3) x y) ∧ h.IsTupleIter n ta 0 ∧ h.IsTupleIter (n + 1) tb 0)
def tZipV (X : Cx) (ta : TA) : TE := fun σ H Q => ta σ H fun vs H1 => ∃ a b xs ys, vs = [.ref a, .ref b] ∧ SqT X.K H1 a xs ∧ SqT X.K H1 b ys ∧
  ∀ (n : Nat) (o0 o1 o2 o3 o4 : Obj), (∀ c : Nat, n ≤ c → H1 c = none) → X.s_0.heap.objs.size ≤ n → Zq a b n o0 o1 o2 o3 o4 → Q (.ref (n + 4)) (upd5 H1 n o0 o1 o2 o3 o4)
theorem pe_zipV {X : Cx} {e e2 : Expr} {ta : TA} {p pos : Pos} (hg : Gl X "zip") (hm : X.mg "zip" = none) (ha : PA X [e, e2] ta)
    (hs : starEach [e, e2] X.env = (false, eval e X.env) :: starEach [e2] X.env := by exact star_of rfl) (hpl : (backTo pos (starEach [e2] X.env)).any (·.1) = false := by rfl) :
    PE X (.Call (.Name "zip" p) [e, e2] [] pos) (tZipV X ta) := by
  refine ⟨fun pins s σ H Q I h => ?_⟩
  refine Call_ (ld_blt I hg hm PyProof.Rows.boot_zip (PyProof.Rows.callWith_type1 (thn (ha.run pos pins s σ H _ I h) fun us s1 ⟨vs, H1, I1, r1, q1⟩ => ?_) hs hpl))
  obtain ⟨a, b, xs, ys, rfl, hqx, hqy, q⟩ := q1
  obtain ⟨u1, u2, rfl, w1, w2⟩ := vals2 r1
  cases w1; cases w2
  obtain ⟨its, _, p1, _⟩ := I1.tuple hqx
  obtain ⟨its2, _, p2, _⟩ := I1.tuple hqy
  obtain ⟨oa, hoa, _⟩ := id p1
  obtain ⟨ob, hob, _⟩ := id p2
  refine RZ.call_zipT (show s1.heap.IsTuple a its.toArray from p1) (show s1.heap.IsTuple b its2.toArray from p2) fun h' hz hTI hTO h1 h2 hsz hk => ?_
  have ap := PySem.W.ktu_apart s1.heap.objs.size a b (Heap.lt_size hoa) (Heap.lt_size hob)
  have T := RZ.turn_zipT (P := X.prog) (w := X.w) (K := X.K) (elts := []) (kk := 0) (tpos := pos) (a := a) (b := b) ap
  have st0 := (⟨hz, hTI, ⟨_, _, hTO⟩, h1, h2⟩ : IsZip h' (s1.heap.objs.size + 4) (s1.heap.objs.size + 2) (s1.heap.objs.size + 3) .none ∧ IsPair h' (s1.heap.objs.size + 2) (.ref s1.heap.objs.size) (.ref (s1.heap.objs.size + 1)) ∧ (∃ x y, IsPair h' (s1.heap.objs.size + 3) x y) ∧ h'.IsTupleIter s1.heap.objs.size a 0 ∧ h'.IsTupleIter (s1.heap.objs.size + 1) b 0)
  obtain ⟨o0, g0, _⟩ := T.obj 0 h' st0 s1.heap.objs.size (by simp)
  obtain ⟨o1, g1, _⟩ := T.obj 0 h' st0 (s1.heap.objs.size + 1) (by simp)
  obtain ⟨o2, g2, _⟩ := T.obj 0 h' st0 (s1.heap.objs.size + 2) (by simp)
  obtain ⟨o3, g3, _⟩ := T.obj 0 h' st0 (s1.heap.objs.size + 3) (by simp)
  obtain ⟨o4, g4, _⟩ := T.obj 0 h' st0 (s1.heap.objs.size + 4) (by simp)
  refine ⟨.ref (s1.heap.objs.size + 4), _, inv_five I1 hk g0 g1 g2 g3 g4, rfl, q _ o0 o1 o2 o3 o4 (fun c hc => I1.hok.fresh hc) I1.sz ⟨ap, fun h e0 e1 e2 e3 e4 => T.keep 0 h' h st0 fun c hc o e => ?_⟩⟩
  simp only [List.mem_cons, List.not_mem_nil, or_false] at hc
  rcases hc with hc | hc | hc | hc | hc <;> subst hc
  · rw [g4] at e; cases e; exact e4
  · rw [g2] at e; cases e; exact e2
  · rw [g3] at e; cases e; exact e3
  · rw [g0] at e; cases e; exact e0
  · rw [g1] at e; cases e; exact e1
def iZipV (X : Cx) (k : Nat) : TI := fun σ H R => ∃ (a b n : Nat) (o0 o1 o2 o3 o4 : Obj) (H1 : Hp), σ[k]? = some (some (.ref (n + 4))) ∧ H = upd5 H1 n o0 o1 o2 o3 o4 ∧ (∀ c : Nat, n ≤ c → H1 c = none) ∧ X.s_0.heap.objs.size ≤ n ∧ Zq a b n o0 o1 o2 o3 o4 ∧ R (RZ.ItzT X.K a b) H1
theorem drop5 {H1 : Hp} {n : Nat} {o0 o1 o2 o3 o4 : Obj} (h : ∀ c : Nat, n ≤ c → H1 c = none) : ItX.dropH (ItX.dropH (ItX.dropH (ItX.dropH (ItX.dropH (upd5 H1 n o0 o1 o2 o3 o4) n) (n + 1)) (n + 2)) (n + 3)) (n + 4) = H1 := by
  funext b
  unfold ItX.dropH upd5
  by_cases h4 : b = n + 4
  · subst h4; simp [h (n + 4) (by omega)]
  by_cases h3 : b = n + 3
  · subst h3; simp [h (n + 3) (by omega)]
  by_cases h2 : b = n + 2
  · subst h2; simp [h (n + 2) (by omega)]
  by_cases h1 : b = n + 1
  · subst h1; simp [h (n + 1) (by omega)]
  by_cases h0 : b = n
  · subst h0; simp [h b (by omega)]
  simp [h0, h1, h2, h3, h4]
theorem pi_zipV {X : Cx} {elts : List Expr} {kk k : Nat} {tpos p : Pos} {x : Str} (hN : X.N[k]? = some x) (hv : Vis X.env.scope x) (hd : (x == ("__debug__" : Str)) = false := by decide) (hcd : (x == ("__classdict__" : Str)) = false := by decide) :
    PI X (.Tuple elts kk tpos) (.Name x p) (iZipV X k) := by
  refine ⟨fun pins s σ H R I h => ?_⟩
  obtain ⟨a, b, n, o0, o1, o2, o3, o4, H1, hs, rfl, hn, hsz, Z, q⟩ := h
  refine thn ((pe_var (pos := p) (i := k) hN hv hd hcd).run pins s σ _ (fun v H2 => v = .ref (n + 4) ∧ H2 = upd5 H1 n o0 o1 o2 o3 o4) I ⟨.ref (n + 4), hs, rfl, rfl⟩) fun u s1 ⟨v, H2, I1, r1, ev, eH⟩ => ?_
  subst ev eH
  cases r1
  have t0 : upd5 H1 n o0 o1 o2 o3 o4 n = some (dob n o0) := by simp [upd5]
  have t1 : upd5 H1 n o0 o1 o2 o3 o4 (n + 1) = some (dob (n + 1) o1) := by simp [upd5]
  have t2 : upd5 H1 n o0 o1 o2 o3 o4 (n + 2) = some (dob (n + 2) o2) := by simp [upd5]
  have t3 : upd5 H1 n o0 o1 o2 o3 o4 (n + 3) = some (dob (n + 3) o3) := by simp [upd5]
  have t4 : upd5 H1 n o0 o1 o2 o3 o4 (n + 4) = some (dob (n + 4) o4) := by simp [upd5]
  have st := Z.st s1.heap (dob_get I1 t0) (dob_get I1 t1) (dob_get I1 t2) (dob_get I1 t3) (dob_get I1 t4)
  have T := RZ.turn_zipT (P := X.prog) (w := X.w) (K := X.K) (elts := elts) (kk := kk) (tpos := tpos) (a := a) (b := b) Z.ap
  have J := ItX.inv_drop I1 t0
  have J := ItX.inv_drop J (a := n + 1) (φ := fun h => h.get? (n + 1) = some o1) (by simp [ItX.dropH, t1, dob])
  have J := ItX.inv_drop J (a := n + 2) (φ := fun h => h.get? (n + 2) = some o2) (by simp [ItX.dropH, t2, dob])
  have J := ItX.inv_drop J (a := n + 3) (φ := fun h => h.get? (n + 3) = some o3) (by simp [ItX.dropH, t3, dob])
  have J := ItX.inv_drop J (a := n + 4) (φ := fun h => h.get? (n + 4) = some o4) (by simp [ItX.dropH, t4, dob])
  rw [drop5 hn] at J
  refine T.self X.A 0 s1 _ _ st ⟨n + 4, _, _, _, H1, rfl, J, T, st, fun c hc => ?_, q⟩
  have hc' := hc
  simp only [List.mem_cons, List.not_mem_nil, or_false] at hc
  rcases hc with hc | hc | hc | hc | hc <;> subst hc
  · exact ⟨hn _ (by omega), (ItX.inv_fp I1 t4 (by omega)).2⟩
  · exact ⟨hn _ (by omega), (ItX.inv_fp I1 t2 (by omega)).2⟩
  · exact ⟨hn _ (by omega), (ItX.inv_fp I1 t3 (by omega)).2⟩
  · exact ⟨hn _ (by omega), (ItX.inv_fp I1 t0 (by omega)).2⟩
  · exact ⟨hn _ (by omega), (ItX.inv_fp I1 t1 (by omega)).2⟩

section
variable {P : Program} {w : World} {O0 O : Own} {H : Hp} {σ : L2.St} {ρ : Env}
/-- a slot gets what is not told of -/
theorem RS.setX {i : Nat} {x : Option V} (r : RS P w O0 O H σ ρ) : RS P w O0 O H (σ.set i x) (ρ.set i none) where
  len := by simp [r.len]
  at_ := fun j pv e => by
    by_cases q : i = j
    · subst q
      have hl : i < ρ.length := by have := (List.getElem?_eq_some_iff.mp e).1; simpa using this
      rw [List.getElem?_set_self hl] at e; cases e
    · rw [List.getElem?_set_ne q] at e ⊢
      exact r.at_ j pv e
  apart := fun j k pv qv a b hne e1 e2 o1 o2 s1 s2 => by
    have key : ∀ {m : Nat} {pv : PV} {y : Option V}, (ρ.set i none)[m]? = some (some pv) → (σ.set i x)[m]? = some y → ρ[m]? = some (some pv) ∧ σ[m]? = some y := fun {m pv y} e e' => by
      by_cases q : i = m
      · subst q
        have hl : i < ρ.length := by have := (List.getElem?_eq_some_iff.mp e).1; simpa using this
        rw [List.getElem?_set_self hl] at e; cases e
      · rw [List.getElem?_set_ne q] at e e'
        exact ⟨e, e'⟩
    obtain ⟨f1, g1⟩ := key e1 s1
    obtain ⟨f2, g2⟩ := key e2 s2
    exact r.apart j k pv qv a b hne f1 f2 o1 o2 g1 g2
end
theorem walk_zip {P : Program} {w : World} {K : PySem.W.Frag} {B : Hp} {a b : Addr} {vs1 vs2 : List V} {xs ys : List PyData} (h1 : B a = some (.tup vs1)) (h2 : B b = some (.tup vs2)) (r1 : DrA P w B vs1 xs) (r2 : DrA P w B vs2 ys) :
    WalkD P w B (RZ.ItzT K a b) (List.zipWith (fun x y => .tuple [x, y]) xs ys) := fun i H2 O2 ex L2 hO => by
  have k1 : SqT K H2 a vs1 := .of (ex _ _ h1)
  have k2 : SqT K H2 b vs2 := .of (ex _ _ h2)
  have l1 := r1.length
  have l2 := r2.length
  have lz : (List.zipWith (fun x y => PyData.tuple [x, y]) xs ys).length = min xs.length ys.length := by rw [List.length_zipWith]
  refine ⟨fun hi => ⟨vs1, vs2, vs1[i]'(by omega), vs2[i]'(by omega), k1, k2, by rw [List.getElem?_eq_getElem], by rw [List.getElem?_eq_getElem]⟩, fun d hd x H' y => ?_, fun hi => ⟨vs1, vs2, k1, k2, by omega⟩⟩
  obtain ⟨T, x1, y1, rfl, hT, rfl, g1, g2⟩ := y
  rw [List.getElem?_zipWith] at hd
  obtain ⟨d1, e1', k3⟩ := r1.getV (g1 vs1 k1)
  obtain ⟨d2, e2', k4⟩ := r2.getV (g2 vs2 k2)
  rw [e1', e2'] at hd
  cases hd
  exact ⟨.new hT, dr_pair hT L2 (k3.mono (hide_le (O := O2) ex hO)) (k4.mono (hide_le (O := O2) ex hO))⟩
section
variable {X : Cx} {ρ : Env} {E : Eds} {a b elt : Expr} {ifs : List Expr} {scope : Scope} {xs ys : List PyData} {x : Str}
theorem sd_zipRet {α : Type} {gd : α → PyData} {ds : List α} {elts : List Expr} {kk : Nat} {tpos p1 p2 p3 p4 p5 p6 p7 p8 p9 : Pos} (own : List (Str × Nat)) (i : Nat) (c : α → Bool) (f : α → PyData) (us : α → List (Nat × PyData)) (G : Gd X) (hN : X.N.Nodup) (ha : ED X a ρ (.tuple xs)) (hb : ED X b ρ (.tuple ys))
    (hd : List.zipWith (fun x y => PyData.tuple [x, y]) xs ys = ds.map gd) (ok : BlkOk X.N X.env.scope scope own) (hz : ds.length ≤ 1000000)
    (hu : ∀ d, ∀ u ∈ us d, u.1 ∈ own.map (·.2)) (hg : ∀ s H C cl fp d, d ∈ ds → GD (inBlk X scope s H C cl fp) (.Tuple elts kk tpos) (gd d) (us d))
    (ht : ∀ s H C cl fp d, d ∈ ds → ETs (inBlk X scope s H C cl fp) ifs (setDs (wipeP (ρ.set i none) (own.map (·.2))) (us d)) (c d))
    (he : ∀ s H C cl fp d, d ∈ ds → c d = true → ED (inBlk X scope s H C cl fp) elt (setDs (wipeP (ρ.set i none) (own.map (·.2))) (us d)) (f d)) (q : E.rt (.tuple ((ds.filter c).map f)))
    (hlen : decide (i < ρ.length) = true := by rfl) (hi : X.N[i]? = some x := by rfl) (hx : Loc X.env.scope x := by first | exact .inl rfl | exact .inr rfl) (hv : Vis X.env.scope x := by first | exact Or.inl rfl | exact Or.inr (Or.inl rfl) | exact Or.inr (Or.inr rfl)) (hf : X.fn x = true ∨ X.env.scope.names.lookup x = some .local := by first | exact .inl rfl | exact .inr rfl)
    (hdb : (x == ("__debug__" : Str)) = false := by decide) (hcd : (x == ("__classdict__" : Str)) = false := by decide) (hgz : Gl X "zip" := by rfl) (hgt : Gl X "tuple" := by rfl)
    (hs : starEach [a, b] X.env = (false, eval a X.env) :: starEach [b] X.env := by exact star_of rfl) (hs2 : starEach [b] X.env = (false, eval b X.env) :: starEach [] X.env := by exact star_of rfl) (hpl : (backTo p3 (starEach [b] X.env)).any (·.1) = false := by rfl)
    (hsw : swapsWith (.Call (.Name "zip" p2) [a, b] [] p3) (some (.Name x p1)) p4.line X.env = pure false := by rfl)
    (hst : starEach [.ListComp elt [⟨.Tuple elts kk tpos, .Name x p6, ifs, 0⟩] scope p7] X.env = (false, eval (.ListComp elt [⟨.Tuple elts kk tpos, .Name x p6, ifs, 0⟩] scope p7) X.env) :: starEach [] X.env := by exact star_of rfl)
    (hfs : ∀ z, foldedSetIterable (.Name x p6) X.env z = pure z := by intro _; rfl) :
    SD X [.Assign [.Name x p1] (.Call (.Name "zip" p2) [a, b] [] p3) p4, .Return (some (.Call (.Name "tuple" p5) [.ListComp elt [⟨.Tuple elts kk tpos, .Name x p6, ifs, 0⟩] scope p7] [] p8)) p9] ρ E := fun H0 O0 B O H σ k r => by
  refine wss_of (pss_cons (ps_set hN hi hx (pe_zipV hgz G.zip pw_a hs hpl) hsw hf) (pss_one (ps_ret (pe_tupleOf hgt G.tuple (pe_lc (g := fun v σ H Q => ∀ s H' C cl fp, WG (inBlk X scope s H' C cl fp) (.Tuple elts kk tpos) v σ H Q) (tt := fun σ H Q => ∀ s H' C cl fp, WTs (inBlk X scope s H' C cl fp) ifs σ H Q) (te := fun σ H Q => ∀ s H' C cl fp, WE (inBlk X scope s H' C cl fp) elt σ H Q) G.calm hN (pi_zipV hi hv hdb hcd) ok
    (fun s H' C cl fp => ⟨fun pins s1 σ1 H1 v u Q1 I r h => (h s H' C cl fp).run pins s1 u I r⟩) (fun s H' C cl fp => ⟨fun pins s1 σ1 H1 Q1 I h => (h s H' C cl fp).run pins s1 I⟩) (fun s H' C cl fp => ⟨fun pins s1 σ1 H1 Q1 I h => (h s H' C cl fp).run pins s1 I⟩) hfs) hst)))) ?_
  refine ea_cons ha (ea_cons hb ea_nil hs2) hs O0 O H σ k.live r _ fun vs H1 e1 h1 => ?_
  cases h1 with
  | cons h1 h2 =>
    cases h2 with
    | cons h2 h3 =>
      cases h3
      cases h1 with
      | @tup pa va _ h1 r1 =>
        cases h2 with
        | @tup pb vb _ h2 r2 =>
          refine ⟨pa, pb, va, vb, rfl, .of (hide_sub _ _ h1), .of (hide_sub _ _ h2), fun n o0 o1 o2 o3 o4 hn hsz Z => ?_⟩
          have L1 := k.live.ex e1
          have rs : RS X.prog X.w O0 O H1 (σ.set i (some (.ref (n + 4)))) (ρ.set i none) := (r.ex e1).setX
          have hil : i < σ.length := by rw [r.len]; exact of_decide_eq_true hlen
          refine ⟨pa, pb, n, o0, o1, o2, o3, o4, H1, by rw [List.getElem?_set_self hil], rfl, hn, hsz, Z, ?_⟩
          have wk := walk_zip (K := X.K) h1 h2 r1 r2
          rw [hd] at wk
          have z := lc_asks (wi := fun _ H R => R (RZ.ItzT X.K pa pb) H) (X := X) (ρ := ρ.set i none) (elt := elt) (tg := .Tuple elts kk tpos) (ifs := ifs) (scope := scope) (own := own) (gd := gd) (ds := ds) (fun x => if c x = true then some (f x) else none) us hz (fun s H C cl fp d hd => ⟨hu d, hg s H C cl fp d hd, ets_c (ht s H C cl fp d hd) (by
              by_cases h : c d = true
              · rw [if_pos h, h]; rfl
              · rw [if_neg h]; simpa using h), fun y e => by
              by_cases h : c d = true
              · rw [if_pos h] at e; cases e
                exact he s H C cl fp d hd h
              · rw [if_neg h] at e; cases e⟩) O0 O H1 _ L1 rs (fun R h => h _ H1 .rfl' wk) (fun v H' => kTup X.K v H' (lift X H0 O0 B E).rt) (fun p vs H' np ex hp hda => ?_)
          · exact z
          · rw [filterMap_c] at hda
            refine .inl ⟨p, vs, rfl, .of hp, fun q' hq' => ⟨k.ex0.trans (e1.trans (ex.trans (.new hq'))), _, .tup (xs := vs) ?_ ?_, q⟩⟩
            · have : O0 q' = false := by
                cases y : O0 q' with
                | false => rfl
                | true =>
                  obtain ⟨o, ho⟩ := L1 q' (k.sub _ y)
                  rw [ex _ _ ho] at hq'; cases hq'
              rw [hide_at this]; exact upd_same
            · refine hda.mono fun a o za => ?_
              obtain ⟨z1, z2⟩ := hide_some za
              have : O0 a = false := by
                cases y : O0 a with
                | false => rfl
                | true =>
                  have := k.sub _ y
                  rw [show add O p a = (O a || decide (a = p)) from rfl, this] at z1; cases z1
              rw [hide_at this]
              exact Ex.new hq' a o z2
end
end K79

set_option Elab.async false
set_option linter.all false
set_option maxRecDepth 100000
set_option maxHeartbeats 4000000
/-! [.. for a in .. for b in ..] -/
namespace K79
open PySem PySem.Spec PyProof.Rows L2
/-- the weakest reading of what is walked -/
structure WI (X : Cx) (tg iter : Expr) (σ : L2.St) (H : Hp) (R : It → Hp → Prop) : Prop where
  run : ∀ (pins : List (Addr × Obj)) (s : Shared), Inv X pins σ H s → wpAny (model X.prog X.w) X.A (eval iter X.env) (fun v s1 => wpAny (model X.prog X.w) X.A (pyIter v) (PIE X pins σ tg R) X.xe s1) X.xe s
theorem pi_w {X : Cx} {tg iter : Expr} : PI X tg iter (WI X tg iter) := ⟨fun pins s σ H R I h => h.run pins s I⟩
theorem wi_of {X : Cx} {tg iter : Expr} {wi : TI} (h : PI X tg iter wi) {σ : L2.St} {H : Hp} {R : It → Hp → Prop} (q : wi σ H R) : WI X tg iter σ H R := ⟨fun pins s I => h.run pins s σ H R I q⟩
section
variable {X : Cx} {elt tg iter tg1 iter1 : Expr} {scope : Scope} {pos : Pos} {ρ : Env} {α β : Type} {ga : α → PyData} {gb : β → PyData} {as : List α}
theorem flatMap_take {γ δ : Type} (f : γ → List δ) (l : List γ) {i : Nat} {d : γ} (h : l[i]? = some d) : (l.take (i + 1)).flatMap f = (l.take i).flatMap f ++ f d := by
  rw [List.take_succ, h, List.flatMap_append]; simp
theorem en_lc2 (own : List (Str × Nat)) (vs1 : List Nat) (bs : α → List β) (f : α → β → PyData) (us : α → List (Nat × PyData)) (us1 : β → List (Nat × PyData)) (G : Gd X) (hN : X.N.Nodup) (hi : EI X tg iter ρ (as.map ga)) (ok : BlkOk X.N X.env.scope scope own) (hv : ∀ i ∈ vs1, i ∈ own.map (·.2)) (hz : as.length ≤ 1000) (hz1 : ∀ a ∈ as, (bs a).length ≤ 1000)
    (hu : ∀ d, ∀ u ∈ us d, u.1 ∈ own.map (·.2)) (hu1 : ∀ d, ∀ u ∈ us1 d, u.1 ∈ vs1) (hg : ∀ s H C cl fp a, a ∈ as → GD (inBlk X scope s H C cl fp) tg (ga a) (us a))
    (hi1 : ∀ s H C cl fp a, a ∈ as → EI (inBlk X scope s H C cl fp) tg1 iter1 (setDs (wipeP ρ (own.map (·.2))) (us a)) ((bs a).map gb))
    (hg1 : ∀ s H C cl fp a b, a ∈ as → b ∈ bs a → GD (inBlk X scope s H C cl fp) tg1 (gb b) (us1 b))
    (he : ∀ s H C cl fp a b, a ∈ as → b ∈ bs a → ED (inBlk X scope s H C cl fp) elt (setDs (wipeP (setDs (wipeP ρ (own.map (·.2))) (us a)) vs1) (us1 b)) (f a b))
    (hs : ∀ x, foldedSetIterable iter X.env x = pure x := by intro _; rfl) (hs1 : ∀ env x, foldedSetIterable iter1 env x = pure x := by intro _ _; rfl) :
    EN X (.ListComp elt [⟨tg, iter, [], 0⟩, ⟨tg1, iter1, [], 0⟩] scope pos) ρ (as.flatMap fun a => (bs a).map (f a)) := fun O0 O H σ L rs Q q => by
  obtain ⟨wi, hp, hw⟩ := hi
  refine we_of (pe_lc2 (vs1 := vs1) (g := fun v σ H Q => ∀ s H' C cl fp, WG (inBlk X scope s H' C cl fp) tg v σ H Q) (wi1 := fun σ H R => ∀ s H' C cl fp, WI (inBlk X scope s H' C cl fp) tg1 iter1 σ H R) (g1 := fun v σ H Q => ∀ s H' C cl fp, WG (inBlk X scope s H' C cl fp) tg1 v σ H Q)
    (te := fun σ H Q => ∀ s H' C cl fp, WE (inBlk X scope s H' C cl fp) elt σ H Q) G.calm hN hp ok hv (fun s H' C cl fp => ⟨fun pins s1 σ1 H1 v u Q1 I r h => (h s H' C cl fp).run pins s1 u I r⟩) (fun _ _ _ _ _ => pts_nil) (fun s H' C cl fp => ⟨fun pins s1 σ1 H1 R I h => (h s H' C cl fp).run pins s1 I⟩)
    (fun s H' C cl fp => ⟨fun pins s1 σ1 H1 v u Q1 I r h => (h s H' C cl fp).run pins s1 u I r⟩) (fun _ _ _ _ _ => pts_nil) (fun s H' C cl fp => ⟨fun pins s1 σ1 H1 Q1 I h => (h s H' C cl fp).run pins s1 I⟩) hs hs1) ?_
  have lenF : ∀ (l : List α), (∀ a ∈ l, a ∈ as) → (l.flatMap fun a => (bs a).map (f a)).length ≤ 1000 * l.length := fun l => by
    induction l with
    | nil => intro _; simp
    | cons a l ih =>
      intro hl
      rw [List.flatMap_cons, List.length_append, List.length_map, List.length_cons]
      have := hz1 a (hl a (List.mem_cons_self ..))
      have := ih fun x hx => hl x (List.mem_cons_of_mem _ hx)
      omega
  refine hw O0 O H σ L rs _ fun J H1 e1 wk D hD => ?_
  have L1 := L.ex e1
  have hHD : H D = none := e1.back hD
  let res : Nat → List PyData := fun i => (as.take i).flatMap fun a => (bs a).map (f a)
  let Pv : Nat → Hp → Prop := fun i H' => Ex H1 H' ∧ ∃ acc, H' D = some (.lst acc) ∧ DrA X.prog X.w (hide (add O D) H') acc (res i)
  refine ⟨fun i m H' => m = as.length - i ∧ i ≤ as.length ∧ Pv i H', ⟨as.length, by omega, Nat.zero_le _, .new hD, [], upd_same, .nil⟩, ?_⟩
  rintro i m H2 ⟨rfl, hi, e2, acc, hacc, dacc⟩
  have liveD : ∀ {H' : Hp}, Ex H1 H' → (∃ acc, H' D = some (.lst acc)) → Live (add O D) H' := fun {H'} e ⟨acc, h⟩ a ha => by
    by_cases z : a = D
    · subst z; exact ⟨_, h⟩
    · rw [add_other z] at ha
      obtain ⟨o, k⟩ := L1 a ha
      exact ⟨o, e _ _ k⟩
  have live2 := liveD e2 ⟨_, hacc⟩
  have own2 : ∀ a, add O D a = true → hide O H1 a = none := fun a h => by
    by_cases z : a = D
    · subst z
      rw [hide_at (L1.no hD)]; exact hD
    · rw [add_other z] at h; exact hide_own h
  have rsD : ∀ {H' : Hp}, Ex H1 H' → RS X.prog X.w O0 (add O D) H' (wipe σ (own.map (·.2))) (wipeP ρ (own.map (·.2))) := fun {H'} e => (rs.grow (e1.trans e) (hide_new (e1.trans e) hHD) fun a h => by simp [add, h]).wipe _
  obtain ⟨w1, w2, w3⟩ := wk i H2 (add O D) (hide_sub.trans e2) live2 own2
  rw [List.length_map] at w1 w3
  by_cases hlt : i < as.length
  · refine .inr ⟨w1 hlt, Pv (i + 1), fun H' p' => ⟨as.length - (i + 1), by omega, rfl, hlt, p'⟩, fun x H3 hy => ?_⟩
    obtain ⟨a, ha⟩ : ∃ a, as[i]? = some a := ⟨as[i], List.getElem?_eq_getElem hlt⟩
    obtain ⟨e3, hx⟩ := w2 (ga a) (by rw [List.getElem?_map, ha]; rfl) x H3 hy
    have hmem : a ∈ as := List.mem_of_getElem? ha
    have e13 := e2.trans e3
    have rs3 := rsD e13
    intro s H' C cl fp
    refine hg s H' C cl fp a hmem (add O D) H3 x _ hx _ fun xs hxs => ?_
    have rs4 := rs3.setVs hxs
    refine ⟨?_, ?_⟩
    · rw [wipe_setVs, wipe_wipe]
      intro p hp
      obtain ⟨u, hu', e⟩ := List.mem_map.mp (List.of_mem_zip hp).1
      rw [← e]; exact hu a u hu'
    unfold tYes
    simp only [if_true]
    intro s H' C cl fp
    obtain ⟨wi1, hp1, hw1⟩ := hi1 s H' C cl fp a hmem
    have hD3 : H3 D = some (.lst acc) := e3 _ _ hacc
    refine wi_of hp1 (hw1 O0 (add O D) H3 _ (liveD e13 ⟨_, hD3⟩) rs4 _ fun J1 H4 e4 wk1 => ?_)
    have e14 := e13.trans e4
    have hD4 : H4 D = some (.lst acc) := e4 _ _ hD3
    let B : Hp := hide (add O D) H4
    have hB : ∀ a, add O D a = true → B a = none := fun a h => hide_own h
    let res1 : Nat → List PyData := fun j => res i ++ ((bs a).take j).map (f a)
    let Pv1 : Nat → Hp → Prop := fun j H' => Ex H1 H' ∧ Ex B H' ∧ ∃ acc', H' D = some (.lst acc') ∧ DrA X.prog X.w (hide (add O D) H') acc' (res1 j)
    have hra : res (i + 1) = res i ++ (bs a).map (f a) := flatMap_take _ as ha
    refine ⟨fun j k H' => k = (bs a).length - j ∧ j ≤ (bs a).length ∧ Pv1 j H', ⟨(bs a).length, by omega, Nat.zero_le _, e14, hide_sub, acc, hD4, by
      show DrA X.prog X.w _ acc (res i ++ ((bs a).take 0).map (f a))
      rw [List.take_zero, List.map_nil, List.append_nil]
      exact dacc.mono (hide_ex (e3.trans e4))⟩, ?_⟩
    rintro j k H5 ⟨rfl, hj, e15, eB, acc1, hacc1, dacc1⟩
    obtain ⟨v1, v2, v3⟩ := wk1 j H5 (add O D) eB (liveD e15 ⟨_, hacc1⟩) hB
    rw [List.length_map] at v1 v3
    by_cases hlt1 : j < (bs a).length
    · refine .inr ⟨v1 hlt1, Pv1 (j + 1), fun H' p' => ⟨(bs a).length - (j + 1), by omega, rfl, hlt1, p'⟩, fun y H6 hy6 => ?_⟩
      obtain ⟨b, hb⟩ : ∃ b, (bs a)[j]? = some b := ⟨(bs a)[j], List.getElem?_eq_getElem hlt1⟩
      obtain ⟨e6, hy⟩ := v2 (gb b) (by rw [List.getElem?_map, hb]; rfl) y H6 hy6
      have hmb : b ∈ bs a := List.mem_of_getElem? hb
      have e16 := e15.trans e6
      have eB6 := eB.trans e6
      have h36 : Ex (hide (add O D) H3) (hide (add O D) H6) := (hide_ex e4).trans (hide_le eB6 hB)
      have rs5 := ((rsD e16).setVs (hxs.mono h36)).wipe vs1
      intro s H' C cl fp
      refine hg1 s H' C cl fp a b hmem hmb (add O D) H6 y _ hy _ fun zs hzs => ?_
      have rs6 := rs5.setVs hzs
      refine ⟨?_, ?_⟩
      · rw [wipe_setVs, wipe_wipe]
        intro p hp
        obtain ⟨u, hu', e⟩ := List.mem_map.mp (List.of_mem_zip hp).1
        rw [← e]; exact hu1 b u hu'
      intro s H' C cl fp
      refine he s H' C cl fp a b hmem hmb O0 (add O D) H6 _ (liveD e16 ⟨_, e6 _ _ hacc1⟩) rs6 _ fun v H7 e7 hv7 => ?_
      have hD7 := e7 _ _ (e6 _ _ hacc1)
      have l1 := dacc1.length
      have l2 := lenF (as.take i) fun x hx => List.mem_of_mem_take hx
      have l3 := hz1 a hmem
      have l4 : (res1 j).length = ((as.take i).flatMap fun a => (bs a).map (f a)).length + min j (bs a).length := by
        show (((as.take i).flatMap fun a => (bs a).map (f a)) ++ ((bs a).take j).map (f a)).length = _
        rw [List.length_append, List.length_map, List.length_take]
      rw [List.length_take] at l2
      refine ⟨acc1, hD7, by rw [sizeLine_eq]; omega, (e16.trans e7).mut' hD, ?_, acc1 ++ [v], upd_same, ?_⟩
      · exact (eB6.trans e7).mut' (hide_own add_self)
      · have : res1 (j + 1) = res1 j ++ [f a b] := by
          show res i ++ ((bs a).take (j + 1)).map (f a) = (res i ++ ((bs a).take j).map (f a)) ++ _
          rw [List.take_succ, hb, List.map_append, List.append_assoc]; rfl
        rw [hide_upd add_self, this]
        exact (dacc1.mono (hide_ex (e6.trans e7))).append (.cons hv7 .nil)
    · have hjn : j = (bs a).length := by omega
      refine .inl ⟨v3 hjn, e15, acc1, hacc1, ?_⟩
      subst hjn
      have : res1 (bs a).length = res (i + 1) := by
        rw [hra]
        show res i ++ ((bs a).take (bs a).length).map (f a) = _
        rw [List.take_length]
      rw [← this]
      exact dacc1
  · have hin : i = as.length := by omega
    refine .inl ⟨w3 hin, ?_⟩
    subst hin
    have : res as.length = as.flatMap fun a => (bs a).map (f a) := by show (as.take as.length).flatMap _ = _; rw [List.take_length]
    rw [this] at dacc
    exact q D acc H2 hHD (e1.trans e2) hacc dacc
end
end K79

set_option Elab.async false
set_option linter.all false
set_option maxRecDepth 100000
set_option maxHeartbeats 4000000
/-! Halls; the modules halls and arcs -/
namespace K79
open PySem PySem.Spec PyProof.Rows L2
/-! ### halls -/
inductive Nm | cap | fill | wash
def Nm.s : Nm → Str | cap => "cap" | fill => "fill" | wash => "wash"
def Nm.beq : Nm → Nm → Bool | cap, cap => true | fill, fill => true | wash, wash => true | _, _ => false
abbrev Nm.d (n : Nm) : PyData := .str n.s
theorem Nm.dec (a b : Nm) : decide (a.s = b.s) = a.beq b := by cases a <;> cases b <;> decide
theorem Nm.beq_iff {a b : Nm} : a.beq b = true ↔ a = b := by cases a <;> cases b <;> simp [Nm.beq]
instance : DecidableEq Nm := fun a b => if h : a.beq b = true then isTrue (Nm.beq_iff.mp h) else isFalse fun e => h (Nm.beq_iff.mpr e)
structure Mach where
  nm : Nm
  t : Nat
  ps : List (Nat × Nat)
structure Belt where
  a : Nm
  b : Nm
  room : Nat
  first : Nat
structure Hall where
  ms : List Mach
  bs : List Belt
abbrev iD (n : Nat) : PyData := .int (n : Int)
def purD (p : Nat × Nat) : PyData := .tuple [iD p.1, iD p.2]
def Mach.d (m : Mach) : PyData := .tuple [m.nm.d, iD m.t, .tuple (m.ps.map purD)]
def Belt.d (b : Belt) : PyData := .tuple [b.a.d, b.b.d, iD b.room, iD b.first]
def Hall.d (h : Hall) : PyData := .tuple [.tuple (h.ms.map Mach.d), .tuple (h.bs.map Belt.d), Nm.fill.d]
inductive Arc | next (n : Nm) | down (i : Nat) | up (i : Nat)
def Arc.w : Arc → Str | next _ => "next" | down _ => "down" | up _ => "up"
def Arc.pl : Arc → PyData | next n => n.d | down i => iD i | up i => iD i
def Arc.d (a : Arc) : PyData := .tuple [.str a.w, a.pl]
def Hall.mach (h : Hall) (n : Nm) : Option Mach := h.ms.find? fun m => m.nm.beq n
def Hall.time (h : Hall) (n : Nm) : Nat := ((h.mach n).map (·.t)).getD 0
def Hall.purs (h : Hall) (n : Nm) : List (Nat × Nat) := ((h.mach n).map (·.ps)).getD []
def Hall.pace (h : Hall) : Nat := h.time .fill
def Hall.belt (h : Hall) (i : Nat) : Belt := h.bs.getD i ⟨.fill, .fill, 0, 0⟩
def Hall.start (h : Hall) : Arc → Nm | .next n => n | .down i => (h.belt i).a | .up i => (h.belt i).b
def Hall.fin (h : Hall) : Arc → Nm | .next n => n | .down i => (h.belt i).b | .up i => (h.belt i).a
def Hall.grow (h : Hall) : Arc → Nat | .next _ => 1 | .down i => (h.belt i).first | .up i => (h.belt i).room - (h.belt i).first
def Arc.ends : Arc → Bool | up _ => false | _ => true
def Hall.arcs (h : Hall) : List Arc := h.ms.map (fun m => .next m.nm) ++ (List.range h.bs.length).flatMap fun i => [.down i, .up i]
def Hall.arcsFrom (h : Hall) (n : Nm) : List Arc := h.arcs.filter fun a => (h.start a).beq n
def Arc.ok (h : Hall) : Arc → Prop | next _ => True | down i => i < h.bs.length | up i => i < h.bs.length
structure HOk (h : Hall) : Prop where
  ml : h.ms.length ≤ 4
  bl : h.bs.length ≤ 4
  fr : ∀ b ∈ h.bs, b.first ≤ b.room ∧ b.room ≤ 100
  tm : ∀ m ∈ h.ms, m.t ≤ 200 ∧ m.ps.length ≤ 1 ∧ ∀ p ∈ m.ps, p.1 ≤ 100 ∧ p.2 ≤ 1
  fi : (h.mach .fill).isSome = true
theorem belt_get {h : Hall} {i : Nat} (hi : i < h.bs.length) : (h.bs.map Belt.d)[i]? = some (h.belt i).d := by
  rw [List.getElem?_map, List.getElem?_eq_getElem hi]
  simp [Hall.belt, hi]
theorem belt_mem {h : Hall} {i : Nat} (hi : i < h.bs.length) : h.belt i ∈ h.bs := by
  simp [Hall.belt, hi]
theorem arcs_ok {h : Hall} {a : Arc} (ha : a ∈ h.arcs) : a.ok h := by
  rcases List.mem_append.mp ha with k | k
  · obtain ⟨m, _, e⟩ := List.mem_map.mp k
    subst e; trivial
  · obtain ⟨i, hi, k⟩ := List.mem_flatMap.mp k
    have := List.mem_range.mp hi
    rcases List.mem_cons.mp k with e | k
    · subst e; exact this
    · rcases List.mem_cons.mp k with e | k
      · subst e; exact this
      · cases k
section
variable {P : Program} {w : World} {K : PySem.W.Frag} {mg : Str → Option Value} {base : Heap}
def fn_names_of : List PyData → PyData → Prop := fun zs z_ => ∃ (h : Hall), zs = [h.d] ∧ z_ = .tuple (h.ms.map fun m => m.nm.d) ∧ HOk h
theorem p_names_of (M : Md mg) (D : Dn K mg d_names_of) : FD P w K mg base "names_of" 1 1 fn_names_of := by
  obtain ⟨⟨fd, F⟩, g⟩ := D
  refine fd_of (N := ["hall", "machine"]) (ps := ["hall"]) (st := s_names_of) (k := 0) M F ⟨rfl, rfl, rfl, by decide, rfl, by decide, by decide⟩ g (fun _ _ _ _ _ _ us hl => match us, hl with | [_], _ => rfl) (fun zs z_ ⟨_, e, _⟩ => by subst e; rfl) fun f cdv A outer s H E hr G zs z_ hfn => ?_
  obtain ⟨h, rfl, rfl, p1⟩ := hfn
  have hN : (["hall", "machine"] : List Str).Nodup := by decide
  refine sd_one (s_ret (ed_tupL G (el_new (en_lcm [("machine", 1)] (fun m : Mach => m.nm.d) (fun m => [(1, m.d)]) G hN (ei_tup (ed_ix (eq_t (ed_var 0 rfl)) ed_int rfl)) (blk_ok (by rfl)) (by have := p1.ml; omega) (fun d u hu => by simp at hu; simp [hu]) (fun s H C cl fp d hd => gd_name 1 hN) (fun s H C cl fp d hd => ed_ix (eq_t (ed_var 1 rfl)) ed_int rfl)))) rfl)
def fn_machine_of : List PyData → PyData → Prop := fun zs z_ => ∃ (h : Hall) (n : Nm) (m : Mach), zs = [h.d, n.d] ∧ z_ = m.d ∧ h.mach n = some m
theorem p_machine_of (M : Md mg) (D : Dn K mg d_machine_of) : FD P w K mg base "machine_of" 2 1 fn_machine_of := by
  obtain ⟨⟨fd, F⟩, g⟩ := D
  refine fd_of (N := ["hall", "name", "machine"]) (ps := ["hall", "name"]) (st := s_machine_of) (k := 0) M F ⟨rfl, rfl, rfl, by decide, rfl, by decide, by decide⟩ g (fun _ _ _ _ _ _ us hl => match us, hl with | [_, _], _ => rfl) (fun zs z_ ⟨_, _, _, e, _⟩ => by subst e; rfl) fun f cdv A outer s H E hr G zs z_ hfn => ?_
  obtain ⟨h, n, m, rfl, rfl, p1⟩ := hfn
  have hN : (["hall", "name", "machine"] : List Str).Nodup := by decide
  obtain ⟨hb, i0, hi0, e0, hlt⟩ := List.find?_eq_some_iff_getElem.mp p1
  refine sd_cons (s_forA (as := h.ms) (gd := Mach.d) G (ei_tup (ed_ix (eq_t (ed_var 0 rfl)) ed_int rfl)) (fun i ρ' => i ≤ i0 ∧ ρ' = [dD h.d, dD n.d, dZ]) ⟨Nat.zero_le _, rfl⟩ (fun i a ρ' ha ⟨hi, e⟩ => ?_) fun ρ' ⟨hle, e⟩ => ?_)
  · subst e
    refine ⟨_, gd_name 2 hN, sd_cons (s_if (u := a.nm.beq n) (et_cast (et_of (ed_eqS (ed_ix (eq_t (ed_var 2 rfl)) ed_int rfl) (ed_var 1 rfl))) (Nm.dec _ _)) (fun hu => sd_one (s_ret (ed_var 2 rfl) ?_)) fun hu => sd_nil (sd_end 2 ⟨?_, rfl⟩))⟩
    · obtain ⟨hi', ea⟩ := List.getElem?_eq_some_iff.mp ha
      rcases Nat.lt_or_eq_of_le hi with z | z
      · have := hlt i z
        rw [ea, hu] at this; cases this
      · subst z
        rw [← e0, ← ea]
    · rcases Nat.lt_or_eq_of_le hi with z | z
      · exact z
      · subst z
        obtain ⟨hi', ea⟩ := List.getElem?_eq_some_iff.mp ha
        rw [← e0, ea, hu] at hb; cases hb
  · omega
def fn_time_of : List PyData → PyData → Prop := fun zs z_ => ∃ (h : Hall) (n : Nm) (m : Mach), zs = [h.d, n.d] ∧ z_ = iD m.t ∧ h.mach n = some m
theorem p_time_of (M : Md mg) (D : Dn K mg d_time_of) (F_machine_of : FD P w K mg base "machine_of" 2 1 fn_machine_of) : FD P w K mg base "time_of" 2 2 fn_time_of := by
  obtain ⟨⟨fd, F⟩, g⟩ := D
  refine fd_of (N := ["hall", "name"]) (ps := ["hall", "name"]) (st := s_time_of) (k := 1) M F ⟨rfl, rfl, rfl, by decide, rfl, by decide, by decide⟩ g (fun _ _ _ _ _ _ us hl => match us, hl with | [_, _], _ => rfl) (fun zs z_ ⟨_, _, _, e, _⟩ => by subst e; rfl) fun f cdv A outer s H E hr G zs z_ hfn => ?_
  obtain ⟨h, n, m, rfl, rfl, p1⟩ := hfn
  have hN : (["hall", "name"] : List Str).Nodup := by decide
  exact sd_one (s_ret (ed_ix (eq_t (we_call F_machine_of hr (ea_cons (ed_var 0 rfl) (ea_cons (ed_var 1 rfl) ea_nil)) ⟨h, n, m, rfl, rfl, p1⟩)) ed_int rfl) rfl)
def fn_purses_of : List PyData → PyData → Prop := fun zs z_ => ∃ (h : Hall) (n : Nm) (m : Mach), zs = [h.d, n.d] ∧ z_ = .tuple (m.ps.map purD) ∧ h.mach n = some m
theorem p_purses_of (M : Md mg) (D : Dn K mg d_purses_of) (F_machine_of : FD P w K mg base "machine_of" 2 1 fn_machine_of) : FD P w K mg base "purses_of" 2 2 fn_purses_of := by
  obtain ⟨⟨fd, F⟩, g⟩ := D
  refine fd_of (N := ["hall", "name"]) (ps := ["hall", "name"]) (st := s_purses_of) (k := 1) M F ⟨rfl, rfl, rfl, by decide, rfl, by decide, by decide⟩ g (fun _ _ _ _ _ _ us hl => match us, hl with | [_, _], _ => rfl) (fun zs z_ ⟨_, _, _, e, _⟩ => by subst e; rfl) fun f cdv A outer s H E hr G zs z_ hfn => ?_
  obtain ⟨h, n, m, rfl, rfl, p1⟩ := hfn
  have hN : (["hall", "name"] : List Str).Nodup := by decide
  exact sd_one (s_ret (ed_ix (eq_t (we_call F_machine_of hr (ea_cons (ed_var 0 rfl) (ea_cons (ed_var 1 rfl) ea_nil)) ⟨h, n, m, rfl, rfl, p1⟩)) ed_int rfl) rfl)
def fn_pace_of : List PyData → PyData → Prop := fun zs z_ => ∃ (h : Hall), zs = [h.d] ∧ z_ = iD h.pace ∧ (h.mach .fill).isSome = true
theorem p_pace_of (M : Md mg) (D : Dn K mg d_pace_of) (F_time_of : FD P w K mg base "time_of" 2 2 fn_time_of) : FD P w K mg base "pace_of" 1 3 fn_pace_of := by
  obtain ⟨⟨fd, F⟩, g⟩ := D
  refine fd_of (N := ["hall"]) (ps := ["hall"]) (st := s_pace_of) (k := 2) M F ⟨rfl, rfl, rfl, by decide, rfl, by decide, by decide⟩ g (fun _ _ _ _ _ _ us hl => match us, hl with | [_], _ => rfl) (fun zs z_ ⟨_, e, _⟩ => by subst e; rfl) fun f cdv A outer s H E hr G zs z_ hfn => ?_
  obtain ⟨h, rfl, rfl, p1⟩ := hfn
  have hN : (["hall"] : List Str).Nodup := by decide
  obtain ⟨m, hm⟩ := Option.isSome_iff_exists.mp p1
  exact sd_one (s_ret (we_call F_time_of hr (ea_cons (ed_var 0 rfl) (ea_cons (ed_ix (eq_t (ed_var 0 rfl)) ed_int rfl) ea_nil)) ⟨h, .fill, m, rfl, by simp [Hall.pace, Hall.time, hm], hm⟩) rfl)
def fn_does_end : List PyData → PyData → Prop := fun zs z_ => ∃ (a : Arc), zs = [a.d] ∧ z_ = .bool a.ends
theorem p_does_end (M : Md mg) (D : Dn K mg d_does_end) : FD P w K mg base "does_end" 1 1 fn_does_end := by
  obtain ⟨⟨fd, F⟩, g⟩ := D
  refine fd_of (N := ["arc"]) (ps := ["arc"]) (st := s_does_end) (k := 0) M F ⟨rfl, rfl, rfl, by decide, rfl, by decide, by decide⟩ g (fun _ _ _ _ _ _ us hl => match us, hl with | [_], _ => rfl) (fun zs z_ ⟨_, e, _⟩ => by subst e; rfl) fun f cdv A outer s H E hr G zs z_ hfn => ?_
  obtain ⟨a, rfl, rfl⟩ := hfn
  have hN : (["arc"] : List Str).Nodup := by decide
  exact sd_one (s_ret (ed_c (by cases a <;> rfl) (ed_neS (x := a.w) (ed_ix (eq_t (ed_var 0 rfl)) ed_int rfl) ed_str)) rfl)
end
end K79


set_option Elab.async false
set_option linter.all false
set_option maxRecDepth 100000
set_option maxHeartbeats 4000000
/-! the module arcs -/
namespace K79
open PySem PySem.Spec PyProof.Rows L2
theorem foldl_flat {α β : Type} (g : α → List β) : ∀ (l : List α) (b : List β), l.foldl (fun acc i => acc ++ g i) b = b ++ l.flatMap g
  | [], b => by simp
  | a :: l, b => by rw [List.foldl_cons, foldl_flat g l, List.flatMap_cons, List.append_assoc]
theorem pre_len {α : Type} {pre as : List α} {a : α} (h : (pre ++ [a]) <+: as) : pre.length < as.length := by
  obtain ⟨t, e⟩ := h
  rw [← e]; simp
theorem ei_rangeN {X : Cx} {tg a : Expr} {ρ : Env} {n : Nat} {pos p : Pos} (G : Gd X) (ha : ED X a ρ (iD n)) (hn : n < 1000000) (hg : Gl X "range" := by rfl) (hs : starEach [a] X.env = [(false, eval a X.env)] := by exact star_of rfl) (hs2 : starEach [a] X.env = (false, eval a X.env) :: starEach [] X.env := by exact star_of rfl) :
    EI X tg (.Call (.Name "range" p) [a] [] pos) ρ ((List.range n).map fun i => iD i) := by
  have z := ei_range (tg := tg) (pos := pos) (p := p) G ha (by omega) (by omega) hg hs hs2
  rwa [Int.toNat_natCast] at z
section
variable {P : Program} {w : World} {K : PySem.W.Frag} {mg : Str → Option Value} {base : Heap}
def fn_arcs_of : List PyData → PyData → Prop := fun zs z_ => ∃ (h : Hall), zs = [h.d] ∧ z_ = .tuple (h.arcs.map Arc.d) ∧ HOk h
theorem p_arcs_of (M : Md mg) (D : Dn K mg d_arcs_of) (F_names_of : FD P w K mg base "names_of" 1 1 fn_names_of) : FD P w K mg base "arcs_of" 1 2 fn_arcs_of := by
  obtain ⟨⟨fd, F⟩, g⟩ := D
  refine fd_of (N := ["hall", "found", "index", "name"]) (ps := ["hall"]) (st := s_arcs_of) (k := 1) M F ⟨rfl, rfl, rfl, by decide, rfl, by decide, by decide⟩ g (fun _ _ _ _ _ _ us hl => match us, hl with | [_], _ => rfl) (fun zs z_ ⟨_, e, _⟩ => by subst e; rfl) fun f cdv A outer s H E hr G zs z_ hfn => ?_
  obtain ⟨h, rfl, rfl, p1⟩ := hfn
  have hN : (["hall", "found", "index", "name"] : List Str).Nodup := by decide
  have hm := p1.ml
  have hb := p1.bl
  refine sd_cons (s_setLcm [("name", 3)] 1 (fun m : Mach => (Arc.next m.nm).d) (fun m => [(3, m.nm.d)]) G hN (ei_tup (we_call F_names_of (room_le hr) (ea_cons (ed_var 0 rfl) ea_nil) ⟨h, rfl, rfl, p1⟩)) (blk_ok rfl) (by omega) (fun d u hu => by simp at hu; simp [hu]) (fun s H C cl fp d hd => gd_name 3 hN) (fun s H C cl fp d hd => (ed_tup (ea_cons ed_str (ea_cons (ed_var 3 rfl) ea_nil)) (Nat.le_of_ble_eq_true rfl))) ?_ (sw_true rfl rfl rfl rfl))
  refine sd_cons (s_forF (as := List.range h.bs.length) (gd := fun i => iD i) (b0 := h.ms.map fun m => Arc.next m.nm) (f := fun acc i => acc ++ [Arc.down i, Arc.up i]) (en := fun l => [dD h.d, dL (l.map Arc.d), dZ, dZ]) G (ei_rangeN G (ed_c (by simp) (ed_len G (eq_t (ed_ix (eq_t (ed_var 0 rfl)) ed_int rfl)))) (by omega)) ?_ (fun pre i hp => ⟨_, gd_name 2 hN, ?_⟩) ?_)
  · show [dD h.d, dL _, dZ, dZ] = _
    rw [List.map_map]; rfl
  · refine sd_cons (s_extend 1 rfl (en_lst (ea_cons (ed_tup (ea_cons ed_str (ea_cons (ed_var 2 rfl) ea_nil)) (Nat.le_of_ble_eq_true rfl)) (ea_cons (ed_tup (ea_cons ed_str (ea_cons (ed_var 2 rfl) ea_nil)) (Nat.le_of_ble_eq_true rfl)) ea_nil)) (Nat.le_of_ble_eq_true rfl)) ?_ (sd_end 2 ?_))
    · have h1 := pre_len hp
      rw [foldl_flat]
      simp at h1 ⊢
      have : (pre.map fun _ => 2).sum = 2 * pre.length := by simp [List.map_const', List.sum_replicate_nat, Nat.mul_comm]
      simp [this]
      omega
    · show [dD h.d, dL (_ ++ _), dZ, dZ] = _
      rw [List.map_append]; rfl
  · refine sd_one (s_ret (ed_tupL G (el_own 1 rfl)) ?_)
    rw [foldl_flat]; rfl
def fn_start_of : List PyData → PyData → Prop := fun zs z_ => ∃ (h : Hall) (a : Arc), zs = [h.d, a.d] ∧ z_ = (h.start a).d ∧ a.ok h
theorem p_start_of (M : Md mg) (D : Dn K mg d_start_of) : FD P w K mg base "start_of" 2 1 fn_start_of := by
  obtain ⟨⟨fd, F⟩, g⟩ := D
  refine fd_of (N := ["hall", "arc", "word", "place"]) (ps := ["hall", "arc"]) (st := s_start_of) (k := 0) M F ⟨rfl, rfl, rfl, by decide, rfl, by decide, by decide⟩ g (fun _ _ _ _ _ _ us hl => match us, hl with | [_, _], _ => rfl) (fun zs z_ ⟨_, _, e, _⟩ => by subst e; rfl) fun f cdv A outer s H E hr G zs z_ hfn => ?_
  obtain ⟨h, a, rfl, rfl, p1⟩ := hfn
  have hN : (["hall", "arc", "word", "place"] : List Str).Nodup := by decide
  refine sd_cons (s_asg (ed_var 1 rfl) (gt_of (gd_tup G.calm (gds_cons (gd_name 2 hN) (gds_cons (gd_name 3 hN) gds_nil)) rfl)) ?_)
  cases a with
  | next n => exact sd_cons (s_if (u := true) (et_cast (et_of (ed_eqS (x := "next") (ed_var 2 rfl) ed_str)) (by decide)) (fun _ => sd_one (s_ret (ed_var 3 rfl) rfl)) (fun h => by cases h))
  | down i =>
    refine sd_cons (s_if (u := false) (et_cast (et_of (ed_eqS (x := "down") (ed_var 2 rfl) ed_str)) (by decide)) (fun h => by cases h) fun _ => sd_nil (sd_one (s_ret (ed_ix (eq_t (ed_ix (eq_t (ed_ix (eq_t (ed_var 0 rfl)) ed_int rfl)) (i := (i : Int)) (ed_var 3 rfl) (atI_nat (belt_get p1)))) (i := 0) ?_ rfl) rfl)))
    exact ed_if (u := true) (et_cast (et_of (ed_eqS (x := "down") (ed_var 2 rfl) ed_str)) (by decide)) (fun _ => ed_int) (fun h => by cases h)
  | up i =>
    refine sd_cons (s_if (u := false) (et_cast (et_of (ed_eqS (x := "up") (ed_var 2 rfl) ed_str)) (by decide)) (fun h => by cases h) fun _ => sd_nil (sd_one (s_ret (ed_ix (eq_t (ed_ix (eq_t (ed_ix (eq_t (ed_var 0 rfl)) ed_int rfl)) (i := (i : Int)) (ed_var 3 rfl) (atI_nat (belt_get p1)))) (i := 1) ?_ rfl) rfl)))
    exact ed_if (u := false) (et_cast (et_of (ed_eqS (x := "up") (ed_var 2 rfl) ed_str)) (by decide)) (fun h => by cases h) (fun _ => ed_int)
def fn_end_of : List PyData → PyData → Prop := fun zs z_ => ∃ (h : Hall) (a : Arc), zs = [h.d, a.d] ∧ z_ = (h.fin a).d ∧ a.ok h
theorem p_end_of (M : Md mg) (D : Dn K mg d_end_of) : FD P w K mg base "end_of" 2 1 fn_end_of := by
  obtain ⟨⟨fd, F⟩, g⟩ := D
  refine fd_of (N := ["hall", "arc", "word", "place"]) (ps := ["hall", "arc"]) (st := s_end_of) (k := 0) M F ⟨rfl, rfl, rfl, by decide, rfl, by decide, by decide⟩ g (fun _ _ _ _ _ _ us hl => match us, hl with | [_, _], _ => rfl) (fun zs z_ ⟨_, _, e, _⟩ => by subst e; rfl) fun f cdv A outer s H E hr G zs z_ hfn => ?_
  obtain ⟨h, a, rfl, rfl, p1⟩ := hfn
  have hN : (["hall", "arc", "word", "place"] : List Str).Nodup := by decide
  refine sd_cons (s_asg (ed_var 1 rfl) (gt_of (gd_tup G.calm (gds_cons (gd_name 2 hN) (gds_cons (gd_name 3 hN) gds_nil)) rfl)) ?_)
  cases a with
  | next n => exact sd_cons (s_if (u := true) (et_cast (et_of (ed_eqS (x := "next") (ed_var 2 rfl) ed_str)) (by decide)) (fun _ => sd_one (s_ret (ed_var 3 rfl) rfl)) (fun h => by cases h))
  | down i =>
    refine sd_cons (s_if (u := false) (et_cast (et_of (ed_eqS (x := "down") (ed_var 2 rfl) ed_str)) (by decide)) (fun h => by cases h) fun _ => sd_nil (sd_one (s_ret (ed_ix (eq_t (ed_ix (eq_t (ed_ix (eq_t (ed_var 0 rfl)) ed_int rfl)) (i := (i : Int)) (ed_var 3 rfl) (atI_nat (belt_get p1)))) (i := 1) ?_ rfl) rfl)))
    exact ed_if (u := true) (et_cast (et_of (ed_eqS (x := "down") (ed_var 2 rfl) ed_str)) (by decide)) (fun _ => ed_int) (fun h => by cases h)
  | up i =>
    refine sd_cons (s_if (u := false) (et_cast (et_of (ed_eqS (x := "up") (ed_var 2 rfl) ed_str)) (by decide)) (fun h => by cases h) fun _ => sd_nil (sd_one (s_ret (ed_ix (eq_t (ed_ix (eq_t (ed_ix (eq_t (ed_var 0 rfl)) ed_int rfl)) (i := (i : Int)) (ed_var 3 rfl) (atI_nat (belt_get p1)))) (i := 0) ?_ rfl) rfl)))
    exact ed_if (u := false) (et_cast (et_of (ed_eqS (x := "up") (ed_var 2 rfl) ed_str)) (by decide)) (fun h => by cases h) (fun _ => ed_int)
def fn_growth_of : List PyData → PyData → Prop := fun zs z_ => ∃ (h : Hall) (a : Arc), zs = [h.d, a.d] ∧ z_ = iD (h.grow a) ∧ HOk h ∧ a.ok h
theorem p_growth_of (M : Md mg) (D : Dn K mg d_growth_of) : FD P w K mg base "growth_of" 2 1 fn_growth_of := by
  obtain ⟨⟨fd, F⟩, g⟩ := D
  refine fd_of (N := ["hall", "arc", "word", "place", "start", "end", "room", "first"]) (ps := ["hall", "arc"]) (st := s_growth_of) (k := 0) M F ⟨rfl, rfl, rfl, by decide, rfl, by decide, by decide⟩ g (fun _ _ _ _ _ _ us hl => match us, hl with | [_, _], _ => rfl) (fun zs z_ ⟨_, _, e, _⟩ => by subst e; rfl) fun f cdv A outer s H E hr G zs z_ hfn => ?_
  obtain ⟨h, a, rfl, rfl, p1, p2⟩ := hfn
  have hN : (["hall", "arc", "word", "place", "start", "end", "room", "first"] : List Str).Nodup := by decide
  refine sd_cons (s_asg (ed_var 1 rfl) (gt_of (gd_tup G.calm (gds_cons (gd_name 2 hN) (gds_cons (gd_name 3 hN) gds_nil)) rfl)) ?_)
  have b4 : ∀ {X : Cx} (hc : X.calm = true) (i : Nat) (_ : i = i), True := fun _ _ _ => trivial
  cases a with
  | next n => exact sd_cons (s_if (u := true) (et_cast (et_of (ed_eqS (x := "next") (ed_var 2 rfl) ed_str)) (by decide)) (fun _ => sd_one (s_ret ed_int rfl)) (fun h => by cases h))
  | down i =>
    refine sd_cons (s_if (u := false) (et_cast (et_of (ed_eqS (x := "down") (ed_var 2 rfl) ed_str)) (by decide)) (fun h => by cases h) fun _ => sd_nil (sd_cons (s_asg (ed_ix (eq_t (ed_ix (eq_t (ed_var 0 rfl)) ed_int rfl)) (i := (i : Int)) (ed_var 3 rfl) (atI_nat (belt_get p2))) (gt_of (gd_tup G.calm (gds_cons (gd_name 4 hN) (gds_cons (gd_name 5 hN) (gds_cons (gd_name 6 hN) (gds_cons (gd_name 7 hN) gds_nil)))) rfl)) ?_)))
    exact sd_one (s_ret (ed_if (u := true) (et_cast (et_of (ed_eqS (x := "down") (ed_var 2 rfl) ed_str)) (by decide)) (fun _ => (ed_var 7 rfl)) (fun h => by cases h)) rfl)
  | up i =>
    have hf := (p1.fr _ (belt_mem p2)).1
    refine sd_cons (s_if (u := false) (et_cast (et_of (ed_eqS (x := "up") (ed_var 2 rfl) ed_str)) (by decide)) (fun h => by cases h) fun _ => sd_nil (sd_cons (s_asg (ed_ix (eq_t (ed_ix (eq_t (ed_var 0 rfl)) ed_int rfl)) (i := (i : Int)) (ed_var 3 rfl) (atI_nat (belt_get p2))) (gt_of (gd_tup G.calm (gds_cons (gd_name 4 hN) (gds_cons (gd_name 5 hN) (gds_cons (gd_name 6 hN) (gds_cons (gd_name 7 hN) gds_nil)))) rfl)) ?_)))
    refine sd_one (s_ret (ed_if (u := false) (et_cast (et_of (ed_eqS (x := "up") (ed_var 2 rfl) ed_str)) (by decide)) (fun h => by cases h) (fun _ => ed_sub (ed_var 6 rfl) (ed_var 7 rfl))) ?_)
    show PyData.int _ = PyData.int _
    congr 1
    show (((h.belt i).room : Int) - ((h.belt i).first : Int)) = (((h.belt i).room - (h.belt i).first : Nat) : Int)
    omega
def fn_arcs_from : List PyData → PyData → Prop := fun zs z_ => ∃ (h : Hall) (n : Nm), zs = [h.d, n.d] ∧ z_ = .tuple ((h.arcsFrom n).map Arc.d) ∧ HOk h
theorem p_arcs_from (M : Md mg) (D : Dn K mg d_arcs_from) (F_arcs_of : FD P w K mg base "arcs_of" 1 2 fn_arcs_of) (F_start_of : FD P w K mg base "start_of" 2 1 fn_start_of) : FD P w K mg base "arcs_from" 2 3 fn_arcs_from := by
  obtain ⟨⟨fd, F⟩, g⟩ := D
  refine fd_of (N := ["hall", "name", "arc"]) (ps := ["hall", "name"]) (st := s_arcs_from) (k := 2) M F ⟨rfl, rfl, rfl, by decide, rfl, by decide, by decide⟩ g (fun _ _ _ _ _ _ us hl => match us, hl with | [_, _], _ => rfl) (fun zs z_ ⟨_, _, e, _⟩ => by subst e; rfl) fun f cdv A outer s H E hr G zs z_ hfn => ?_
  obtain ⟨h, n, rfl, rfl, p1⟩ := hfn
  have hN : (["hall", "name", "arc"] : List Str).Nodup := by decide
  refine sd_one (s_ret (ed_tupL G (el_new (en_lcf [("arc", 2)] (fun a : Arc => (h.start a).beq n) Arc.d (fun a => [(2, a.d)]) G hN (ei_tup (we_call F_arcs_of (room_le hr) (ea_cons (ed_var 0 rfl) ea_nil) ⟨h, rfl, rfl, p1⟩)) (blk_ok rfl) ?_ (fun d u hu => by simp at hu; simp [hu]) (fun s H C cl fp d hd => gd_name 2 hN) (fun s H C cl fp d hd => ets_one (et_cast (et_of (ed_eqS (we_call F_start_of (room_le hr) (ea_cons (ed_var 0 rfl) (ea_cons (ed_var 2 rfl) ea_nil)) ⟨h, d, rfl, rfl, arcs_ok hd⟩) (ed_var 1 rfl))) (Nm.dec _ _))) (fun s H C cl fp d hd _ => (ed_var 2 rfl))))) rfl)
  have hm := p1.ml
  have hb := p1.bl
  have : ((List.range h.bs.length).map fun _ => 2).sum = 2 * h.bs.length := by simp [List.map_const', List.sum_replicate_nat, Nat.mul_comm]
  simp [Hall.arcs, List.length_flatMap, this]
  omega
end
end K79


set_option Elab.async false
set_option linter.all false
set_option maxRecDepth 100000
set_option maxHeartbeats 4000000
/-! the modules forms and walks -/
namespace K79
open PySem PySem.Spec PyProof.Rows L2
theorem k_tt : kitB "tuple" "tuple" = some true := by decide +kernel
theorem k_ss : kitB "str" "str" = some true := by decide +kernel
theorem k_ii : kitB "int" "int" = some true := by decide +kernel
theorem k_ib : kitB "int" "bool" = some false := by decide +kernel
theorem b_tuple : bootBuiltins "tuple" = some (.type "tuple") := by decide +kernel
theorem b_str : bootBuiltins "str" = some (.type "str") := by decide +kernel
theorem b_int : bootBuiltins "int" = some (.type "int") := by decide +kernel
theorem b_bool : bootBuiltins "bool" = some (.type "bool") := by decide +kernel
theorem b_dict : bootBuiltins "dict" = some (.type "dict") := by decide +kernel
/-! plain, not deep -/
theorem plainAll_map {α : Type} {g : α → PyData} (h : ∀ a, (g a).plain = true) : ∀ l : List α, PyData.plainAll (l.map g) = true
  | [] => rfl
  | a :: l => by
    rw [List.map_cons]
    show ((g a).plain && PyData.plainAll (l.map g)) = true
    rw [h a, plainAll_map h l]; rfl
theorem depthAll_map {α : Type} {g : α → PyData} {k : Nat} (h : ∀ a, (g a).depth ≤ k) : ∀ l : List α, PyData.depthAll (l.map g) ≤ k
  | [] => Nat.zero_le _
  | a :: l => by
    rw [List.map_cons]
    show max (g a).depth (PyData.depthAll (l.map g)) ≤ k
    have := h a
    have := depthAll_map h l
    omega
theorem Arc.flat (a : Arc) : a.d.plain = true ∧ a.d.depth ≤ 1 := by cases a <;> exact ⟨rfl, Nat.le_refl _⟩
theorem eqb_arcs (l : List Arc) : Eqb (.tuple (l.map Arc.d)) := by
  refine ⟨plainAll_map (fun a => (Arc.flat a).1) l, ?_⟩
  show PyData.depthAll _ + 1 ≤ 60
  have := depthAll_map (fun a => (Arc.flat a).2) l
  omega
theorem eqb_str (x : Str) : Eqb (.str x) := ⟨rfl, Nat.zero_le _⟩
theorem eqb_nil : Eqb (.tuple []) := ⟨rfl, by decide⟩
theorem eqv_str (x y : Str) : PyData.eqv (.str x) (.str y) = decide (x = y) := by
  by_cases h : x = y
  · subst h; simp [PyData.eqv]
  · simp [PyData.eqv, h]
theorem any_nm (h : Hall) (n : Nm) : (h.ms.map fun m => m.nm.d).any (fun z => PyData.eqv z n.d) = (h.mach n).isSome := by
  unfold Hall.mach
  induction h.ms with
  | nil => rfl
  | cons m l ih =>
    rw [List.map_cons, List.any_cons, List.find?_cons, ih]
    show ((PyData.eqv (.str m.nm.s) (.str n.s)) || _) = _
    rw [eqv_str, Nm.dec]
    cases m.nm.beq n <;> rfl
def Hall.at_ (h : Hall) (n : Nm) (pre : List Arc) : Nm := pre.foldl (fun _ a => h.fin a) n
/-- each arc begins where the one ahead ended -/
structure Way (h : Hall) (n : Nm) (as : List Arc) : Prop where
  nm : (h.mach n).isSome = true
  ok : ∀ a ∈ as, a.ok h
  kn : ∀ m, Arc.next m ∈ as → (h.mach m).isSome = true
  ch : ∀ pre a, (pre ++ [a]) <+: as → h.start a = h.at_ n pre
  ln : as.length ≤ 100000
def wayD (n : Nm) (as : List Arc) : PyData := .tuple [n.d, .tuple (as.map Arc.d)]
def Hall.idx (h : Hall) (as : List Arc) : List Nat × Nat := as.foldl (fun p a => (p.1 ++ [p.2], p.2 + h.grow a)) ([], 0)
theorem idx_len (h : Hall) : ∀ (as : List Arc) (p : List Nat × Nat), (as.foldl (fun p a => (p.1 ++ [p.2], p.2 + h.grow a)) p).1.length = p.1.length + as.length
  | [], p => rfl
  | a :: as, p => by
    rw [List.foldl_cons, idx_len h as, List.length_append, List.length_cons]
    simp; omega
theorem cutD_init (xs : List PyData) (x : PyData) : cutD (xs ++ [x]) none (some (-1)) = xs := by
  have e : HT.sIx (xs ++ [x]).length (xs ++ [x]).length (some (-1)) = xs.length := by simp [HT.sIx]; try omega
  have e0 : HT.sIx (xs ++ [x]).length 0 none = 0 := rfl
  unfold cutD
  rw [e, e0]; simp
def letters : Str := "abcdefghijklmnopqrstuvwxyz"
section
variable {P : Program} {w : World} {K : PySem.W.Frag} {mg : Str → Option Value} {base : Heap}
def fn_is_integer : List PyData → PyData → Prop := fun zs z_ => ∃ (i : Int), zs = [.int i] ∧ z_ = .bool true
theorem p_is_integer (M : Md mg) (D : Dn K mg d_is_integer) : FD P w K mg base "is_integer" 1 1 fn_is_integer := by
  obtain ⟨⟨fd, F⟩, g⟩ := D
  refine fd_of (N := ["thing"]) (ps := ["thing"]) (st := s_is_integer) (k := 0) M F ⟨rfl, rfl, rfl, by decide, rfl, by decide, by decide⟩ g (fun _ _ _ _ _ _ us hl => match us, hl with | [_], _ => rfl) (fun zs z_ ⟨_, e, _⟩ => by subst e; rfl) fun f cdv A outer s H E hr G zs z_ hfn => ?_
  obtain ⟨i, rfl, rfl⟩ := hfn
  have hN : (["thing"] : List Str).Nodup := by decide
  exact sd_one (s_ret (ed_and (ed_isi (Ts := "int") (r := true) G (ed_var 0 rfl) rfl k_ii G.int b_int) fun _ => ed_one (ed_not (ed_isi (Ts := "bool") (r := false) G (ed_var 0 rfl) rfl k_ib G.bool b_bool))) rfl)
def fn_is_count : List PyData → PyData → Prop := fun zs z_ => ∃ (i : Int), zs = [.int i] ∧ z_ = .bool (decide (0 ≤ i))
theorem p_is_count (M : Md mg) (D : Dn K mg d_is_count) (F_is_integer : FD P w K mg base "is_integer" 1 1 fn_is_integer) : FD P w K mg base "is_count" 1 2 fn_is_count := by
  obtain ⟨⟨fd, F⟩, g⟩ := D
  refine fd_of (N := ["thing"]) (ps := ["thing"]) (st := s_is_count) (k := 1) M F ⟨rfl, rfl, rfl, by decide, rfl, by decide, by decide⟩ g (fun _ _ _ _ _ _ us hl => match us, hl with | [_], _ => rfl) (fun zs z_ ⟨_, e, _⟩ => by subst e; rfl) fun f cdv A outer s H E hr G zs z_ hfn => ?_
  obtain ⟨i, rfl, rfl⟩ := hfn
  have hN : (["thing"] : List Str).Nodup := by decide
  exact sd_one (s_ret (ed_and (we_call F_is_integer (room_le hr) (ea_cons (ed_var 0 rfl) ea_nil) ⟨i, rfl, rfl⟩) fun _ => ed_one (ed_ge (ed_var 0 rfl) ed_int)) (by simp))
def fn_is_row_forms : List PyData → PyData → Prop := fun zs z_ => ∃ (ds : List PyData) (n : Nat), zs = [.tuple ds, iD n] ∧ z_ = .bool (decide (ds.length = n))
theorem p_is_row_forms (M : Md mg) (D : Dn K mg d_is_row_forms) : FD P w K mg base "is_row_forms" 2 1 fn_is_row_forms := by
  obtain ⟨⟨fd, F⟩, g⟩ := D
  refine fd_of (N := ["thing", "many"]) (ps := ["thing", "many"]) (st := s_is_row_forms) (k := 0) M F ⟨rfl, rfl, rfl, by decide, rfl, by decide, by decide⟩ g (fun _ _ _ _ _ _ us hl => match us, hl with | [_, _], _ => rfl) (fun zs z_ ⟨_, _, e, _⟩ => by subst e; rfl) fun f cdv A outer s H E hr G zs z_ hfn => ?_
  obtain ⟨ds, n, rfl, rfl⟩ := hfn
  have hN : (["thing", "many"] : List Str).Nodup := by decide
  exact sd_one (s_ret (ed_and (ed_isi (Ts := "tuple") (r := true) G (ed_var 0 rfl) rfl k_tt G.tuple b_tuple) fun _ => ed_one (ed_eqI (ed_len G (eq_t (ed_var 0 rfl))) (ed_var 1 rfl))) (congrArg PyData.bool (by rw [Bool.true_and]; exact decide_eq_decide.mpr (by omega))))
def fn_is_name : List PyData → PyData → Prop := fun zs z_ => ∃ (n : Nm), zs = [n.d] ∧ z_ = .bool true
theorem p_is_name (M : Md mg) (D : Dn K mg d_is_name) : FD P w K mg base "is_name" 1 1 fn_is_name := by
  obtain ⟨⟨fd, F⟩, g⟩ := D
  refine fd_of (N := ["thing", "letter"]) (ps := ["thing"]) (st := s_is_name) (k := 0) M F ⟨rfl, rfl, rfl, by decide, rfl, by decide, by decide⟩ g (fun _ _ _ _ _ _ us hl => match us, hl with | [_], _ => rfl) (fun zs z_ ⟨_, e, _⟩ => by subst e; rfl) fun f cdv A outer s H E hr G zs z_ hfn => ?_
  obtain ⟨n, rfl, rfl⟩ := hfn
  have hN : (["thing", "letter"] : List Str).Nodup := by decide
  obtain ⟨u, hu, ru⟩ := M.letters
  refine sd_one (s_ret (ed_and (ed_isi (Ts := "str") (r := true) G (ed_var 0 rfl) rfl k_ss G.str b_str) fun _ => ed_and (ed_leLe ed_int (ed_lenS G (ed_var 0 rfl) (by cases n <;> decide)) ed_int) fun _ => ed_one (ed_all G (bs := n.s.cps.toList.map fun c => decide (c ∈ letters.cps.toList)) (el_new (en_c (by rw [List.map_map]; rfl) (en_lcm [("letter", 1)] (fun c => .bool (decide (c ∈ letters.cps.toList))) (fun c => [(1, .str ⟨#[c]⟩)]) G hN (ei_str (ed_var 0 rfl)) (blk_ok rfl) (by cases n <;> decide) (fun d u hu => by simp at hu; simp [hu]) (fun s H C cl fp d hd => gd_name 1 hN) (fun s H C cl fp d hd => ed_sign (ed_var 1 rfl) (ed_gstr (by rfl) hu ru))))))) ?_)
  refine congrArg PyData.bool ?_
  cases n <;> decide
def fn_is_arc : List PyData → PyData → Prop := fun zs z_ => ∃ (h : Hall) (a : Arc), zs = [h.d, a.d] ∧ z_ = .bool true ∧ HOk h ∧ a.ok h ∧ (∀ m, a = .next m → (h.mach m).isSome = true)
theorem p_is_arc (M : Md mg) (D : Dn K mg d_is_arc) (F_is_row_forms : FD P w K mg base "is_row_forms" 2 1 fn_is_row_forms) (F_is_name : FD P w K mg base "is_name" 1 1 fn_is_name) (F_is_count : FD P w K mg base "is_count" 1 2 fn_is_count) : FD P w K mg base "is_arc" 2 3 fn_is_arc := by
  obtain ⟨⟨fd, F⟩, g⟩ := D
  refine fd_of (N := ["hall", "thing", "machine"]) (ps := ["hall", "thing"]) (st := s_is_arc) (k := 2) M F ⟨rfl, rfl, rfl, by decide, rfl, by decide, by decide⟩ g (fun _ _ _ _ _ _ us hl => match us, hl with | [_, _], _ => rfl) (fun zs z_ ⟨_, _, e, _⟩ => by subst e; rfl) fun f cdv A outer s H E hr G zs z_ hfn => ?_
  obtain ⟨h, a, rfl, rfl, p1, p2, p3⟩ := hfn
  have hN : (["hall", "thing", "machine"] : List Str).Nodup := by decide
  refine sd_cons (s_if (u := false) (et_cast (et_w (ew_or (et_not (et_val (we_call F_is_row_forms (room_le hr) (ea_cons (ed_var 1 rfl) (ea_cons ed_int ea_nil)) ⟨_, 2, rfl, rfl⟩))) fun _ => ew_or1 (et_not (et_val (ed_isi (Ts := "str") (r := true) G (ed_ix (eq_t (ed_var 1 rfl)) ed_int rfl) rfl k_ss G.str b_str))))) rfl) (fun h => by cases h) fun _ => sd_nil ?_)
  cases a with
  | next m =>
    refine sd_cons (s_if (u := true) (et_cast (et_of (ed_eqS (x := "next") (ed_ix (eq_t (ed_var 1 rfl)) ed_int rfl) ed_str)) (by decide)) (fun _ => sd_one (s_ret (ed_and (we_call F_is_name (room_le hr) (ea_cons (ed_ix (eq_t (ed_var 1 rfl)) ed_int rfl) ea_nil) ⟨m, rfl, rfl⟩) fun _ => ed_one (ed_any G (bs := h.ms.map fun k => k.nm.beq m) (el_new (en_c (by rw [List.map_map]; rfl) (en_lcm [("machine", 2)] (fun k : Mach => .bool (k.nm.beq m)) (fun k => [(2, k.d)]) G hN (ei_tup (ed_ix (eq_t (ed_var 0 rfl)) ed_int rfl)) (blk_ok rfl) (by have := p1.ml; omega) (fun d u hu => by simp at hu; simp [hu]) (fun s H C cl fp d hd => gd_name 2 hN) (fun s H C cl fp d hd => ed_c (congrArg PyData.bool (Nm.dec _ _)) (ed_eqS (x := d.nm.s) (y := m.s) (ed_ix (eq_t (ed_var 2 rfl)) ed_int rfl) (ed_ix (eq_t (ed_var 1 rfl)) ed_int rfl)))))))) ?_)) fun h => by cases h)
    have := p3 m rfl
    rw [Hall.mach, List.find?_isSome] at this
    simpa using this
  | down i =>
    have hi : i < h.bs.length := p2
    refine sd_cons (s_if (u := false) (et_cast (et_of (ed_eqS (x := "down") (ed_ix (eq_t (ed_var 1 rfl)) ed_int rfl) ed_str)) (by decide)) (fun h => by cases h) fun _ => sd_nil (sd_one (s_ret (ed_and (ed_in G (ef_ed (ed_ix (eq_t (ed_var 1 rfl)) ed_int rfl)) (eq_t (ed_tup (ea_cons ed_str (ea_cons ed_str ea_nil)) (Nat.le_of_ble_eq_true rfl))) (eqb_str "down") rfl) fun _ => ed_and (we_call F_is_count (room_le hr) (ea_cons (ed_ix (eq_t (ed_var 1 rfl)) ed_int rfl) ea_nil) ⟨(i : Int), rfl, rfl⟩) fun _ => ed_one (ed_lt (i := (i : Int)) (ed_ix (eq_t (ed_var 1 rfl)) ed_int rfl) (ed_len G (eq_t (ed_ix (eq_t (ed_var 0 rfl)) ed_int rfl))))) (congrArg PyData.bool ?_))))
    have e1 : decide (0 ≤ (i : Int)) = true := decide_eq_true (by omega)
    have e2 : decide ((i : Int) < ((h.bs.map Belt.d).length : Int)) = true := decide_eq_true (by rw [List.length_map]; omega)
    have e3 : ([PyData.str "down", PyData.str "up"].any fun z => PyData.eqv z (.str (Arc.down i).w)) = true := by simp [eqv_str, Arc.w]
    rw [e1, e2, e3]; rfl
  | up i =>
    have hi : i < h.bs.length := p2
    refine sd_cons (s_if (u := false) (et_cast (et_of (ed_eqS (x := "up") (ed_ix (eq_t (ed_var 1 rfl)) ed_int rfl) ed_str)) (by decide)) (fun h => by cases h) fun _ => sd_nil (sd_one (s_ret (ed_and (ed_in G (ef_ed (ed_ix (eq_t (ed_var 1 rfl)) ed_int rfl)) (eq_t (ed_tup (ea_cons ed_str (ea_cons ed_str ea_nil)) (Nat.le_of_ble_eq_true rfl))) (eqb_str "up") rfl) fun _ => ed_and (we_call F_is_count (room_le hr) (ea_cons (ed_ix (eq_t (ed_var 1 rfl)) ed_int rfl) ea_nil) ⟨(i : Int), rfl, rfl⟩) fun _ => ed_one (ed_lt (i := (i : Int)) (ed_ix (eq_t (ed_var 1 rfl)) ed_int rfl) (ed_len G (eq_t (ed_ix (eq_t (ed_var 0 rfl)) ed_int rfl))))) (congrArg PyData.bool ?_))))
    have e1 : decide (0 ≤ (i : Int)) = true := decide_eq_true (by omega)
    have e2 : decide ((i : Int) < ((h.bs.map Belt.d).length : Int)) = true := decide_eq_true (by rw [List.length_map]; omega)
    have e3 : ([PyData.str "down", PyData.str "up"].any fun z => PyData.eqv z (.str (Arc.up i).w)) = true := by simp [eqv_str, Arc.w]
    rw [e1, e2, e3]; rfl
def fn_is_way : List PyData → PyData → Prop := fun zs z_ => ∃ (h : Hall) (n : Nm) (as : List Arc), zs = [h.d, wayD n as] ∧ z_ = .bool true ∧ HOk h ∧ Way h n as
theorem p_is_way (M : Md mg) (D : Dn K mg d_is_way) (F_names_of : FD P w K mg base "names_of" 1 1 fn_names_of) (F_is_arc : FD P w K mg base "is_arc" 2 3 fn_is_arc) (F_start_of : FD P w K mg base "start_of" 2 1 fn_start_of) (F_end_of : FD P w K mg base "end_of" 2 1 fn_end_of) : FD P w K mg base "is_way" 2 4 fn_is_way := by
  obtain ⟨⟨fd, F⟩, g⟩ := D
  refine fd_of (N := ["hall", "thing", "name", "arc"]) (ps := ["hall", "thing"]) (st := s_is_way) (k := 3) M F ⟨rfl, rfl, rfl, by decide, rfl, by decide, by decide⟩ g (fun _ _ _ _ _ _ us hl => match us, hl with | [_, _], _ => rfl) (fun zs z_ ⟨_, _, _, e, _⟩ => by subst e; rfl) fun f cdv A outer s H E hr G zs z_ hfn => ?_
  obtain ⟨h, n, as, rfl, rfl, p1, p2⟩ := hfn
  have hN : (["hall", "thing", "name", "arc"] : List Str).Nodup := by decide
  refine sd_cons (s_if (u := false) (et_cast (et_w (ew_or (et_not (et_val (ed_isi (Ts := "tuple") (r := true) G (ed_var 1 rfl) rfl k_tt G.tuple b_tuple))) fun _ => ew_or (et_of (ed_neI (ed_len G (eq_t (ed_var 1 rfl))) ed_int)) fun _ => ew_or1 (et_not (et_val (ed_isi (Ts := "str") (r := true) G (ed_ix (eq_t (ed_var 1 rfl)) ed_int rfl) rfl k_ss G.str b_str))))) rfl) (fun h => by cases h) fun _ => sd_nil ?_)
  refine sd_cons (s_if (u := false) (et_cast (et_w (ew_or (et_of (ed_notIn G (ef_ed (ed_ix (eq_t (ed_var 1 rfl)) ed_int rfl)) (eq_t (we_call F_names_of (room_le hr) (ea_cons (ed_var 0 rfl) ea_nil) ⟨h, rfl, rfl, p1⟩)) (eqb_str n.s) (plainAll_map (fun _ => rfl) _))) fun _ => ew_or1 (et_not (et_val (ed_isi (Ts := "tuple") (r := true) G (ed_ix (eq_t (ed_var 1 rfl)) ed_int rfl) rfl k_tt G.tuple b_tuple))))) (by rw [any_nm, p2.nm]; rfl)) (fun h => by cases h) fun _ => sd_nil ?_)
  refine sd_cons (s_set 2 (ed_ix (eq_t (ed_var 1 rfl)) ed_int rfl) hN ?_)
  refine sd_cons (s_forE (as := as) (gd := Arc.d) G (ei_tup (ed_ix (eq_t (ed_var 1 rfl)) ed_int rfl)) (fun pre => [dD h.d, dD (wayD n as), dD (h.at_ n pre).d, dZ]) rfl (fun pre a hp => ⟨_, gd_name 3 hN, ?_⟩) (sd_one (s_ret ed_bl rfl)))
  have hm := mem_of_pre hp
  have ha := p2.ok a hm
  refine sd_cons (s_if (u := false) (et_cast (et_w (ew_or (et_not (et_val (we_call F_is_arc (room_le hr) (ea_cons (ed_var 0 rfl) (ea_cons (ed_var 3 rfl) ea_nil)) ⟨h, a, rfl, rfl, p1, ha, fun m e => p2.kn m (by rw [← e]; exact hm)⟩))) fun _ => ew_or1 (et_of (ed_neS (we_call F_start_of (room_le hr) (ea_cons (ed_var 0 rfl) (ea_cons (ed_var 3 rfl) ea_nil)) ⟨h, a, rfl, rfl, ha⟩) (ed_var 2 rfl))))) (by rw [p2.ch pre a hp]; simp)) (fun h => by cases h) fun _ => sd_nil ?_)
  refine sd_cons (s_set 2 (we_call F_end_of (room_le hr) (ea_cons (ed_var 0 rfl) (ea_cons (ed_var 3 rfl) ea_nil)) ⟨h, a, rfl, rfl, ha⟩) hN (sd_end 3 ?_))
  show _ = [dD h.d, dD (wayD n as), dD (h.at_ n (pre ++ [a])).d, dZ]
  unfold Hall.at_
  rw [List.foldl_append]; rfl
def fn_is_walk : List PyData → PyData → Prop := fun zs z_ => ∃ (h : Hall) (n : Nm) (as : List Arc) (a : Arc), zs = [h.d, wayD n (as ++ [a])] ∧ z_ = .bool true ∧ HOk h ∧ Way h n (as ++ [a]) ∧ h.fin a = .fill ∧ (∀ b ∈ as, h.fin b ≠ .fill)
theorem p_is_walk (M : Md mg) (D : Dn K mg d_is_walk) (F_is_way : FD P w K mg base "is_way" 2 4 fn_is_way) (F_end_of : FD P w K mg base "end_of" 2 1 fn_end_of) : FD P w K mg base "is_walk" 2 5 fn_is_walk := by
  obtain ⟨⟨fd, F⟩, g⟩ := D
  refine fd_of (N := ["hall", "thing", "ends", "arc"]) (ps := ["hall", "thing"]) (st := s_is_walk) (k := 4) M F ⟨rfl, rfl, rfl, by decide, rfl, by decide, by decide⟩ g (fun _ _ _ _ _ _ us hl => match us, hl with | [_, _], _ => rfl) (fun zs z_ ⟨_, _, _, _, e, _⟩ => by subst e; rfl) fun f cdv A outer s H E hr G zs z_ hfn => ?_
  obtain ⟨h, n, as, a, rfl, rfl, p1, p2, p3, p4⟩ := hfn
  have hN : (["hall", "thing", "ends", "arc"] : List Str).Nodup := by decide
  have hln := p2.ln
  refine sd_cons (s_if (u := false) (et_cast (et_w (ew_or (et_not (et_val (we_call F_is_way (room_le hr) (ea_cons (ed_var 0 rfl) (ea_cons (ed_var 1 rfl) ea_nil)) ⟨h, n, _, rfl, rfl, p1, p2⟩))) fun _ => ew_or1 (et_of (ed_eq G (ef_ed (ed_ix (eq_t (ed_var 1 rfl)) ed_int rfl)) (ef_ed (ed_tup ea_nil (Nat.le_of_ble_eq_true rfl))) (eqb_arcs (as ++ [a])) eqb_nil)))) (by rw [List.map_append]; cases as <;> rfl)) (fun h => by cases h) fun _ => sd_nil ?_)
  refine sd_cons (s_setLcm [("arc", 3)] 2 (fun b => (h.fin b).d) (fun b : Arc => [(3, b.d)]) G hN (ei_tup (ed_ix (eq_t (ed_var 1 rfl)) ed_int rfl)) (blk_ok rfl) (by omega) (fun d u hu => by simp at hu; simp [hu]) (fun s H C cl fp d hd => gd_name 3 hN) (fun s H C cl fp b hd => (we_call F_end_of (room_le hr) (ea_cons (ed_var 0 rfl) (ea_cons (ed_var 3 rfl) ea_nil)) ⟨h, b, rfl, rfl, p2.ok b hd⟩)) ?_ (sw_true rfl rfl rfl rfl))
  refine sd_one (s_ret (ed_and (ed_eqS (x := (h.fin a).s) (y := Nm.fill.s) (ed_ix (eq_el (el_own 2 rfl)) ?_ (i := -1) ?_) (ed_ix (eq_t (ed_var 0 rfl)) ed_int rfl)) fun _ => ed_one (ed_notIn G (ef_ed (ed_ix (eq_t (ed_var 0 rfl)) ed_int rfl)) (eq_el (el_new (en_slice (el_own 2 rfl) eo_none (eo_some (i := -1) ?_)))) (eqb_str Nm.fill.s) ?_)) ?_)
  · exact ed_neg ed_int
  · rw [List.map_append]; exact atI_last _ _
  · exact ed_neg ed_int
  · rw [List.map_append, List.map_cons, List.map_nil, cutD_init]
    exact plainAll_map (g := fun b => (h.fin b).d) (fun _ => rfl) _
  · rw [List.map_append, List.map_cons, List.map_nil, cutD_init]
    refine congrArg PyData.bool ?_
    rw [p3, decide_eq_true rfl, Bool.true_and]
    simp only [Bool.not_eq_true', List.any_eq_false, List.mem_map]
    rintro _ ⟨b, hb, rfl⟩
    have e : PyData.eqv (.str (h.fin b).s) (.str Nm.fill.s) = false := by
      rw [eqv_str, Nm.dec]
      cases q : (h.fin b).beq .fill with
      | false => rfl
      | true => exact absurd (Nm.beq_iff.mp q) (p4 b hb)
    exact (by rw [e]; exact Bool.false_ne_true)
end
end K79


set_option Elab.async false
set_option linter.all false
set_option maxRecDepth 100000
set_option maxHeartbeats 4000000
/-! states, tables: one step -/
namespace K79
open PySem PySem.Spec PyProof.Rows L2
abbrev Sta := Nm × List (List Nat)
/-! equality of states by a fast test -/
def rowBeq : List Nat → List Nat → Bool
  | [], [] => true
  | a :: l, b :: m => match Nat.beq a b with
    | true => rowBeq l m
    | false => false
  | _, _ => false
def rowsBeq : List (List Nat) → List (List Nat) → Bool
  | [], [] => true
  | a :: l, b :: m => match rowBeq a b with
    | true => rowsBeq l m
    | false => false
  | _, _ => false
theorem rowBeq_iff : ∀ {a b : List Nat}, rowBeq a b = true ↔ a = b
  | [], [] => by simp [rowBeq]
  | [], _ :: _ => by simp [rowBeq]
  | _ :: _, [] => by simp [rowBeq]
  | a :: l, b :: m => by
    rw [rowBeq]
    cases h : Nat.beq a b with
    | true =>
      have := Nat.eq_of_beq_eq_true h
      subst this
      simp [rowBeq_iff]
    | false =>
      have := Nat.ne_of_beq_eq_false h
      simp [this]
theorem rowsBeq_iff : ∀ {a b : List (List Nat)}, rowsBeq a b = true ↔ a = b
  | [], [] => by simp [rowsBeq]
  | [], _ :: _ => by simp [rowsBeq]
  | _ :: _, [] => by simp [rowsBeq]
  | a :: l, b :: m => by
    rw [rowsBeq]
    cases h : rowBeq a b with
    | true =>
      have := rowBeq_iff.mp h
      subst this
      simp [rowsBeq_iff]
    | false =>
      have : a ≠ b := fun e => by rw [rowBeq_iff.mpr e] at h; cases h
      simp [this]
def staBeq (s t : Sta) : Bool := match Nm.beq s.1 t.1 with
  | true => rowsBeq s.2 t.2
  | false => false
theorem staBeq_iff {s t : Sta} : staBeq s t = true ↔ s = t := by
  obtain ⟨a, b⟩ := s
  obtain ⟨c, d⟩ := t
  unfold staBeq
  cases h : Nm.beq a c with
  | true =>
    have := Nm.beq_iff.mp h
    subst this
    simp [rowsBeq_iff]
  | false =>
    have : a ≠ c := fun e => by rw [Nm.beq_iff.mpr e] at h; cases h
    simp [this]
instance instStaDec : DecidableEq Sta := fun s t => match h : staBeq s t with
  | true => isTrue (staBeq_iff.mp h)
  | false => isFalse fun e => by rw [staBeq_iff.mpr e] at h; cases h
def rowD (r : List Nat) : PyData := .tuple (r.map iD)
def Sta.d (s : Sta) : PyData := .tuple [s.1.d, .tuple (s.2.map rowD)]
def rowK (r : List Nat) : NestedKey := .tup (r.map fun n : Nat => NestedKey.num (n : Int))
def Sta.k (s : Sta) : NestedKey := .tup [.text s.1.s, .tup (s.2.map rowK)]
theorem datas_map {α : Type} (f : α → NestedKey) : ∀ l : List α, NestedKey.datas (l.map f) = l.map fun a => (f a).data
  | [] => rfl
  | a :: l => by
    rw [List.map_cons, List.map_cons]
    show _ :: _ = _
    rw [datas_map f l]
theorem rowK_data (r : List Nat) : (rowK r).data = rowD r := by
  show PyData.tuple (NestedKey.datas (r.map fun n : Nat => NestedKey.num (n : Int))) = _
  rw [datas_map]; rfl
theorem Sta.k_data (s : Sta) : s.k.data = s.d := by
  show PyData.tuple [.str s.1.s, .tuple (NestedKey.datas (s.2.map rowK))] = _
  rw [datas_map]
  simp only [rowK_data]; rfl
theorem depthAll_k {α : Type} {f : α → NestedKey} {k : Nat} (h : ∀ a, (f a).depth ≤ k) : ∀ l : List α, NestedKey.depthAll (l.map f) ≤ k
  | [] => Nat.zero_le _
  | a :: l => by
    rw [List.map_cons]
    show max (f a).depth (NestedKey.depthAll (l.map f)) ≤ k
    have := h a
    have := depthAll_k h l
    omega
theorem Sta.k_depth (s : Sta) : s.k.depth ≤ 8 := by
  have h1 : ∀ r, (rowK r).depth ≤ 1 := fun r => by
    show NestedKey.depthAll _ + 1 ≤ 1
    have := depthAll_k (f := fun n : Nat => NestedKey.num (n : Int)) (k := 0) (fun _ => Nat.le_refl _) r
    omega
  show NestedKey.depthAll [.text s.1.s, .tup (s.2.map rowK)] + 1 ≤ 8
  have h2 := depthAll_k h1 s.2
  show max 0 (max (NestedKey.depthAll (s.2.map rowK) + 1) 0) + 1 ≤ 8
  omega
theorem Sta.k_tup (s : Sta) : ∃ ks, s.k = .tup ks := ⟨_, rfl⟩
theorem Nm.s_inj {a b : Nm} (h : a.s = b.s) : a = b := Nm.beq_iff.mp (by rw [← Nm.dec, h]; simp)
theorem map_inj {α β : Type} {f : α → β} (h : ∀ a b, f a = f b → a = b) : ∀ {l m : List α}, l.map f = m.map f → l = m
  | [], [], _ => rfl
  | [], _ :: _, e => by cases e
  | _ :: _, [], e => by cases e
  | a :: l, b :: m, e => by
    rw [List.map_cons, List.map_cons] at e
    obtain ⟨e1, e2⟩ := List.cons.inj e
    rw [h a b e1, map_inj h e2]
theorem Sta.k_inj {s t : Sta} (h : s.k = t.k) : s = t := by
  obtain ⟨n, r⟩ := s
  obtain ⟨m, q⟩ := t
  have h := NestedKey.tup.inj h
  obtain ⟨h1, h2⟩ := List.cons.inj h
  obtain ⟨h3, _⟩ := List.cons.inj h2
  have e1 := Nm.s_inj (NestedKey.text.inj h1)
  have e2 := map_inj (f := rowK) (fun a b e => map_inj (f := fun n : Nat => NestedKey.num (n : Int)) (fun x y e => by have := NestedKey.num.inj e; omega) (NestedKey.tup.inj e)) (NestedKey.tup.inj h3)
  rw [show n = m from e1, show r = q from e2]
/-! ### steps -/
def Hall.full (h : Hall) (n : Nm) : Sta := (n, h.ms.map fun m => m.ps.map (·.1))
def fill1 (g : Nat) (ps : List (Nat × Nat)) (row : List Nat) : List Nat := (row.zip ps).map fun p => min p.2.1 (p.1 + p.2.2 * g)
def behS (s : Sta) (a : Arc) (g : Nat) (acc : Nat × List (List Nat)) (mr : Mach × List Nat) : Nat × List (List Nat) :=
  if (mr.1.nm.beq s.1 && a.ends) = true then (mr.1.t + mr.2.sum, acc.2 ++ [fill1 g mr.1.ps (mr.2.map fun _ => 0)]) else (acc.1, acc.2 ++ [fill1 g mr.1.ps mr.2])
def Hall.beh0 (h : Hall) (s : Sta) (a : Arc) : Nat × List (List Nat) := (h.ms.zip s.2).foldl (behS s a (h.grow a)) (0, [])
def Hall.beh (h : Hall) (s : Sta) (a : Arc) : Sta × Nat := ((h.fin a, (h.beh0 s a).2), (h.beh0 s a).1)
def Hall.gb (h : Hall) (s : Sta) (g : Int) (a : Arc) : Sta × Int := ((h.beh s a).1, g + ((h.beh s a).2 : Int) - (h.pace : Int) * (h.grow a : Int))
def Hall.inner (h : Hall) (n : Nm) : List Arc := (h.arcsFrom n).filter fun a => !(h.fin a).beq .fill
structure SOk (h : Hall) (s : Sta) : Prop where
  rows : ∀ mr ∈ h.ms.zip s.2, mr.2.length = mr.1.ps.length
  len : s.2.length = h.ms.length
theorem zipW {α β : Type} (f : α → PyData) (g : β → PyData) : ∀ (l : List α) (m : List β), List.zipWith (fun x y => PyData.tuple [x, y]) (l.map f) (m.map g) = (l.zip m).map fun p => PyData.tuple [f p.1, g p.2]
  | [], _ => by simp
  | _ :: _, [] => by simp
  | a :: l, b :: m => by
    rw [List.map_cons, List.map_cons, List.zipWith_cons_cons, zipW f g l m]; rfl
theorem behS_len (s : Sta) (a : Arc) (g : Nat) : ∀ (l : List (Mach × List Nat)) (acc : Nat × List (List Nat)), (l.foldl (behS s a g) acc).2.length = acc.2.length + l.length
  | [], _ => rfl
  | p :: l, acc => by
    rw [List.foldl_cons, behS_len s a g l]
    unfold behS
    split <;> simp <;> omega
theorem zeros {α : Type} : ∀ l : List α, (List.replicate l.length [iD 0]).flatten = (l.map fun _ => (0 : Nat)).map iD
  | [] => rfl
  | _ :: l => by
    rw [List.length_cons, List.replicate_succ, List.flatten_cons, zeros l]; rfl
theorem sd_endL {X : Cx} {E : Eds} : ∀ (is : List Nat) {ρ : Env}, E.nx (is.foldl (fun ρ i => ρ.set i none) ρ) → SD X [] ρ E
  | [], _, h => sd_nil h
  | i :: is, _, h => sd_forget i (sd_endL is h)
section
variable {P : Program} {w : World} {K : PySem.W.Frag} {mg : Str → Option Value} {base : Heap}
def fn_full_state : List PyData → PyData → Prop := fun zs z_ => ∃ (h : Hall) (n : Nm), zs = [h.d, n.d] ∧ z_ = (h.full n).d ∧ HOk h
theorem p_full_state (M : Md mg) (D : Dn K mg d_full_state) : FD P w K mg base "full_state" 2 1 fn_full_state := by
  obtain ⟨⟨fd, F⟩, g⟩ := D
  refine fd_of (N := ["hall", "name", "other", "time", "purses", "size", "back"]) (ps := ["hall", "name"]) (st := s_full_state) (k := 0) M F ⟨rfl, rfl, rfl, by decide, rfl, by decide, by decide⟩ g (fun _ _ _ _ _ _ us hl => match us, hl with | [_, _], _ => rfl) (fun zs z_ ⟨_, _, e, _⟩ => by subst e; rfl) fun f cdv A outer s H E hr G zs z_ hfn => ?_
  obtain ⟨h, n, rfl, rfl, p1⟩ := hfn
  have hN : (["hall", "name", "other", "time", "purses", "size", "back"] : List Str).Nodup := by decide
  have hm := p1.ml
  refine sd_one (s_ret (ed_c ?_ (ed_tup (ea_cons (ed_var 1 rfl) (ea_cons (ed_tupL G (el_new (en_lcm [("other", 2), ("time", 3), ("purses", 4)] (fun m : Mach => rowD (m.ps.map (·.1))) (fun m => [(2, m.nm.d), (3, iD m.t), (4, .tuple (m.ps.map purD))]) G hN (ei_tup (ed_ix (eq_t (ed_var 0 rfl)) ed_int rfl)) (blk_ok rfl) (by omega) (fun d u hu => by simp at hu; rcases hu with rfl | rfl | rfl <;> simp) (fun s H C cl fp d hd => gd_tup (G.blk _ _ _ _ _).calm (gds_cons (gd_name 2 hN) (gds_cons (gd_name 3 hN) (gds_cons (gd_name 4 hN) gds_nil))) rfl) (fun s H C cl fp m hd => ed_c ?_ (ed_tupL (G.blk _ _ _ _ _) (el_new (en_lcm [("size", 5), ("back", 6)] (fun p : Nat × Nat => iD p.1) (fun p => [(5, iD p.1), (6, iD p.2)]) (G.blk _ _ _ _ _) hN (ei_tup (ed_var 4 rfl)) (blk_ok rfl) (by have := (p1.tm m hd).2.1; omega) (fun d u hu => by simp at hu; rcases hu with rfl | rfl <;> simp) (fun s H C cl fp d hd => gd_tup ((G.blk _ _ _ _ _).blk _ _ _ _ _).calm (gds_cons (gd_name 5 hN) (gds_cons (gd_name 6 hN) gds_nil)) rfl) (fun s H C cl fp p hd => (ed_var 5 rfl))))))))) ea_nil)) (Nat.le_of_ble_eq_true rfl))) rfl)
  · unfold Sta.d Hall.full
    simp [rowD, List.map_map, Function.comp_def]
  · unfold rowD
    simp [List.map_map, Function.comp_def]
end
end K79


set_option Elab.async false
set_option linter.all false
set_option maxRecDepth 100000
set_option maxHeartbeats 4000000
/-! behind and its kin -/
namespace K79
open PySem PySem.Spec PyProof.Rows L2
section
variable {P : Program} {w : World} {K : PySem.W.Frag} {mg : Str → Option Value} {base : Heap}
def fn_behind : List PyData → PyData → Prop := fun zs z_ => ∃ (h : Hall) (s : Sta) (a : Arc), zs = [h.d, s.d, a.d] ∧ z_ = .tuple [(h.beh s a).1.d, iD (h.beh s a).2] ∧ HOk h ∧ a.ok h ∧ SOk h s
theorem p_behind (M : Md mg) (D : Dn K mg d_behind) (F_growth_of : FD P w K mg base "growth_of" 2 1 fn_growth_of) (F_end_of : FD P w K mg base "end_of" 2 1 fn_end_of) (F_does_end : FD P w K mg base "does_end" 1 1 fn_does_end) : FD P w K mg base "behind" 3 2 fn_behind := by
  obtain ⟨⟨fd, F⟩, g⟩ := D
  refine fd_of (N := ["hall", "state", "arc", "growth", "ticks", "found", "name", "time", "purses", "row", "left", "held", "size", "back"]) (ps := ["hall", "state", "arc"]) (st := s_behind) (k := 1) M F ⟨rfl, rfl, rfl, by decide, rfl, by decide, by decide⟩ g (fun _ _ _ _ _ _ us hl => match us, hl with | [_, _, _], _ => rfl) (fun zs z_ ⟨_, _, _, e, _⟩ => by subst e; rfl) fun f cdv A outer s H E hr G zs z_ hfn => ?_
  obtain ⟨h, s, a, rfl, rfl, p1, p2, p3⟩ := hfn
  have hN : (["hall", "state", "arc", "growth", "ticks", "found", "name", "time", "purses", "row", "left", "held", "size", "back"] : List Str).Nodup := by decide
  have hm := p1.ml
  have hz := p3.len
  refine sd_cons (s_tupN (is := [3, 4, 5]) G (evs_cons (ev_d (we_call F_growth_of (room_le hr) (ea_cons (ed_var 0 rfl) (ea_cons (ed_var 2 rfl) ea_nil)) ⟨h, a, rfl, rfl, p1, p2⟩)) (evs_cons (ev_d ed_int) (evs_cons (ev_l (en_lst ea_nil (Nat.zero_le _))) evs_nil))) (gns_cons 3 hN (gns_cons 4 hN (gns_cons 5 hN gns_nil))) rfl (Nat.le_of_ble_eq_true rfl) ?_ rfl)
  refine sd_cons (s_forF (as := h.ms.zip s.2) (gd := fun p => .tuple [p.1.d, rowD p.2]) (b0 := ((0, []) : Nat × List (List Nat))) (f := behS s a (h.grow a)) (en := fun p => [dD h.d, dD s.d, dD a.d, dD (iD (h.grow a)), dD (iD p.1), dL (p.2.map rowD), dZ, dZ, dZ, dZ, dZ, dZ, dZ, dZ]) G (EI.cast (ei_zip G (ed_ix (eq_t (ed_var 0 rfl)) ed_int rfl) (ed_ix (eq_t (ed_var 1 rfl)) ed_int rfl)) (zipW _ _ _ _)) rfl (fun pre mr hp => ?_) ?_)
  · obtain ⟨m, row⟩ := mr
    have hmem := mem_of_pre hp
    have hmm : m ∈ h.ms := (List.of_mem_zip hmem).1
    have hrl : row.length = m.ps.length := p3.rows _ hmem
    obtain ⟨t1, t2, t3⟩ := p1.tm m hmm
    have hpl := pre_len hp
    have hsl := behS_len s a (h.grow a) pre (0, [])
    have hzl : (h.ms.zip s.2).length ≤ h.ms.length := by rw [List.length_zip]; omega
    generalize hst : pre.foldl (behS s a (h.grow a)) (0, []) = st at hsl
    simp only [List.length_nil, Nat.zero_add] at hsl
    refine ⟨[(6, m.nm.d), (7, iD m.t), (8, .tuple (m.ps.map purD)), (9, rowD row)], gd_tup G.calm (gds_cons (us := [(6, m.nm.d), (7, iD m.t), (8, .tuple (m.ps.map purD))]) (gd_tup G.calm (gds_cons (gd_name 6 hN) (gds_cons (gd_name 7 hN) (gds_cons (gd_name 8 hN) gds_nil))) rfl) (gds_cons (gd_name 9 hN) gds_nil)) rfl, ?_⟩
    refine sd_cons (s_set 10 (ed_var 9 rfl) hN ?_)
    cases hu : (m.nm.beq s.1 && a.ends) with
    | true =>
      refine sd_cons (s_if (u := true) (et_cast (et_w (ew_and (et_of (ed_eqS (x := m.nm.s) (y := s.1.s) (ed_var 6 rfl) (ed_ix (eq_t (ed_var 1 rfl)) ed_int rfl))) fun _ => ew_and1 (et_val (we_call F_does_end (room_le hr) (ea_cons (ed_var 2 rfl) ea_nil) ⟨a, rfl, rfl⟩)))) (by rw [Nm.dec]; exact hu)) (fun _ => sd_one (s_par2 (u := .dat (iD (m.t + row.sum))) (v := .dat (rowD (row.map fun _ => 0))) 4 10 G (evs_cons (ev_d (ed_c ?_ (ed_add (ed_var 7 rfl) (ed_sumT (ns := row.map fun n : Nat => (n : Int)) G (ed_c ?_ (ed_var 9 rfl)))))) (evs_cons (ev_d (ed_c ?_ (ed_rep (k := row.length) (ed_tup (ea_cons ed_int ea_nil) (Nat.le_of_ble_eq_true rfl)) (ed_c ?_ (ed_len G (eq_t (ed_var 9 rfl)))) (by simp) ?_ (by simp)))) evs_nil)) hN ?_)) fun h => by cases h)
      · show PyData.int _ = PyData.int _
        congr 1
        have : ∀ l : List Nat, (l.map fun n : Nat => (n : Int)).sum = ((l.sum : Nat) : Int) := fun l => by
          induction l with
          | nil => rfl
          | cons x l ih => rw [List.map_cons, List.sum_cons, List.sum_cons, ih]; omega
        rw [this]; omega
      · unfold rowD
        rw [List.map_map]; rfl
      · show PyData.tuple _ = PyData.tuple _
        rw [← zeros row]; rfl
      · show PyData.int _ = PyData.int _
        rw [List.length_map]
      · omega
      · have hlL : (row.map fun _ => (0 : Nat)).length = row.length := by simp
        refine sd_cons (s_append 5 rfl (ed_tupL G (el_new (en_lcm [("held", 11), ("size", 12), ("back", 13)] (fun p : Nat × (Nat × Nat) => iD (min p.2.1 (p.1 + p.2.2 * h.grow a))) (fun p => [(11, iD p.1), (12, iD p.2.1), (13, iD p.2.2)]) G hN (EI.cast (ei_zip G (xs := (row.map fun _ => (0 : Nat)).map iD) (ys := m.ps.map purD) (ed_var 10 rfl) (ed_var 8 rfl)) (zipW _ _ _ _)) (blk_ok rfl) (by rw [List.length_zip]; omega) (fun d u hu => by simp at hu; rcases hu with rfl | rfl | rfl <;> simp)
          (fun s H C cl fp p hd => gd_tup (G.blk _ _ _ _ _).calm (gds_cons (us := [(11, iD p.1)]) (gd_name 11 hN) (gds_cons (us := [(12, iD p.2.1), (13, iD p.2.2)]) (gd_tup (G.blk _ _ _ _ _).calm (gds_cons (gd_name 12 hN) (gds_cons (gd_name 13 hN) gds_nil)) rfl) gds_nil)) rfl) (fun s H C cl fp p hd => ed_c ?_ (ed_min (G.blk _ _ _ _ _) (ed_var 12 rfl) (ed_add (ed_var 11 rfl) (ed_mul (ed_var 13 rfl) (ed_var 3 rfl) ?_))))))) ?_ (sd_endL [6, 7, 8, 9, 10] ?_))
        · show PyData.int _ = PyData.int _
          congr 1
          have e : ((p.2.2 * h.grow a : Nat) : Int) = (p.2.2 : Int) * (h.grow a : Int) := Int.natCast_mul _ _
          rw [← e]
          generalize p.2.2 * h.grow a = z
          omega
        · have hb := (t3 p.2 (List.of_mem_zip hd).2).2
          left; constructor <;> omega
        · rw [List.length_map]; omega
        · show [dD h.d, dD s.d, dD a.d, dD (iD (h.grow a)), dD (iD (m.t + row.sum)), dL _, dZ, dZ, dZ, dZ, dZ, dZ, dZ, dZ] = _
          unfold behS
          rw [if_pos hu]
          simp only [List.map_append, List.map_cons, List.map_nil]
          unfold fill1 rowD
          rw [List.map_map]; rfl
    | false =>
      refine sd_cons (s_if (u := false) (et_cast (et_w (ew_and (et_of (ed_eqS (x := m.nm.s) (y := s.1.s) (ed_var 6 rfl) (ed_ix (eq_t (ed_var 1 rfl)) ed_int rfl))) fun _ => ew_and1 (et_val (we_call F_does_end (room_le hr) (ea_cons (ed_var 2 rfl) ea_nil) ⟨a, rfl, rfl⟩)))) (by rw [Nm.dec]; exact hu)) (fun h => by cases h) fun _ => sd_nil ?_)
      have hlL : (row).length = row.length := by simp
      refine sd_cons (s_append 5 rfl (ed_tupL G (el_new (en_lcm [("held", 11), ("size", 12), ("back", 13)] (fun p : Nat × (Nat × Nat) => iD (min p.2.1 (p.1 + p.2.2 * h.grow a))) (fun p => [(11, iD p.1), (12, iD p.2.1), (13, iD p.2.2)]) G hN (EI.cast (ei_zip G (xs := (row).map iD) (ys := m.ps.map purD) (ed_var 10 rfl) (ed_var 8 rfl)) (zipW _ _ _ _)) (blk_ok rfl) (by rw [List.length_zip]; omega) (fun d u hu => by simp at hu; rcases hu with rfl | rfl | rfl <;> simp)
        (fun s H C cl fp p hd => gd_tup (G.blk _ _ _ _ _).calm (gds_cons (us := [(11, iD p.1)]) (gd_name 11 hN) (gds_cons (us := [(12, iD p.2.1), (13, iD p.2.2)]) (gd_tup (G.blk _ _ _ _ _).calm (gds_cons (gd_name 12 hN) (gds_cons (gd_name 13 hN) gds_nil)) rfl) gds_nil)) rfl) (fun s H C cl fp p hd => ed_c ?_ (ed_min (G.blk _ _ _ _ _) (ed_var 12 rfl) (ed_add (ed_var 11 rfl) (ed_mul (ed_var 13 rfl) (ed_var 3 rfl) ?_))))))) ?_ (sd_endL [6, 7, 8, 9, 10] ?_))
      · show PyData.int _ = PyData.int _
        congr 1
        have e : ((p.2.2 * h.grow a : Nat) : Int) = (p.2.2 : Int) * (h.grow a : Int) := Int.natCast_mul _ _
        rw [← e]
        generalize p.2.2 * h.grow a = z
        omega
      · have hb := (t3 p.2 (List.of_mem_zip hd).2).2
        left; constructor <;> omega
      · rw [List.length_map]; omega
      · show [dD h.d, dD s.d, dD a.d, dD (iD (h.grow a)), dD (iD (st.1)), dL _, dZ, dZ, dZ, dZ, dZ, dZ, dZ, dZ] = _
        unfold behS
        rw [if_neg (by rw [hu]; exact Bool.false_ne_true)]
        simp only [List.map_append, List.map_cons, List.map_nil]
        unfold fill1 rowD
        rw [List.map_map]; rfl
  · refine sd_one (s_ret (ed_tup (ea_cons (ed_tup (ea_cons (we_call F_end_of (room_le hr) (ea_cons (ed_var 0 rfl) (ea_cons (ed_var 2 rfl) ea_nil)) ⟨h, a, rfl, rfl, p2⟩) (ea_cons (ed_tupL G (el_own 5 rfl)) ea_nil)) (Nat.le_of_ble_eq_true rfl)) (ea_cons (ed_var 4 rfl) ea_nil)) (Nat.le_of_ble_eq_true rfl)) rfl)
end
end K79


set_option Elab.async false
set_option linter.all false
set_option maxRecDepth 100000
set_option maxHeartbeats 4000000
/-! gains, rings -/
namespace K79
open PySem PySem.Spec PyProof.Rows L2
theorem mach_mem {h : Hall} {n : Nm} {m : Mach} (e : h.mach n = some m) : m ∈ h.ms := List.mem_of_find?_eq_some e
theorem pace_le {h : Hall} (ok : HOk h) : h.pace ≤ 200 := by
  obtain ⟨m, hm⟩ := Option.isSome_iff_exists.mp ok.fi
  have := (ok.tm m (mach_mem hm)).1
  unfold Hall.pace Hall.time
  rw [hm]; exact this
theorem arcsFrom_ok {h : Hall} {n : Nm} {a : Arc} (ha : a ∈ h.arcsFrom n) : a.ok h := arcs_ok (List.mem_filter.mp ha).1
theorem inner_ok {h : Hall} {n : Nm} {a : Arc} (ha : a ∈ h.inner n) : a.ok h := arcsFrom_ok (List.mem_filter.mp ha).1
theorem arcs_len {h : Hall} (ok : HOk h) : h.arcs.length ≤ 12 := by
  have hm := ok.ml
  have hb := ok.bl
  have : ((List.range h.bs.length).map fun _ => 2).sum = 2 * h.bs.length := by simp [List.map_const', List.sum_replicate_nat, Nat.mul_comm]
  simp [Hall.arcs, List.length_flatMap, this]
  omega
theorem arcsFrom_len {h : Hall} (ok : HOk h) (n : Nm) : (h.arcsFrom n).length ≤ 12 := Nat.le_trans (List.length_filter_le _ _) (arcs_len ok)
def Hall.homeNo (h : Hall) (s : Sta) (g : Int) : Bool := (h.arcsFrom s.1).all fun a => !((h.fin a).beq .fill && decide (0 < (h.gb s g a).2))
def Hall.still (h : Hall) : List Arc := h.arcs.filter fun a => decide (h.grow a = 0)
/-! the search of least_back, for starts that never meet a name twice -/
abbrev Wy := Nm × List Arc
def lbIn (h : Hall) (x : Wy) (acc : List Wy × List Wy) (a : Arc) : Option (List Wy × List Wy) :=
  if (h.start a).beq x.1 = true then (if (acc.1.any fun p => p.1.beq (h.fin a)) = true then none else some (acc.1 ++ [(h.fin a, x.2 ++ [a])], acc.2 ++ [(h.fin a, x.2 ++ [a])])) else some acc
def lbAll (h : Hall) (x : Wy) : List Wy × List Wy → List Arc → Option (List Wy × List Wy)
  | acc, [] => some acc
  | acc, a :: as => (lbIn h x acc a).bind fun acc' => lbAll h x acc' as
def lbRun (h : Hall) : Nat → List Wy × List Wy → Option (List Wy)
  | 0, _ => none
  | _ + 1, (best, []) => some best
  | n + 1, (best, x :: w) => (lbAll h x (best, w) h.still).bind fun acc => lbRun h n acc
/-- the name is not led back to itself -/
def Hall.noBack (h : Hall) (n : Nm) : Bool := match lbRun h 20 ([], [(n, [])]) with
  | some best => !best.any fun p => p.1.beq n
  | none => false
def wyD (x : Wy) : PyData := wayD x.1 x.2
def bestS (l : List Wy) : STab := l.map fun x => (x.1.s, .tuple [iD x.2.length, .tuple (x.2.map Arc.d)])
theorem bestS_get (l : List Wy) (n : Nm) : (tget (bestS l) n.s).isSome = l.any fun p => p.1.beq n := by
  induction l with
  | nil => rfl
  | cons x l ih =>
    show (tget ((x.1.s, _) :: bestS l) n.s).isSome = _
    rw [tget_cons, List.any_cons, ← ih, ← Nm.dec]
    by_cases e : x.1.s = n.s
    · rw [if_pos e]; simp [e]
    · rw [if_neg e]; simp [e]
section
variable {P : Program} {w : World} {K : PySem.W.Frag} {mg : Str → Option Value} {base : Heap}
def fn_gain_behind : List PyData → PyData → Prop := fun zs z_ => ∃ (h : Hall) (s : Sta) (g : Int) (a : Arc), zs = [h.d, s.d, .int g, a.d] ∧ z_ = .tuple [(h.gb s g a).1.d, .int (h.gb s g a).2] ∧ HOk h ∧ a.ok h ∧ SOk h s
theorem p_gain_behind (M : Md mg) (D : Dn K mg d_gain_behind) (F_behind : FD P w K mg base "behind" 3 2 fn_behind) (F_pace_of : FD P w K mg base "pace_of" 1 3 fn_pace_of) (F_growth_of : FD P w K mg base "growth_of" 2 1 fn_growth_of) : FD P w K mg base "gain_behind" 4 4 fn_gain_behind := by
  obtain ⟨⟨fd, F⟩, g⟩ := D
  refine fd_of (N := ["hall", "state", "gain", "arc", "other", "ticks"]) (ps := ["hall", "state", "gain", "arc"]) (st := s_gain_behind) (k := 3) M F ⟨rfl, rfl, rfl, by decide, rfl, by decide, by decide⟩ g (fun _ _ _ _ _ _ us hl => match us, hl with | [_, _, _, _], _ => rfl) (fun zs z_ ⟨_, _, _, _, e, _⟩ => by subst e; rfl) fun f cdv A outer s H E hr G zs z_ hfn => ?_
  obtain ⟨h, s, g, a, rfl, rfl, p1, p2, p3⟩ := hfn
  have hN : (["hall", "state", "gain", "arc", "other", "ticks"] : List Str).Nodup := by decide
  refine sd_cons (s_asg (we_call F_behind (room_le hr) (ea_cons (ed_var 0 rfl) (ea_cons (ed_var 1 rfl) (ea_cons (ed_var 3 rfl) ea_nil))) ⟨h, s, a, rfl, rfl, p1, p2, p3⟩) (gt_of (gd_tup G.calm (gds_cons (gd_name 4 hN) (gds_cons (gd_name 5 hN) gds_nil)) rfl)) ?_)
  exact sd_one (s_ret (ed_tup (ea_cons (ed_var 4 rfl) (ea_cons (ed_sub (ed_add (ed_var 2 rfl) (ed_var 5 rfl)) (ed_mul (we_call F_pace_of (room_le hr) (ea_cons (ed_var 0 rfl) ea_nil) ⟨h, rfl, rfl, p1.fi⟩) (we_call F_growth_of (room_le hr) (ea_cons (ed_var 0 rfl) (ea_cons (ed_var 3 rfl) ea_nil)) ⟨h, a, rfl, rfl, p1, p2⟩) (by have := pace_le p1; left; constructor <;> omega))) ea_nil)) (Nat.le_of_ble_eq_true rfl)) rfl)
def fn_inner_arcs : List PyData → PyData → Prop := fun zs z_ => ∃ (h : Hall) (n : Nm), zs = [h.d, n.d] ∧ z_ = .list ((h.inner n).map Arc.d) ∧ HOk h
theorem p_inner_arcs (M : Md mg) (D : Dn K mg d_inner_arcs) (F_arcs_from : FD P w K mg base "arcs_from" 2 3 fn_arcs_from) (F_end_of : FD P w K mg base "end_of" 2 1 fn_end_of) : FD P w K mg base "inner_arcs" 2 4 fn_inner_arcs := by
  obtain ⟨⟨fd, F⟩, g⟩ := D
  refine fd_of (N := ["hall", "name", "arc"]) (ps := ["hall", "name"]) (st := s_inner_arcs) (k := 3) M F ⟨rfl, rfl, rfl, by decide, rfl, by decide, by decide⟩ g (fun _ _ _ _ _ _ us hl => match us, hl with | [_, _], _ => rfl) (fun zs z_ ⟨_, _, e, _⟩ => by subst e; rfl) fun f cdv A outer s H E hr G zs z_ hfn => ?_
  obtain ⟨h, n, rfl, rfl, p1⟩ := hfn
  have hN : (["hall", "name", "arc"] : List Str).Nodup := by decide
  exact sd_one (s_ret (ed_new (en_lcf [("arc", 2)] (fun a : Arc => !(h.fin a).beq .fill) Arc.d (fun a => [(2, a.d)]) G hN (ei_tup (we_call F_arcs_from (room_le hr) (ea_cons (ed_var 0 rfl) (ea_cons (ed_var 1 rfl) ea_nil)) ⟨h, n, rfl, rfl, p1⟩)) (blk_ok rfl) (by have := arcsFrom_len p1 n; omega) (fun d u hu => by simp at hu; simp [hu]) (fun s H C cl fp d hd => gd_name 2 hN) (fun s H C cl fp d hd => ets_one (et_cast (et_of (ed_neS (we_call F_end_of (room_le hr) (ea_cons (ed_var 0 rfl) (ea_cons (ed_var 2 rfl) ea_nil)) ⟨h, d, rfl, rfl, arcsFrom_ok hd⟩) (ed_ix (eq_t (ed_var 0 rfl)) ed_int rfl))) (by rw [Nm.dec]))) (fun s H C cl fp d hd _ => (ed_var 2 rfl)))) rfl)
def fn_home_arc : List PyData → PyData → Prop := fun zs z_ => ∃ (h : Hall) (s : Sta) (g : Int), zs = [h.d, s.d, .int g] ∧ z_ = .none ∧ HOk h ∧ SOk h s ∧ h.homeNo s g = true
theorem p_home_arc (M : Md mg) (D : Dn K mg d_home_arc) (F_arcs_from : FD P w K mg base "arcs_from" 2 3 fn_arcs_from) (F_end_of : FD P w K mg base "end_of" 2 1 fn_end_of) (F_gain_behind : FD P w K mg base "gain_behind" 4 4 fn_gain_behind) : FD P w K mg base "home_arc" 3 5 fn_home_arc := by
  obtain ⟨⟨fd, F⟩, g⟩ := D
  refine fd_of (N := ["hall", "state", "gain", "arc"]) (ps := ["hall", "state", "gain"]) (st := s_home_arc) (k := 4) M F ⟨rfl, rfl, rfl, by decide, rfl, by decide, by decide⟩ g (fun _ _ _ _ _ _ us hl => match us, hl with | [_, _, _], _ => rfl) (fun zs z_ ⟨_, _, _, e, _⟩ => by subst e; rfl) fun f cdv A outer s H E hr G zs z_ hfn => ?_
  obtain ⟨h, s, g, rfl, rfl, p1, p2, p3⟩ := hfn
  have hN : (["hall", "state", "gain", "arc"] : List Str).Nodup := by decide
  refine sd_cons (s_forE (as := h.arcsFrom s.1) (gd := Arc.d) G (ei_tup (we_call F_arcs_from (room_le hr) (ea_cons (ed_var 0 rfl) (ea_cons (ed_ix (eq_t (ed_var 1 rfl)) ed_int rfl) ea_nil)) ⟨h, s.1, rfl, rfl, p1⟩)) (fun _ => [dD h.d, dD s.d, dD (.int g), dZ]) rfl (fun pre a hp => ⟨_, gd_name 3 hN, ?_⟩) (sd_one (s_ret ed_non rfl)))
  have hm := mem_of_pre hp
  have hno := List.all_eq_true.mp p3 a hm
  rw [Bool.not_eq_true'] at hno
  refine sd_cons (s_if (u := false) (et_cast (et_w (ew_and (et_of (ed_eqS (we_call F_end_of (room_le hr) (ea_cons (ed_var 0 rfl) (ea_cons (ed_var 3 rfl) ea_nil)) ⟨h, a, rfl, rfl, arcsFrom_ok hm⟩) (ed_ix (eq_t (ed_var 0 rfl)) ed_int rfl))) fun _ => ew_and1 (et_of (ed_gt (i := (h.gb s g a).2) (ed_ix (eq_t (we_call F_gain_behind (room_le hr) (ea_cons (ed_var 0 rfl) (ea_cons (ed_var 1 rfl) (ea_cons (ed_var 2 rfl) (ea_cons (ed_var 3 rfl) ea_nil)))) ⟨h, s, g, a, rfl, rfl, p1, arcsFrom_ok hm, p2⟩)) ed_int rfl) ed_int)))) (by rw [Nm.dec]; exact hno)) (fun h => by cases h) fun _ => sd_nil (sd_endL [3] rfl))
def fn_still_arcs : List PyData → PyData → Prop := fun zs z_ => ∃ (h : Hall), zs = [h.d] ∧ z_ = .list (h.still.map Arc.d) ∧ HOk h
theorem p_still_arcs (M : Md mg) (D : Dn K mg d_still_arcs) (F_arcs_of : FD P w K mg base "arcs_of" 1 2 fn_arcs_of) (F_growth_of : FD P w K mg base "growth_of" 2 1 fn_growth_of) : FD P w K mg base "still_arcs" 1 3 fn_still_arcs := by
  obtain ⟨⟨fd, F⟩, g⟩ := D
  refine fd_of (N := ["hall", "arc"]) (ps := ["hall"]) (st := s_still_arcs) (k := 2) M F ⟨rfl, rfl, rfl, by decide, rfl, by decide, by decide⟩ g (fun _ _ _ _ _ _ us hl => match us, hl with | [_], _ => rfl) (fun zs z_ ⟨_, e, _⟩ => by subst e; rfl) fun f cdv A outer s H E hr G zs z_ hfn => ?_
  obtain ⟨h, rfl, rfl, p1⟩ := hfn
  have hN : (["hall", "arc"] : List Str).Nodup := by decide
  exact sd_one (s_ret (ed_new (en_lcf [("arc", 1)] (fun a : Arc => decide (h.grow a = 0)) Arc.d (fun a => [(1, a.d)]) G hN (ei_tup (we_call F_arcs_of (room_le hr) (ea_cons (ed_var 0 rfl) ea_nil) ⟨h, rfl, rfl, p1⟩)) (blk_ok rfl) (by have := arcs_len p1; omega) (fun d u hu => by simp at hu; simp [hu]) (fun s H C cl fp d hd => gd_name 1 hN) (fun s H C cl fp d hd => ets_one (et_cast (et_of (ed_eqI (we_call F_growth_of (room_le hr) (ea_cons (ed_var 0 rfl) (ea_cons (ed_var 1 rfl) ea_nil)) ⟨h, d, rfl, rfl, p1, arcs_ok hd⟩) ed_int)) (decide_eq_decide.mpr (by omega)))) (fun s H C cl fp d hd _ => (ed_var 1 rfl)))) rfl)
end
end K79


set_option Elab.async false
set_option linter.all false
set_option maxRecDepth 100000
set_option maxHeartbeats 4000000
/-! rings -/
namespace K79
open PySem PySem.Spec PyProof.Rows L2
theorem lbAll_len {h : Hall} {x : Wy} : ∀ {l : List Arc} {acc acc' : List Wy × List Wy}, lbAll h x acc l = some acc' → acc'.1.length ≤ acc.1.length + l.length ∧ acc'.2.length ≤ acc.2.length + l.length
  | [], acc, acc', e => by cases e; simp
  | a :: l, acc, acc', e => by
    obtain ⟨b, e1, e2⟩ := Option.bind_eq_some_iff.mp e
    have z := lbAll_len e2
    have : b.1.length ≤ acc.1.length + 1 ∧ b.2.length ≤ acc.2.length + 1 := by
      unfold lbIn at e1
      split at e1
      · split at e1
        · cases e1
        · cases e1; simp
      · cases e1; omega
    rw [List.length_cons]; omega
theorem lbAll_ways {h : Hall} {x : Wy} {k : Nat} (hx : x.2.length < k) : ∀ {l : List Arc} {acc acc' : List Wy × List Wy}, lbAll h x acc l = some acc' → (∀ y ∈ acc.2, y.2.length ≤ k) → ∀ y ∈ acc'.2, y.2.length ≤ k
  | [], acc, acc', e, hy => by cases e; exact hy
  | a :: l, acc, acc', e, hy => by
    obtain ⟨b, e1, e2⟩ := Option.bind_eq_some_iff.mp e
    refine lbAll_ways hx e2 ?_
    unfold lbIn at e1
    split at e1
    · split at e1
      · cases e1
      · cases e1
        intro y hm
        rcases List.mem_append.mp hm with q | q
        · exact hy y q
        · rw [List.mem_singleton] at q
          subst q
          simp; omega
    · cases e1; exact hy
theorem lbAll_app {h : Hall} {x : Wy} : ∀ {l m : List Arc} {acc acc' : List Wy × List Wy}, lbAll h x acc (l ++ m) = some acc' → ∃ b, lbAll h x acc l = some b ∧ lbAll h x b m = some acc'
  | [], m, acc, acc', e => ⟨acc, rfl, e⟩
  | a :: l, m, acc, acc', e => by
    obtain ⟨b, e1, e2⟩ := Option.bind_eq_some_iff.mp e
    obtain ⟨c, e3, e4⟩ := lbAll_app e2
    exact ⟨c, Option.bind_eq_some_iff.mpr ⟨b, e1, e3⟩, e4⟩
theorem lbAll_to {h : Hall} {x : Wy} : ∀ {l m : List Arc} {acc b acc' : List Wy × List Wy}, lbAll h x acc l = some b → lbAll h x b m = some acc' → lbAll h x acc (l ++ m) = some acc'
  | [], m, acc, b, acc', e1, e2 => by cases e1; exact e2
  | a :: l, m, acc, b, acc', e1, e2 => by
    obtain ⟨c, f1, f2⟩ := Option.bind_eq_some_iff.mp e1
    exact Option.bind_eq_some_iff.mpr ⟨c, f1, lbAll_to f2 e2⟩
theorem eqb_ways (l : List Wy) : Eqb (.list (l.map wyD)) := by
  have hp : ∀ x, (wyD x).plain = true := fun x => by
    show ((PyData.str x.1.s).plain && (PyData.tuple (x.2.map Arc.d)).plain && true) = true
    have := (eqb_arcs x.2).1
    rw [this]; rfl
  have hd : ∀ x, (wyD x).depth ≤ 3 := fun x => by
    show max 0 (max (PyData.depthAll (x.2.map Arc.d) + 1) 0) + 1 ≤ 3
    have := depthAll_map (fun a => (Arc.flat a).2) x.2
    omega
  refine ⟨plainAll_map hp l, ?_⟩
  show PyData.depthAll _ + 1 ≤ 60
  have := depthAll_map hd l
  omega
theorem eqb_nilL : Eqb (.list []) := ⟨rfl, by decide⟩
def lbEnv (h : Hall) (n : Nm) (best wt : List Wy) (r : Env) : Env := dD h.d :: dD n.d :: some (.dks (bestS best)) :: dL (wt.map wyD) :: r
section
variable {P : Program} {w : World} {K : PySem.W.Frag} {mg : Str → Option Value} {base : Heap}
def fn_least_back : List PyData → PyData → Prop := fun zs z_ => ∃ (h : Hall) (n : Nm), zs = [h.d, n.d] ∧ z_ = .none ∧ HOk h ∧ h.noBack n = true
theorem p_least_back (M : Md mg) (D : Dn K mg d_least_back) (F_still_arcs : FD P w K mg base "still_arcs" 1 3 fn_still_arcs) (F_start_of : FD P w K mg base "start_of" 2 1 fn_start_of) (F_end_of : FD P w K mg base "end_of" 2 1 fn_end_of) : FD P w K mg base "least_back" 2 4 fn_least_back := by
  obtain ⟨⟨fd, F⟩, g⟩ := D
  refine fd_of (N := ["hall", "name", "best", "waiting", "here", "arcs", "arc", "there", "way"]) (ps := ["hall", "name"]) (st := s_least_back) (k := 3) M F ⟨rfl, rfl, rfl, by decide, rfl, by decide, by decide⟩ g (fun _ _ _ _ _ _ us hl => match us, hl with | [_, _], _ => rfl) (fun zs z_ ⟨_, _, e, _⟩ => by subst e; rfl) fun f cdv A outer s H E hr G zs z_ hfn => ?_
  obtain ⟨h, n, rfl, rfl, p1, p2⟩ := hfn
  have hN : (["hall", "name", "best", "waiting", "here", "arcs", "arc", "there", "way"] : List Str).Nodup := by decide
  obtain ⟨best0, hrun, hno⟩ : ∃ best0, lbRun h 20 ([], [(n, [])]) = some best0 ∧ (best0.any fun p => p.1.beq n) = false := by
    unfold Hall.noBack at p2
    split at p2
    · exact ⟨_, ‹_›, by simpa using p2⟩
    · cases p2
  have hsl : h.still.length ≤ 12 := Nat.le_trans (List.length_filter_le _ _) (arcs_len p1)
  refine sd_cons (s_par2 (u := .dks []) (v := .lst [wyD (n, [])]) 2 3 G (evs_cons (ev_s ems_empty) (evs_cons (ev_l (en_lst (ea_cons (ed_tup (ea_cons (ed_var 1 rfl) (ea_cons (ed_tup ea_nil (Nat.zero_le _)) ea_nil)) (Nat.le_of_ble_eq_true rfl)) ea_nil) (Nat.le_of_ble_eq_true rfl))) evs_nil)) hN ?_)
  refine sd_cons (s_while (fun m ρ' => ∃ best wt, lbRun h m (best, wt) = some best0 ∧ ρ' = lbEnv h n best wt [dZ, dZ, dZ, dZ, dZ] ∧ best.length + 12 * m ≤ 400 ∧ wt.length + 12 * m ≤ 400 ∧ ∀ y ∈ wt, y.2.length + m ≤ 50) 20 ⟨[], [(n, [])], hrun, rfl, by simp, by simp, by simp⟩ (fun m ρ' ⟨best, wt, hrn, e, l1, l2, l3⟩ => ?_))
  subst e
  cases m with
  | zero => cases hrn
  | succ m =>
    cases wt with
    | nil =>
      cases hrn
      refine ⟨false, et_cast (et_of (ed_ne G (ef_el (el_own 3 rfl)) (ef_el (el_new (en_lst ea_nil (Nat.zero_le _)))) (eqb_ways []) eqb_nilL)) rfl, (fun h => by cases h), fun _ => ?_⟩
      refine sd_one (s_ret (ed_if (u := false) (et_cast (et_of (ed_inS G (ed_var 1 rfl) (eks_own 2 rfl))) (by rw [bestS_get]; exact hno)) (fun h => by cases h) fun _ => ed_non) rfl)
    | cons x wt =>
      obtain ⟨acc, ha, hrn⟩ := Option.bind_eq_some_iff.mp (show (lbAll h x (best, wt) h.still).bind (fun acc => lbRun h m acc) = some best0 from hrn)
      refine ⟨true, et_cast (et_of (ed_ne G (ef_el (el_own 3 rfl)) (ef_el (el_new (en_lst ea_nil (Nat.zero_le _)))) (eqb_ways (x :: wt)) eqb_nilL)) rfl, fun _ => ?_, fun h => by cases h⟩
      have hx := l3 x (List.mem_cons_self ..)
      rw [List.length_cons] at l2
      refine sd_cons (s_pop0 (d := wyD x) (ds := wt.map wyD) 3 rfl (gt_of (gd_tup G.calm (gds_cons (gd_name 4 hN) (gds_cons (gd_name 5 hN) gds_nil)) rfl)) ?_)
      refine sd_cons (s_forE (as := h.still) (gd := Arc.d) G (ei_lst (we_call F_still_arcs (room_le hr) (ea_cons (ed_var 0 rfl) ea_nil) ⟨h, rfl, rfl, p1⟩)) (fun pre => match lbAll h x (best, wt) pre with | some b => lbEnv h n b.1 b.2 [dD x.1.d, dD (.tuple (x.2.map Arc.d)), dZ, dZ, dZ] | none => []) rfl (fun pre a hp => ?_) ?_)
      · obtain ⟨rest, er⟩ := hp
        rw [← er] at ha
        obtain ⟨b2, e2, _⟩ := lbAll_app ha
        obtain ⟨b1, e1, e3⟩ := lbAll_app e2
        obtain ⟨b3, e4, e5⟩ := Option.bind_eq_some_iff.mp (show (lbIn h x b1 a).bind (fun acc' => some acc') = some b2 from e3)
        cases e5
        have q1 := lbAll_len e1
        have q2 : pre.length ≤ h.still.length := by rw [← er, List.append_assoc, List.length_append]; omega
        have hok : a.ok h := by
          have : a ∈ h.still := by rw [← er]; simp
          exact arcs_ok (List.mem_filter.mp this).1
        simp only at q1
        rw [e1, e2]
        refine ⟨_, gd_name 6 hN, ?_⟩
        refine sd_cons (s_par2 (u := .dat (h.fin a).d) (v := .dat (.tuple ((x.2 ++ [a]).map Arc.d))) 7 8 G (evs_cons (ev_d (we_call F_end_of (room_le hr) (ea_cons (ed_var 0 rfl) (ea_cons (ed_var 6 rfl) ea_nil)) ⟨h, a, rfl, rfl, hok⟩)) (evs_cons (ev_d (ed_c (by rw [List.map_append]; rfl) (ed_cat (ed_var 5 rfl) (ed_tup (ea_cons (ed_var 6 rfl) ea_nil) (Nat.le_of_ble_eq_true rfl)) (by rw [sizeLine_eq, List.length_map]; simp; omega)))) evs_nil)) hN ?_)
        unfold lbIn at e4
        cases hs : (h.start a).beq x.1 with
        | true =>
          rw [if_pos hs] at e4
          split at e4
          · cases e4
          · rename_i hany
            cases e4
            have hget : (tget (bestS b1.1) (h.fin a).s).isSome = false := by rw [bestS_get]; simpa using hany
            refine sd_cons (s_if (u := true) (et_cast (et_w (ew_and (et_of (ed_eqS (we_call F_start_of (room_le hr) (ea_cons (ed_var 0 rfl) (ea_cons (ed_var 6 rfl) ea_nil)) ⟨h, a, rfl, rfl, hok⟩) (ed_var 4 rfl))) fun _ => ew_and1 (et_w (ew_or (v := false) (et_of (ed_notInS (t := bestS b1.1) (y := (h.fin a).s) G (ed_var 7 rfl) (eks_own 2 rfl))) fun hu => by rw [hget] at hu; cases hu)))) (by rw [Nm.dec, hs, hget]; rfl)) (fun _ => ?_) fun h => by cases h)
            refine sd_cons (s_asg (ed_tup (ea_cons (ed_len G (eq_t (ed_var 8 rfl))) (ea_cons (ed_var 8 rfl) ea_nil)) (Nat.le_of_ble_eq_true rfl)) (gt_subS (t := bestS b1.1) (y := (h.fin a).s) 2 G rfl (ed_var 7 rfl) (by unfold bestS; rw [List.length_map]; omega)) ?_)
            refine sd_cons (s_append (ds := b1.2.map wyD) 3 rfl (ed_tup (ea_cons (ed_var 7 rfl) (ea_cons (ed_var 8 rfl) ea_nil)) (Nat.le_of_ble_eq_true rfl)) (by rw [List.length_map]; omega) (sd_nil (sd_endL [6, 7, 8] ?_)))
            show _ = lbEnv h n _ _ _
            have hn : tget (bestS b1.1) (h.fin a).s = none := by
              cases q : tget (bestS b1.1) (h.fin a).s with
              | none => rfl
              | some _ => rw [q] at hget; cases hget
            show [dD h.d, dD n.d, some (.dks (tput (bestS b1.1) (h.fin a).s _)), dL (b1.2.map wyD ++ [_]), _, _, dZ, dZ, dZ] = _
            rw [tput_new hn]
            unfold lbEnv bestS
            have ew : wyD (h.fin a, x.2 ++ [a]) = .tuple [(h.fin a).d, .tuple (x.2.map Arc.d ++ [a.d])] := by
              unfold wyD wayD
              rw [List.map_append]; rfl
            simp only [List.map_append, List.map_cons, List.map_nil, List.length_append, List.length_map, ew]
            rfl
        | false =>
          rw [if_neg (by rw [hs]; exact Bool.false_ne_true)] at e4
          cases e4
          exact sd_cons (s_if (u := false) (et_cast (et_w (ew_and (v := false) (et_of (ed_eqS (we_call F_start_of (room_le hr) (ea_cons (ed_var 0 rfl) (ea_cons (ed_var 6 rfl) ea_nil)) ⟨h, a, rfl, rfl, hok⟩) (ed_var 4 rfl))) fun hu => by rw [Nm.dec, hs] at hu; cases hu)) (by rw [Nm.dec, hs]; rfl)) (fun h => by cases h) fun _ => sd_nil (sd_endL [6, 7, 8] rfl))
      · rw [ha]
        have q1 := lbAll_len ha
        simp only at q1
        refine sd_endL [4, 5] ⟨m, Nat.lt_succ_self m, acc.1, acc.2, hrn, rfl, by omega, by omega, fun y hy => ?_⟩
        have := lbAll_ways (k := 50 - m) (by omega) ha (fun y hy => by have := l3 y (List.mem_cons_of_mem _ hy); omega) y hy
        omega
def fn_dead_ring : List PyData → PyData → Prop := fun zs z_ => ∃ (h : Hall), zs = [h.d] ∧ z_ = .none ∧ HOk h ∧ (∀ m ∈ h.ms, h.noBack m.nm = true)
theorem p_dead_ring (M : Md mg) (D : Dn K mg d_dead_ring) (F_least_back : FD P w K mg base "least_back" 2 4 fn_least_back) (F_names_of : FD P w K mg base "names_of" 1 1 fn_names_of) : FD P w K mg base "dead_ring" 1 5 fn_dead_ring := by
  obtain ⟨⟨fd, F⟩, g⟩ := D
  refine fd_of (N := ["hall", "found", "rings", "name", "one"]) (ps := ["hall"]) (st := s_dead_ring) (k := 4) M F ⟨rfl, rfl, rfl, by decide, rfl, by decide, by decide⟩ g (fun _ _ _ _ _ _ us hl => match us, hl with | [_], _ => rfl) (fun zs z_ ⟨_, e, _⟩ => by subst e; rfl) fun f cdv A outer s H E hr G zs z_ hfn => ?_
  obtain ⟨h, rfl, rfl, p1, p2⟩ := hfn
  have hN : (["hall", "found", "rings", "name", "one"] : List Str).Nodup := by decide
  have hm := p1.ml
  refine sd_cons (s_setLcm [("name", 3)] 1 (fun m : Mach => .none) (fun m => [(3, m.nm.d)]) G hN (ei_tup (we_call F_names_of (room_le hr) (ea_cons (ed_var 0 rfl) ea_nil) ⟨h, rfl, rfl, p1⟩)) (blk_ok rfl) (by omega) (fun d u hu => by simp at hu; simp [hu]) (fun s H C cl fp d hd => gd_name 3 hN) (fun s H C cl fp m hd => (we_call F_least_back (room_le hr) (ea_cons (ed_var 0 rfl) (ea_cons (ed_var 3 rfl) ea_nil)) ⟨h, m.nm, rfl, rfl, p1, p2 m hd⟩)) ?_ (sw_true rfl rfl rfl rfl))
  refine sd_frzL (i := 1) rfl (sd_cons (s_setLcf (ds := h.ms) (gd := fun _ => .none) [("one", 4)] 2 (fun _ => false) (fun _ => .none) (fun m => [(4, .none)]) G hN (ei_lst (ed_var 1 rfl)) (blk_ok rfl) (by omega) (fun d u hu => by simp at hu; simp [hu]) (fun s H C cl fp d hd => gd_name 4 hN) (fun s H C cl fp d hd => ets_one (et_cast (et_of (ed_notN (ed_var 4 rfl))) rfl)) (fun s H C cl fp d hd hc => by cases hc) ?_ (sw_true rfl rfl rfl rfl)))
  refine sd_one (s_ret (ed_if (u := false) (et_cast (et_of (ed_ne G (ef_el (el_own 2 rfl)) (ef_el (el_new (en_lst ea_nil (Nat.zero_le _)))) ?_ eqb_nilL)) ?_) (fun h => by cases h) fun _ => ed_non) rfl)
  · rw [List.filter_eq_nil_iff.mpr (fun a _ h => by cases h)]; exact eqb_nilL
  · rw [List.filter_eq_nil_iff.mpr (fun a _ h => by cases h)]; rfl
def fn_is_live : List PyData → PyData → Prop := fun zs z_ => ∃ (h : Hall), zs = [h.d] ∧ z_ = .bool true ∧ HOk h ∧ (∀ m ∈ h.ms, h.noBack m.nm = true)
theorem p_is_live (M : Md mg) (D : Dn K mg d_is_live) (F_dead_ring : FD P w K mg base "dead_ring" 1 5 fn_dead_ring) : FD P w K mg base "is_live" 1 6 fn_is_live := by
  obtain ⟨⟨fd, F⟩, g⟩ := D
  refine fd_of (N := ["hall"]) (ps := ["hall"]) (st := s_is_live) (k := 5) M F ⟨rfl, rfl, rfl, by decide, rfl, by decide, by decide⟩ g (fun _ _ _ _ _ _ us hl => match us, hl with | [_], _ => rfl) (fun zs z_ ⟨_, e, _⟩ => by subst e; rfl) fun f cdv A outer s H E hr G zs z_ hfn => ?_
  obtain ⟨h, rfl, rfl, p1, p2⟩ := hfn
  have hN : (["hall"] : List Str).Nodup := by decide
  exact sd_one (s_ret (ed_isN (we_call F_dead_ring (room_le hr) (ea_cons (ed_var 0 rfl) ea_nil) ⟨h, rfl, rfl, p1, p2⟩)) rfl)
end
end K79


set_option Elab.async false
set_option linter.all false
set_option maxRecDepth 100000
set_option maxHeartbeats 4000000
/-! states, searches -/
namespace K79
open PySem PySem.Spec PyProof.Rows L2
/-! ### a loop that may fail in the mirror -/
def oFold {α β : Type} (f : β → α → Option β) : β → List α → Option β
  | b, [] => some b
  | b, a :: as => match f b a with
    | some b' => oFold f b' as
    | none => none
theorem oFold_app {α β : Type} {f : β → α → Option β} : ∀ {l m : List α} {b r : β}, oFold f b (l ++ m) = some r → ∃ b', oFold f b l = some b' ∧ oFold f b' m = some r
  | [], m, b, r, e => ⟨b, rfl, e⟩
  | a :: l, m, b, r, e => by
    rw [List.cons_append, oFold] at e
    rw [oFold]
    cases h : f b a with
    | none => rw [h] at e; cases e
    | some b' => rw [h] at e; exact oFold_app e
theorem oFold_to {α β : Type} {f : β → α → Option β} : ∀ {l m : List α} {b b' r : β}, oFold f b l = some b' → oFold f b' m = some r → oFold f b (l ++ m) = some r
  | [], m, b, b', r, e1, e2 => by cases e1; exact e2
  | a :: l, m, b, b', r, e1, e2 => by
    rw [List.cons_append, oFold]
    rw [oFold] at e1
    cases h : f b a with
    | none => rw [h] at e1; cases e1
    | some c => rw [h] at e1; exact oFold_to e1 e2
def enO {β : Type} (en : β → Env) : Option β → Env
  | some b => en b
  | none => []
section
variable {X : Cx} {tg iter : Expr} {ρ : Env} {E : Eds} {pos : Pos} {body : List Stmt}
theorem s_forO {α β : Type} {gd : α → PyData} {as : List α} (G : Gd X) (hi : EI X tg iter ρ (as.map gd)) (f : β → α → Option β) (b0 : β) (en : β → Env) {br : β} (hf : oFold f b0 as = some br) (h0 : ρ = en b0)
    (hs : ∀ a b b', a ∈ as → f b a = some b' → ∃ us, GD X tg (gd a) us ∧ SD X body (setDs (en b) us) { nx := fun ρ' => ρ' = en b', ct := fun ρ' => ρ' = en b', bk := E.nx, rt := E.rt }) (hd : E.nx (en br))
    (hp : PassesOwn (model X.prog X.w) X.A X.env X.xe := by exact PassesOwn.never) (hfs : ∀ x, foldedSetIterable iter X.env x = pure x := by intro _; rfl) : SD1 X (.For tg iter body [] pos) ρ E :=
  s_forE G hi (fun pre => enO en (oFold f b0 pre)) h0 (fun pre a hp => by
    obtain ⟨rest, er⟩ := hp
    have hm : a ∈ as := by rw [← er]; simp
    rw [← er] at hf
    obtain ⟨b2, e2, _⟩ := oFold_app hf
    obtain ⟨b1, e1, e3⟩ := oFold_app e2
    rw [e1, e2]
    have e4 : f b1 a = some b2 := by
      rw [oFold] at e3
      cases h : f b1 a with
      | none => rw [h] at e3; cases e3
      | some c => rw [h] at e3; cases e3; rfl
    exact hs a b1 b2 hm e4) (by rw [hf]; exact hd) hp hfs
theorem oFold_inv {α β : Type} {f : β → α → Option β} {I : β → Prop} {as : List α} (hI : ∀ a b b', a ∈ as → I b → f b a = some b' → I b') : ∀ {l : List α} {b r : β}, (∀ a ∈ l, a ∈ as) → I b → oFold f b l = some r → I r
  | [], b, r, _, hb, e => by cases e; exact hb
  | a :: l, b, r, hl, hb, e => by
    rw [oFold] at e
    cases h : f b a with
    | none => rw [h] at e; cases e
    | some c =>
      rw [h] at e
      exact oFold_inv hI (fun x hx => hl x (List.mem_cons_of_mem _ hx)) (hI a b c (hl a (List.mem_cons_self ..)) hb h) e
theorem s_forI {α β : Type} {gd : α → PyData} {as : List α} (G : Gd X) (hi : EI X tg iter ρ (as.map gd)) (f : β → α → Option β) (b0 : β) (en : β → Env) (I : β → Prop) {br : β} (hf : oFold f b0 as = some br) (h0 : ρ = en b0) (hI0 : I b0) (hI : ∀ a b b', a ∈ as → I b → f b a = some b' → I b')
    (hs : ∀ a b b', a ∈ as → I b → f b a = some b' → ∃ us, GD X tg (gd a) us ∧ SD X body (setDs (en b) us) { nx := fun ρ' => ρ' = en b', ct := fun ρ' => ρ' = en b', bk := E.nx, rt := E.rt }) (hd : I br → E.nx (en br))
    (hp : PassesOwn (model X.prog X.w) X.A X.env X.xe := by exact PassesOwn.never) (hfs : ∀ x, foldedSetIterable iter X.env x = pure x := by intro _; rfl) : SD1 X (.For tg iter body [] pos) ρ E :=
  s_forE G hi (fun pre => enO en (oFold f b0 pre)) h0 (fun pre a hp => by
    obtain ⟨rest, er⟩ := hp
    have hm : a ∈ as := by rw [← er]; simp
    have hpre : ∀ x ∈ pre, x ∈ as := fun x hx => by rw [← er]; simp [hx]
    rw [← er] at hf
    obtain ⟨b2, e2, _⟩ := oFold_app hf
    obtain ⟨b1, e1, e3⟩ := oFold_app e2
    rw [e1, e2]
    have e4 : f b1 a = some b2 := by
      rw [oFold] at e3
      cases h : f b1 a with
      | none => rw [h] at e3; cases e3
      | some c => rw [h] at e3; cases e3; rfl
    exact hs a b1 b2 hm (oFold_inv hI hpre hI0 e1) e4) (by rw [hf]; exact hd (oFold_inv hI (fun a h => h) hI0 hf)) hp hfs
theorem em_c {e : Expr} {t t' : Tab} (q : t = t') (h : EM X e ρ t) : EM X e ρ t' := q ▸ h
end
/-! ### tables over states -/
section
variable {β : Type} (f : β → PyData)
def stT (t : List (Sta × β)) : Tab := t.map fun p => (p.1.k, f p.2)
theorem stT_get (t : List (Sta × β)) (s : Sta) : tget (stT f t) s.k = (tget t s).map f := by
  induction t with
  | nil => rfl
  | cons p t ih =>
    show tget ((p.1.k, f p.2) :: stT f t) s.k = _
    rw [tget_cons, tget_cons, ih]
    by_cases h : p.1 = s
    · rw [if_pos h, if_pos (congrArg Sta.k h)]; rfl
    · rw [if_neg h, if_neg (fun e => h (Sta.k_inj e))]
theorem stT_put (t : List (Sta × β)) (s : Sta) (v : β) : tput (stT f t) s.k (f v) = stT f (tput t s v) := by
  unfold tput
  rw [stT_get, Option.isSome_map]
  by_cases h : (tget t s).isSome = true
  · rw [if_pos h, if_pos h]
    unfold stT
    rw [List.map_map, List.map_map]
    refine List.map_congr_left fun p _ => ?_
    show (if p.1.k = s.k then (p.1.k, f v) else (p.1.k, f p.2)) = ((if p.1 = s then (p.1, v) else p).1.k, f (if p.1 = s then (p.1, v) else p).2)
    by_cases e : p.1 = s
    · rw [if_pos e, if_pos (congrArg Sta.k e)]
    · rw [if_neg e, if_neg (fun q => e (Sta.k_inj q))]
  · rw [if_neg h, if_neg h]
    unfold stT
    rw [List.map_append]; rfl
theorem stT_len (t : List (Sta × β)) : (stT f t).length = t.length := List.length_map _
theorem stT_fold (v : Sta → β) : ∀ (l : List Sta) (t : List (Sta × β)), l.foldl (fun t s => tput t s.k (f (v s))) (stT f t) = stT f (l.foldl (fun t s => tput t s (v s)) t)
  | [], _ => rfl
  | s :: l, t => by
    rw [List.foldl_cons, List.foldl_cons, stT_put, stT_fold v l]
end
def tyes (l : List Sta) : List (Sta × Bool) := l.foldl (fun t s => tput t s true) []
def Hall.line (h : Hall) : List Sta := h.ms.map fun m => h.full m.nm
def sok (h : Hall) (s : Sta) : Bool := decide (s.2.length = h.ms.length) && (h.ms.zip s.2).all fun mr => decide (mr.2.length = mr.1.ps.length)
theorem sok_ok {h : Hall} {s : Sta} (e : sok h s = true) : SOk h s := by
  unfold sok at e
  simp only [Bool.and_eq_true, decide_eq_true_eq, List.all_eq_true] at e
  exact ⟨e.2, e.1⟩
abbrev Met := List Sta × List (Sta × Bool)
def bfsIn (h : Hall) (s : Sta) (acc : Met) (a : Arc) : Option Met :=
  if acc.1.length ≤ 500 ∧ acc.2.length ≤ 500 then (if (tget acc.2 (h.beh s a).1).isSome = true then some acc else some (acc.1 ++ [(h.beh s a).1], tput acc.2 (h.beh s a).1 true)) else none
def bfs (h : Hall) : Nat → Nat → Met → Option (List Sta)
  | 0, _, _ => none
  | n + 1, at_, acc => match acc.1[at_]? with
    | none => some acc.1
    | some s => if sok h s = true then (match oFold (bfsIn h s) acc (h.inner s.1) with
      | some acc' => bfs h n (at_ + 1) acc'
      | none => none) else none
def Hall.states (h : Hall) : Option (List Sta) := bfs h 60 0 (h.line, tyes h.line)
def sortSta (l : List Sta) : List Sta := l.mergeSort (PySem.W.dataLe false Sta.d)
theorem sortSta_map (l : List Sta) : sortD (l.map Sta.d) = (sortSta l).map Sta.d := (PySem.W.sort_maps Sta.d (fun _ _ _ _ => rfl)).symm
theorem alikeAll_map {α : Type} {g : α → PyData} (hg : ∀ a b, PySem.W.alike (g a) (g b) = true) : ∀ l m : List α, PySem.W.alikeAll (l.map g) (m.map g) = true
  | [], m => by cases m <;> rfl
  | _ :: _, [] => rfl
  | a :: l, b :: m => by
    rw [List.map_cons, List.map_cons]
    show (PySem.W.alike (g a) (g b) && PySem.W.alikeAll (l.map g) (m.map g)) = true
    rw [hg, alikeAll_map hg l m]; rfl
theorem alike_sta (s t : Sta) : PySem.W.alike s.d t.d = true := by
  show (true && (PySem.W.alikeAll (s.2.map rowD) (t.2.map rowD) && true)) = true
  rw [alikeAll_map (g := rowD) (fun a b => alikeAll_map (g := iD) (fun _ _ => rfl) a b)]; rfl
theorem sta_plain (s : Sta) : s.d.plain = true := by
  show (true && ((PyData.plainAll (s.2.map rowD)) && true)) = true
  rw [plainAll_map (g := rowD) (fun r => plainAll_map (g := iD) (fun _ => rfl) r)]; rfl
theorem sta_depth (s : Sta) : s.d.depth ≤ 4 := by
  show max 0 (max (PyData.depthAll (s.2.map rowD) + 1) 0) + 1 ≤ 4
  have h1 : ∀ r, (rowD r).depth ≤ 1 := fun r => by
    show PyData.depthAll (r.map iD) + 1 ≤ 1
    have := depthAll_map (g := iD) (k := 0) (fun _ => Nat.le_refl _) r
    omega
  have := depthAll_map h1 s.2
  omega
theorem sort_sta {l : List Sta} (hl : l.length ≤ 1000000) : SortOk (l.map Sta.d) where
  pl := plainAll_map sta_plain l
  al := PySem.W.AllAlike.of alike_sta
  so := PySem.W.Sortable.tuples fun s => ⟨_, _, rfl⟩
  ln := by rw [List.length_map]; exact hl
  dp := fun d hd => by
    obtain ⟨s, _, rfl⟩ := List.mem_map.mp hd
    exact Nat.le_trans (sta_depth s) (by decide)
theorem bfsIn_get {h : Hall} {s : Sta} {i : Nat} {x : Sta} : ∀ {l : List Arc} {acc acc' : Met}, oFold (bfsIn h s) acc l = some acc' → acc.1[i]? = some x → acc'.1[i]? = some x
  | [], acc, acc', e, hx => by cases e; exact hx
  | a :: l, acc, acc', e, hx => by
    rw [oFold] at e
    cases q : bfsIn h s acc a with
    | none => rw [q] at e; cases e
    | some b =>
      rw [q] at e
      refine bfsIn_get e ?_
      unfold bfsIn at q
      split at q
      · split at q
        · cases q; exact hx
        · cases q
          obtain ⟨hi, _⟩ := List.getElem?_eq_some_iff.mp hx
          rw [List.getElem?_append_left hi]; exact hx
      · cases q
theorem bfsIn_len {h : Hall} {s : Sta} : ∀ {l : List Arc} {acc acc' : Met}, oFold (bfsIn h s) acc l = some acc' → acc'.1.length ≤ acc.1.length + l.length
  | [], acc, acc', e => by cases e; simp
  | a :: l, acc, acc', e => by
    rw [oFold] at e
    cases q : bfsIn h s acc a with
    | none => rw [q] at e; cases e
    | some b =>
      rw [q] at e
      have z := bfsIn_len e
      have : b.1.length ≤ acc.1.length + 1 := by
        unfold bfsIn at q
        split at q
        · split at q
          · cases q; omega
          · cases q; simp
        · cases q
      rw [List.length_cons]; omega
section
variable {P : Program} {w : World} {K : PySem.W.Frag} {mg : Str → Option Value} {base : Heap}
def fn_states_of : List PyData → PyData → Prop := fun zs z_ => ∃ (h : Hall) (L : List Sta), zs = [h.d] ∧ z_ = .tuple ((sortSta L).map Sta.d) ∧ HOk h ∧ (∀ m ∈ h.ms, h.noBack m.nm = true) ∧ h.states = some L
theorem p_states_of (M : Md mg) (D : Dn K mg d_states_of) (F_dead_ring : FD P w K mg base "dead_ring" 1 5 fn_dead_ring) (F_full_state : FD P w K mg base "full_state" 2 1 fn_full_state) (F_names_of : FD P w K mg base "names_of" 1 1 fn_names_of) (F_inner_arcs : FD P w K mg base "inner_arcs" 2 4 fn_inner_arcs) (F_behind : FD P w K mg base "behind" 3 2 fn_behind) : FD P w K mg base "states_of" 1 6 fn_states_of := by
  obtain ⟨⟨fd, F⟩, g⟩ := D
  refine fd_of (N := ["hall", "ring", "line", "met", "at", "arc", "other", "name", "state"]) (ps := ["hall"]) (st := s_states_of) (k := 5) M F ⟨rfl, rfl, rfl, by decide, rfl, by decide, by decide⟩ g (fun _ _ _ _ _ _ us hl => match us, hl with | [_], _ => rfl) (fun zs z_ ⟨_, _, e, _⟩ => by subst e; rfl) fun f cdv A outer s H E hr G zs z_ hfn => ?_
  obtain ⟨h, L, rfl, rfl, p1, p2, p3⟩ := hfn
  have hN : (["hall", "ring", "line", "met", "at", "arc", "other", "name", "state"] : List Str).Nodup := by decide
  obtain ⟨u, hu, ru⟩ := M.most
  have hm := p1.ml
  have hlen : h.line.length ≤ 4 := by unfold Hall.line; rw [List.length_map]; exact hm
  refine sd_cons (s_set 1 (we_call F_dead_ring (room_le hr) (ea_cons (ed_var 0 rfl) ea_nil) ⟨h, rfl, rfl, p1, p2⟩) hN ?_)
  refine sd_cons (s_if (u := false) (et_cast (et_of (ed_notN (ed_var 1 rfl))) rfl) (fun h => by cases h) fun _ => sd_nil ?_)
  refine sd_cons (s_setLcm [("name", 7)] 2 (fun m : Mach => (h.full m.nm).d) (fun m => [(7, m.nm.d)]) G hN (ei_tup (we_call F_names_of (room_le hr) (ea_cons (ed_var 0 rfl) ea_nil) ⟨h, rfl, rfl, p1⟩)) (blk_ok rfl) (by omega) (fun d u hu => by simp at hu; simp [hu]) (fun s H C cl fp d hd => gd_name 7 hN) (fun s H C cl fp m hd => (we_call F_full_state (room_le hr) (ea_cons (ed_var 0 rfl) (ea_cons (ed_var 7 rfl) ea_nil)) ⟨h, m.nm, rfl, rfl, p1⟩)) ?_ (sw_true rfl rfl rfl rfl))
  have e0 : (h.ms.map fun m => (h.full m.nm).d) = h.line.map Sta.d := by unfold Hall.line; rw [List.map_map]; rfl
  rw [e0]
  refine sd_cons (s_par2 (u := .dic (stT PyData.bool (tyes h.line))) (v := .dat (iD 0)) 3 4 G (evs_cons (ev_m (em_c (stT_fold PyData.bool (fun _ => true) h.line []) (em_dcO (own := [("state", 8)]) (gd := Sta.d) (fun s : Sta => s.k) (fun _ => .bool true) (fun s => [(8, s.d)]) G hN (eio_own 2 rfl) (blk_ok rfl) (by omega) (fun s H C cl fp x hd => ⟨fun u hu => by simp at hu; simp [hu], gd_name 8 hN, x.k_tup, x.k_depth, ed_c x.k_data.symm (ed_var 8 rfl), ed_bl⟩)))) (evs_cons (ev_d ed_int) evs_nil)) hN ?_)
  refine sd_cons (s_while (fun m ρ' => ∃ i acc, bfs h m i acc = some L ∧ ρ' = [dD h.d, dD .none, dL (acc.1.map Sta.d), dT (stT PyData.bool acc.2), dD (iD i), dZ, dZ, dZ, dZ] ∧ acc.1.length + 12 * m ≤ 1000 ∧ i ≤ acc.1.length) 60 ⟨0, (h.line, tyes h.line), p3, rfl, by simp only; omega, Nat.zero_le _⟩ (fun m ρ' ⟨i, acc, hb, e, l1, l2⟩ => ?_))
  subst e
  cases m with
  | zero => cases hb
  | succ m =>
    rw [bfs] at hb
    refine ⟨decide (i < acc.1.length), et_cast (et_of (ed_lt (ed_var 4 rfl) (ed_len G (eq_el (el_own 2 rfl))))) (decide_eq_decide.mpr (by rw [List.length_map]; omega)), fun hlt => ?_, fun hge => ?_⟩
    · have hlt := of_decide_eq_true hlt
      obtain ⟨s, hs⟩ : ∃ s, acc.1[i]? = some s := ⟨acc.1[i], List.getElem?_eq_getElem hlt⟩
      rw [hs] at hb
      simp only at hb
      split at hb
      · rename_i hok
        split at hb
        · rename_i acc' hf
          have hlen' := bfsIn_len hf
          have hin : (h.inner s.1).length ≤ 12 := Nat.le_trans (List.length_filter_le _ _) (arcsFrom_len p1 _)
          have hgs : ∀ {l : List Sta}, l[i]? = some s → atI (l.map Sta.d) (i : Int) = some s.d := fun {l} e => atI_nat (by rw [List.getElem?_map, e]; rfl)
          refine sd_cons (s_forI (gd := Arc.d) G (ei_lst (we_call F_inner_arcs (room_le hr) (ea_cons (ed_var 0 rfl) (ea_cons (ed_ix (eq_t (ed_ix (eq_el (el_own 2 rfl)) (ed_var 4 rfl) (hgs hs))) ed_int rfl) ea_nil)) ⟨h, s.1, rfl, rfl, p1⟩)) (bfsIn h s) acc (fun b => [dD h.d, dD .none, dL (b.1.map Sta.d), dT (stT PyData.bool b.2), dD (iD i), dZ, dZ, dZ, dZ]) (fun b => b.1[i]? = some s) hf rfl hs (fun a b b' ha hx hb' => bfsIn_get (l := [a]) (by rw [oFold, hb']; rfl) hx) (fun a b b' ha hx hb' => ⟨_, gd_name 5 hN, ?_⟩) fun hx => ?_)
          · unfold bfsIn at hb'
            split at hb'
            · rename_i hsz
              refine sd_cons (s_set 6 (ed_ix (eq_t (we_call F_behind (room_le hr) (ea_cons (ed_var 0 rfl) (ea_cons (ed_ix (eq_el (el_own 2 rfl)) (ed_var 4 rfl) (hgs hx)) (ea_cons (ed_var 5 rfl) ea_nil))) ⟨h, s, a, rfl, rfl, p1, inner_ok ha, sok_ok hok⟩)) ed_int rfl) hN ?_)
              have hin : ∀ u, (tget b.2 (h.beh s a).1).isSome = u → (!(tget (stT PyData.bool b.2) (h.beh s a).1.k).isSome) = !u := fun u e => by rw [stT_get, Option.isSome_map, e]
              cases hg : (tget b.2 (h.beh s a).1).isSome with
              | true =>
                rw [if_pos hg] at hb'
                cases hb'
                exact sd_cons (s_if (u := false) (et_cast (et_of (ed_notInD (t := stT PyData.bool b.2) (k := (h.beh s a).1.k) G (ed_c (Sta.k_data _).symm (ed_var 6 rfl)) (ek_own 3 rfl) (Sta.k_tup _) (Sta.k_depth _))) (hin _ hg)) (fun h => by cases h) fun _ => sd_nil (sd_endL [5, 6] rfl))
              | false =>
                rw [if_neg (by rw [hg]; exact Bool.false_ne_true)] at hb'
                cases hb'
                refine sd_cons (s_if (u := true) (et_cast (et_of (ed_notInD (t := stT PyData.bool b.2) (k := (h.beh s a).1.k) G (ed_c (Sta.k_data _).symm (ed_var 6 rfl)) (ek_own 3 rfl) (Sta.k_tup _) (Sta.k_depth _))) (hin _ hg)) (fun _ => ?_) fun h => by cases h)
                refine sd_cons (s_asg ed_bl (gt_sub (t := stT PyData.bool b.2) (k := (h.beh s a).1.k) 3 G rfl (ed_c (Sta.k_data _).symm (ed_var 6 rfl)) (Sta.k_depth _) (Sta.k_tup _) (by rw [stT_len]; omega)) ?_)
                refine sd_cons (s_append (ds := b.1.map Sta.d) 2 rfl (ed_var 6 rfl) (by rw [List.length_map]; omega) (sd_nil (sd_endL [5, 6] ?_)))
                show [dD h.d, dD .none, dL (b.1.map Sta.d ++ [_]), dT (tput (stT PyData.bool b.2) _ _), dD (iD i), dZ, dZ, dZ, dZ] = _
                rw [stT_put PyData.bool]
                simp only [List.map_append, List.map_cons, List.map_nil]
            · cases hb'
          · refine sd_cons (s_if (u := false) (et_cast (et_of (ed_gt (ed_len G (eq_el (el_own 2 rfl))) (ed_gint (by rfl) hu ru))) (decide_eq_false (by rw [List.length_map]; omega))) (fun h => by cases h) fun _ => sd_nil ?_)
            refine sd_cons (s_aug (f := fun i j => i + j) (m := (i : Int)) (n := 1) 4 ip_add rfl ed_int hN (sd_nil ⟨m, Nat.lt_succ_self m, i + 1, acc', hb, ?_, by omega, ?_⟩))
            · show [dD h.d, dD .none, dL (acc'.1.map Sta.d), dT _, dD (.int ((i : Int) + 1)), dZ, dZ, dZ, dZ] = _
              rw [show ((i : Int) + 1) = ((i + 1 : Nat) : Int) by omega]
            · have := (List.getElem?_eq_some_iff.mp hx).1; omega
        · cases hb
      · cases hb
    · have hi : ¬ i < acc.1.length := of_decide_eq_false hge
      rw [List.getElem?_eq_none (by omega)] at hb
      simp only at hb
      cases hb
      refine sd_one (s_ret (ed_tupL G (el_new (en_c (sortSta_map acc.1) (en_sort G (el_own 2 rfl) (sort_sta (by omega)))))) rfl)
end
end K79


set_option Elab.async false
set_option linter.all false
set_option maxRecDepth 100000
set_option maxHeartbeats 4000000
/-! searched, gains -/
namespace K79
open PySem PySem.Spec PyProof.Rows L2
abbrev Came := Option (Sta × Arc)
abbrev SS := List (Sta × Int) × List (Sta × Came) × List (Sta × Bool)
def cameD : Came → PyData
  | none => .none
  | some (s, a) => .tuple [s.d, a.d]
def optD : Option Sta → PyData
  | none => .none
  | some s => s.d
def better (b : Option Int) (v : Int) : Bool := match b with
  | none => true
  | some x => decide (x < v)
def relax (h : Hall) (s : Sta) (acc : SS) (a : Arc) : Option SS := match tget acc.1 s with
  | none => none
  | some g => if acc.1.length ≤ 500 ∧ acc.2.1.length ≤ 500 ∧ acc.2.2.length ≤ 500 then
      (if better (tget acc.1 (h.gb s g a).1) (h.gb s g a).2 = true then some (tput acc.1 (h.gb s g a).1 (h.gb s g a).2, tput acc.2.1 (h.gb s g a).1 (some (s, a)), tput acc.2.2 (h.gb s g a).1 true) else some acc) else none
def turnS (h : Hall) (acc : SS) (s : Sta) : Option SS := match tget acc.1 s with
  | none => none
  | some g => if (h.homeNo s g && sok h s) = true then oFold (relax h s) acc (h.inner s.1) else none
abbrev Found := List (Sta × Int) × List (Sta × Came) × Option Sta
def srun (h : Hall) : Nat → List Sta → List (Sta × Int) → List (Sta × Came) → Option Found
  | 0, l, b, c => match l with
    | [] => none
    | s :: _ => some (b, c, some s)
  | n + 1, l, b, c => match oFold (turnS h) (b, c, []) l with
    | none => none
    | some r => match r.2.2 with
      | [] => some (r.1, r.2.1, none)
      | x :: xs => srun h n ((x :: xs).map (·.1)) r.1 r.2.1
def best0 (l : List Sta) : List (Sta × Int) := l.foldl (fun t s => tput t s 0) []
def came0 (l : List Sta) : List (Sta × Came) := l.foldl (fun t s => tput t s none) []
def foundD (r : Found) : PyData := .tuple [tabD (stT PyData.int r.1), tabD (stT cameD r.2.1), optD r.2.2]
theorem eqb_stas (l : List Sta) : Eqb (.list (l.map Sta.d)) := by
  refine ⟨plainAll_map sta_plain l, ?_⟩
  show PyData.depthAll _ + 1 ≤ 60
  have := depthAll_map sta_depth l
  omega
section
variable {P : Program} {w : World} {K : PySem.W.Frag} {mg : Str → Option Value} {base : Heap}
def fn_searched : List PyData → PyData → Prop := fun zs z_ => ∃ (h : Hall) (L : List Sta) (r : Found), zs = [h.d] ∧ z_ = foundD r ∧ HOk h ∧ (∀ m ∈ h.ms, h.noBack m.nm = true) ∧ h.states = some L ∧ L.length ≤ 1000 ∧ h.ms ≠ [] ∧ srun h (L.length + 1) h.line (best0 h.line) (came0 h.line) = some r
theorem p_searched (M : Md mg) (D : Dn K mg d_searched) (F_states_of : FD P w K mg base "states_of" 1 6 fn_states_of) (F_full_state : FD P w K mg base "full_state" 2 1 fn_full_state) (F_names_of : FD P w K mg base "names_of" 1 1 fn_names_of) (F_home_arc : FD P w K mg base "home_arc" 3 5 fn_home_arc) (F_inner_arcs : FD P w K mg base "inner_arcs" 2 4 fn_inner_arcs) (F_gain_behind : FD P w K mg base "gain_behind" 4 4 fn_gain_behind) : FD P w K mg base "searched" 1 7 fn_searched := by
  obtain ⟨⟨fd, F⟩, g⟩ := D
  refine fd_of (N := ["hall", "states", "line", "best", "came", "turn", "later", "state", "arc", "other", "gain", "name"]) (ps := ["hall"]) (st := s_searched) (k := 6) M F ⟨rfl, rfl, rfl, by decide, rfl, by decide, by decide⟩ g (fun _ _ _ _ _ _ us hl => match us, hl with | [_], _ => rfl) (fun zs z_ ⟨_, _, _, e, _⟩ => by subst e; rfl) fun f cdv A outer s H E hr G zs z_ hfn => ?_
  obtain ⟨h, L, r, rfl, rfl, p1, p2, p3, p4, p5, p6⟩ := hfn
  have hN : (["hall", "states", "line", "best", "came", "turn", "later", "state", "arc", "other", "gain", "name"] : List Str).Nodup := by decide
  have hm := p1.ml
  have hlen : h.line.length ≤ 4 := by unfold Hall.line; rw [List.length_map]; exact hm
  have hne : h.line ≠ [] := fun e => p5 (by unfold Hall.line at e; simpa using e)
  have e0 : (h.ms.map fun m => (h.full m.nm).d) = h.line.map Sta.d := by unfold Hall.line; rw [List.map_map]; rfl
  have esl : ((sortSta L).map Sta.d).length = L.length := by rw [List.length_map]; exact List.length_mergeSort L
  refine sd_cons (s_set 1 (we_call F_states_of (room_le hr) (ea_cons (ed_var 0 rfl) ea_nil) ⟨h, L, rfl, rfl, p1, p2, p3⟩) hN ?_)
  refine sd_cons (s_setLcm [("name", 11)] 2 (fun m : Mach => (h.full m.nm).d) (fun m => [(11, m.nm.d)]) G hN (ei_tup (we_call F_names_of (room_le hr) (ea_cons (ed_var 0 rfl) ea_nil) ⟨h, rfl, rfl, p1⟩)) (blk_ok rfl) (by omega) (fun d u hu => by simp at hu; simp [hu]) (fun s H C cl fp d hd => gd_name 11 hN) (fun s H C cl fp m hd => (we_call F_full_state (room_le hr) (ea_cons (ed_var 0 rfl) (ea_cons (ed_var 11 rfl) ea_nil)) ⟨h, m.nm, rfl, rfl, p1⟩)) ?_ (sw_true rfl rfl rfl rfl))
  rw [e0]
  refine sd_frzL (i := 2) rfl ?_
  refine sd_cons (s_par2 (u := .dic (stT PyData.int (best0 h.line))) (v := .dic (stT cameD (came0 h.line))) 3 4 G (evs_cons (ev_m (em_c (stT_fold PyData.int (fun _ => 0) h.line []) (em_dc (own := [("state", 7)]) (gd := Sta.d) (fun s : Sta => s.k) (fun _ => .int 0) (fun s => [(7, s.d)]) G hN (ei_lst (ed_var 2 rfl)) (blk_ok rfl) (by omega) (fun s H C cl fp x hd => ⟨fun u hu => by simp at hu; simp [hu], gd_name 7 hN, x.k_tup, x.k_depth, ed_c x.k_data.symm (ed_var 7 rfl), ed_int⟩))))
    (evs_cons (ev_m (em_c (stT_fold cameD (fun _ => none) h.line []) (em_dc (own := [("state", 7)]) (gd := Sta.d) (fun s : Sta => s.k) (fun _ => .none) (fun s => [(7, s.d)]) G hN (ei_lst (ed_var 2 rfl)) (blk_ok rfl) (by omega) (fun s H C cl fp x hd => ⟨fun u hu => by simp at hu; simp [hu], gd_name 7 hN, x.k_tup, x.k_depth, ed_c x.k_data.symm (ed_var 7 rfl), ed_non⟩)))) evs_nil)) hN ?_)
  refine sd_cons (s_forA (as := List.range (L.length + 1)) (gd := fun i => iD i) G (ei_rangeN (n := L.length + 1) G (ed_c (by show PyData.int _ = PyData.int _; rw [esl]; rfl) (ed_add (ed_len G (eq_t (ed_var 1 rfl))) ed_int)) (by omega))
    (fun i ρ' => ∃ l b c, l ≠ [] ∧ srun h (L.length + 1 - i) l b c = some r ∧ ρ' = [dD h.d, dD (.tuple ((sortSta L).map Sta.d)), dD (.list (l.map Sta.d)), dT (stT PyData.int b), dT (stT cameD c), dZ, dZ, dZ, dZ, dZ, dZ, dZ]) ⟨h.line, best0 h.line, came0 h.line, hne, p6, rfl⟩ (fun i a ρ' ha ⟨l, b, c, hl, hr0, e⟩ => ?_) fun ρ' ⟨l, b, c, hl, hr0, e⟩ => ?_)
  · subst e
    have hi : i < L.length + 1 := by
      have := (List.getElem?_eq_some_iff.mp ha).1
      simpa using this
    obtain ⟨n, en⟩ : ∃ n, L.length + 1 - i = n + 1 := ⟨L.length - i, by omega⟩
    rw [en, srun] at hr0
    split at hr0
    · cases hr0
    rename_i acc hf
    refine ⟨_, gd_name 5 hN, ?_⟩
    refine sd_cons (s_setM 6 em_empty hN ?_)
    refine sd_cons (s_forO (gd := Sta.d) G (ei_lst (ed_var 2 rfl)) (turnS h) (b, c, []) (fun x : SS => [dD h.d, dD (.tuple ((sortSta L).map Sta.d)), dD (.list (l.map Sta.d)), dT (stT PyData.int x.1), dT (stT cameD x.2.1), dD (iD a), dT (stT PyData.bool x.2.2), dZ, dZ, dZ, dZ, dZ]) hf rfl (fun s x x' hs hx => ⟨_, gd_name 7 hN, ?_⟩) ?_)
    · unfold turnS at hx
      split at hx
      · cases hx
      rename_i g hg
      split at hx
      case isFalse => cases hx
      rename_i hhome
      rw [Bool.and_eq_true] at hhome
      have ok := sok_ok hhome.2
      have hget : ∀ {y : SS} {g : Int}, tget y.1 s = some g → tget (stT PyData.int y.1) s.k = some (.int g) := fun {y g} e => by rw [stT_get, e]; rfl
      refine sd_cons (s_if (u := false) (et_cast (et_of (ed_notN (we_call F_home_arc (room_le hr) (ea_cons (ed_var 0 rfl) (ea_cons (ed_var 7 rfl) (ea_cons (ed_get (t := stT PyData.int x.1) (k := s.k) G (ek_own 3 rfl) (ed_c s.k_data.symm (ed_var 7 rfl)) s.k_tup s.k_depth (hget hg)) ea_nil))) ⟨h, s, g, rfl, rfl, p1, ok, hhome.1⟩))) rfl) (fun h => by cases h) fun _ => sd_nil ?_)
      refine sd_cons (s_forO (gd := Arc.d) G (ei_lst (we_call F_inner_arcs (room_le hr) (ea_cons (ed_var 0 rfl) (ea_cons (ed_ix (eq_t (ed_var 7 rfl)) ed_int rfl) ea_nil)) ⟨h, s.1, rfl, rfl, p1⟩)) (relax h s) x (fun x : SS => [dD h.d, dD (.tuple ((sortSta L).map Sta.d)), dD (.list (l.map Sta.d)), dT (stT PyData.int x.1), dT (stT cameD x.2.1), dD (iD a), dT (stT PyData.bool x.2.2), dD s.d, dZ, dZ, dZ, dZ]) hx rfl (fun c y y' hc hy => ⟨_, gd_name 8 hN, ?_⟩) (sd_endL [7] rfl))
      unfold relax at hy
      split at hy
      · cases hy
      rename_i g2 hg2
      split at hy
      case isFalse => cases hy
      rename_i hsz
      obtain ⟨z1, z2, z3⟩ := hsz
      refine sd_cons (s_asg (we_call F_gain_behind (room_le hr) (ea_cons (ed_var 0 rfl) (ea_cons (ed_var 7 rfl) (ea_cons (ed_get (t := stT PyData.int y.1) (k := s.k) G (ek_own 3 rfl) (ed_c s.k_data.symm (ed_var 7 rfl)) s.k_tup s.k_depth (hget hg2)) (ea_cons (ed_var 8 rfl) ea_nil)))) ⟨h, s, g2, c, rfl, rfl, p1, inner_ok hc, ok⟩) (gt_of (gd_tup G.calm (gds_cons (gd_name 9 hN) (gds_cons (gd_name 10 hN) gds_nil)) rfl)) ?_)
      have hcond : ∃ u v, ((!(tget (stT PyData.int y.1) (h.gb s g2 c).1.k).isSome) = u) ∧ (u = false → ∃ z, tget (stT PyData.int y.1) (h.gb s g2 c).1.k = some (.int z) ∧ decide (z < (h.gb s g2 c).2) = v) ∧ (u || v) = better (tget y.1 (h.gb s g2 c).1) (h.gb s g2 c).2 := by
        rw [stT_get]
        cases q : tget y.1 (h.gb s g2 c).1 with
        | none => exact ⟨true, true, rfl, (fun h => by cases h), rfl⟩
        | some z => exact ⟨false, decide (z < (h.gb s g2 c).2), rfl, fun _ => ⟨z, rfl, rfl⟩, rfl⟩
      obtain ⟨u, v, hu1, hu2, hu3⟩ := hcond
      cases hbt : better (tget y.1 (h.gb s g2 c).1) (h.gb s g2 c).2 with
      | false =>
        rw [if_neg (by rw [hbt]; exact Bool.false_ne_true)] at hy
        cases hy
        exact sd_cons (s_if (u := false) (et_cast (et_w (ew_or (et_cast (et_of (ed_notInD (t := stT PyData.int y.1) (k := (h.gb s g2 c).1.k) G (ed_c (Sta.k_data _).symm (ed_var 9 rfl)) (ek_own 3 rfl) (Sta.k_tup _) (Sta.k_depth _))) hu1) fun hu => by
          obtain ⟨z, hz1, hz2⟩ := hu2 hu
          exact ew_or1 (et_cast (et_of (ed_lt (ed_get (t := stT PyData.int y.1) (k := (h.gb s g2 c).1.k) G (ek_own 3 rfl) (ed_c (Sta.k_data _).symm (ed_var 9 rfl)) (Sta.k_tup _) (Sta.k_depth _) hz1) (j := (h.gb s g2 c).2) (ed_var 10 rfl))) hz2))) (hu3.trans hbt)) (fun h => by cases h) fun _ => sd_nil (sd_endL [8, 9, 10] rfl))
      | true =>
        rw [if_pos hbt] at hy
        cases hy
        refine sd_cons (s_if (u := true) (et_cast (et_w (ew_or (et_cast (et_of (ed_notInD (t := stT PyData.int y.1) (k := (h.gb s g2 c).1.k) G (ed_c (Sta.k_data _).symm (ed_var 9 rfl)) (ek_own 3 rfl) (Sta.k_tup _) (Sta.k_depth _))) hu1) fun hu => by
          obtain ⟨z, hz1, hz2⟩ := hu2 hu
          exact ew_or1 (et_cast (et_of (ed_lt (ed_get (t := stT PyData.int y.1) (k := (h.gb s g2 c).1.k) G (ek_own 3 rfl) (ed_c (Sta.k_data _).symm (ed_var 9 rfl)) (Sta.k_tup _) (Sta.k_depth _) hz1) (j := (h.gb s g2 c).2) (ed_var 10 rfl))) hz2))) (hu3.trans hbt)) (fun _ => ?_) fun h => by cases h)
        refine sd_cons (s_asg (ed_tup (ea_cons (ed_var 10 rfl) (ea_cons (ed_tup (ea_cons (ed_var 7 rfl) (ea_cons (ed_var 8 rfl) ea_nil)) (Nat.le_of_ble_eq_true rfl)) (ea_cons ed_bl ea_nil))) (Nat.le_of_ble_eq_true rfl)) (gt_tup G.calm (gts_cons (gt_sub (t := stT PyData.int y.1) (k := (h.gb s g2 c).1.k) 3 G rfl (ed_c (Sta.k_data _).symm (ed_var 9 rfl)) (Sta.k_depth _) (Sta.k_tup _) (by rw [stT_len]; omega)) (gts_cons (gt_sub (t := stT cameD y.2.1) (k := (h.gb s g2 c).1.k) 4 G rfl (ed_c (Sta.k_data _).symm (ed_var 9 rfl)) (Sta.k_depth _) (Sta.k_tup _) (by rw [stT_len]; omega))
          (gts_cons (gt_sub (t := stT PyData.bool y.2.2) (k := (h.gb s g2 c).1.k) 6 G rfl (ed_c (Sta.k_data _).symm (ed_var 9 rfl)) (Sta.k_depth _) (Sta.k_tup _) (by rw [stT_len]; omega)) gts_nil))) rfl) (sd_nil (sd_endL [8, 9, 10] ?_)))
        show [dD h.d, _, _, dT (tput (stT PyData.int y.1) _ (.int (h.gb s g2 c).2)), dT (tput (stT cameD y.2.1) _ (cameD (some (s, c)))), _, dT (tput (stT PyData.bool y.2.2) _ (.bool true)), _, dZ, dZ, dZ, dZ] = _
        rw [stT_put PyData.int, stT_put cameD, stT_put PyData.bool]
    · have ek : (stT PyData.bool acc.2.2).map (fun p => p.1.data) = (acc.2.2.map (·.1)).map Sta.d := by
        unfold stT
        rw [List.map_map, List.map_map]
        exact List.map_congr_left fun p _ => p.1.k_data
      refine sd_cons (s_setL 2 (en_c ek (en_listN G (ek_own 6 rfl))) hN ?_)
      split at hr0
      · rename_i hlat
        cases hr0
        refine sd_cons (s_if (u := true) (et_cast (et_of (ed_eq G (ef_el (el_own 2 rfl)) (ef_el (el_new (en_lst ea_nil (Nat.zero_le _)))) (eqb_stas _) eqb_nilL)) (by rw [hlat]; rfl)) (fun _ => sd_frzD (i := 3) rfl (sd_frzD (i := 4) rfl (sd_one (s_ret (ed_tup (ea_cons (ed_var 3 rfl) (ea_cons (ed_var 4 rfl) (ea_cons ed_non ea_nil))) (Nat.le_of_ble_eq_true rfl)) rfl)))) fun h => by cases h)
      · rename_i x xs hlat
        refine sd_cons (s_if (u := false) (et_cast (et_of (ed_eq G (ef_el (el_own 2 rfl)) (ef_el (el_new (en_lst ea_nil (Nat.zero_le _)))) (eqb_stas _) eqb_nilL)) (by rw [hlat]; rfl)) (fun h => by cases h) fun _ => sd_nil (sd_frzL (i := 2) rfl (sd_endL [5, 6] ⟨acc.2.2.map (·.1), acc.1, acc.2.1, by rw [hlat]; simp, ?_, rfl⟩)))
        rw [show L.length + 1 - (i + 1) = n by omega, hlat]
        exact hr0
  · subst e
    rw [List.length_range, Nat.sub_self] at hr0
    unfold srun at hr0
    split at hr0
    · cases hr0
    · cases hr0
      exact sd_frzD (i := 3) rfl (sd_frzD (i := 4) rfl (sd_one (s_ret (ed_tup (ea_cons (ed_var 3 rfl) (ea_cons (ed_var 4 rfl) (ea_cons (ed_ix (eq_l (ed_var 2 rfl)) (i := 0) ed_int (atI_nat (j := 0) rfl)) ea_nil))) (Nat.le_of_ble_eq_true rfl)) rfl)))
end
end K79


set_option Elab.async false
set_option linter.all false
set_option maxRecDepth 100000
set_option maxHeartbeats 4000000
/-! verdicts: the walk that is told -/
namespace K79
open PySem PySem.Spec PyProof.Rows L2
theorem tget_put {κ α : Type} [DecidableEq κ] {t : List (κ × α)} {k k' : κ} {v : α} : tget (tput t k v) k' = if k = k' then some v else tget t k' := by
  unfold tput
  by_cases h : (tget t k).isSome = true
  · rw [if_pos h]
    induction t with
    | nil => cases h
    | cons p t ih =>
      rw [List.map_cons, tget_cons, tget_cons]
      rw [tget_cons] at h
      by_cases e : p.1 = k
      · rw [if_pos e]
        by_cases e2 : k = k'
        · rw [if_pos (show (p.1, v).1 = k' from e.trans e2), if_pos e2]
        · rw [if_neg (show ¬ (p.1, v).1 = k' from fun q => e2 (e.symm.trans q)), if_neg e2, if_neg (fun q => e2 (e.symm.trans q))]
          by_cases h2 : (tget t k).isSome = true
          · rw [ih h2, if_neg e2]
          · have hm : t.map (fun p => if p.1 = k then (p.1, v) else p) = t := by
              clear ih h
              induction t with
              | nil => rfl
              | cons q t ih =>
                rw [tget_cons] at h2
                by_cases e3 : q.1 = k
                · rw [if_pos e3] at h2; exact absurd rfl h2
                · rw [if_neg e3] at h2
                  rw [List.map_cons, if_neg e3, ih h2]
            rw [hm]
      · rw [if_neg e] at h
        rw [if_neg e, ih h]
        by_cases e2 : k = k'
        · rw [if_pos e2, if_pos e2, if_neg (fun q => e (q.trans e2.symm))]
        · rw [if_neg e2, if_neg e2]
  · rw [if_neg h]
    induction t with
    | nil =>
      rw [List.nil_append, tget_cons]
    | cons p t ih =>
      rw [tget_cons] at h
      by_cases e : p.1 = k
      · rw [if_pos e] at h; exact absurd rfl h
      · rw [if_neg e] at h
        rw [List.cons_append, tget_cons, tget_cons, ih h]
        by_cases e2 : k = k'
        · rw [if_pos e2, if_pos e2, if_neg (fun q => e (q.trans e2.symm))]
        · rw [if_neg e2, if_neg e2]
theorem tget_fold {κ α : Type} [DecidableEq κ] {v : κ → α} {k : κ} : ∀ {l : List κ} {t : List (κ × α)}, (k ∈ l ∨ tget t k = some (v k)) → tget (l.foldl (fun t s => tput t s (v s)) t) k = some (v k)
  | [], t, h => by
    rcases h with h | h
    · cases h
    · exact h
  | s :: l, t, h => by
    rw [List.foldl_cons]
    refine tget_fold ?_
    rw [tget_put]
    by_cases e : s = k
    · subst e; exact .inr (if_pos rfl)
    · rw [if_neg e]
      rcases h with h | h
      · rcases List.mem_cons.mp h with q | q
        · exact absurd q.symm e
        · exact .inl q
      · exact .inr h
theorem sta_eqv (s : Sta) : PyData.eqv s.d s.d = true := PySem.SeqAt.eqv_refl_plain _ (sta_plain s)
theorem eqb_sta (s : Sta) : Eqb s.d := ⟨sta_plain s, Nat.le_trans (sta_depth s) (by decide)⟩
/-- led back along came until a state is met again: that state -/
def ledC (c : List (Sta × Came)) : Nat → Sta → List (Sta × Bool) → Option Sta
  | 0, _, _ => none
  | n + 1, s, met => match tget c s with
    | some (some (s', _)) => if (tget met s').isSome = true then some s' else ledC c n s' (tput met s' true)
    | _ => none
def gstep (h : Hall) (x : Sta × Int) (a : Arc) : Option (Sta × Int) := if sok h x.1 = true then some (h.gb x.1 x.2 a) else none
/-! ways home -/
def wayOf (F : List Wy) (n : Nm) : Option (List Arc) := (F.find? fun p => p.1.beq n).map (·.2)
def isNext : Arc → Bool
  | .next _ => true
  | _ => false
def whSome (h : Hall) (t n : Nm) : List Arc := (h.arcsFrom n).filter fun a => !isNext a && (h.fin a).beq t
def whIn (h : Hall) (t : Nm) (acc : List Wy × List Nm) (n : Nm) : Option (List Wy × List Nm) :=
  if acc.1.length ≤ 500 ∧ acc.2.length ≤ 500 then (match wayOf acc.1 n with
    | some _ => some acc
    | none => match whSome h t n with
      | [] => some acc
      | a :: _ => match wayOf acc.1 t with
        | none => none
        | some as => if as.length ≤ 500 then some (acc.1 ++ [(n, a :: as)], acc.2 ++ [n]) else none) else none
def wh (h : Hall) : Nat → Nat → List Wy × List Nm → Option (List Wy)
  | 0, _, _ => none
  | n + 1, at_, acc => match acc.2[at_]? with
    | none => some acc.1
    | some t => match oFold (whIn h t) acc (h.ms.map (·.nm)) with
      | some acc' => wh h n (at_ + 1) acc'
      | none => none
def Hall.home (h : Hall) : Option (List Wy) := wh h 20 0 ([(.fill, [])], [.fill])
def homeS (F : List Wy) : STab := F.map fun x => (x.1.s, .tuple (x.2.map Arc.d))
theorem homeS_get (F : List Wy) (n : Nm) : tget (homeS F) n.s = (wayOf F n).map fun as => .tuple (as.map Arc.d) := by
  unfold wayOf
  induction F with
  | nil => rfl
  | cons x F ih =>
    show tget ((x.1.s, _) :: homeS F) n.s = _
    rw [tget_cons, List.find?_cons]
    by_cases e : x.1.s = n.s
    · rw [if_pos e, show x.1.beq n = true by rw [← Nm.dec]; simp [e]]; rfl
    · rw [if_neg e, show x.1.beq n = false by rw [← Nm.dec]; simp [e]]
      exact ih
section
variable {P : Program} {w : World} {K : PySem.W.Frag} {mg : Str → Option Value} {base : Heap}
def fn_led_back : List PyData → PyData → Prop := fun zs z_ => ∃ (c : List (Sta × Came)) (s s0 : Sta), zs = [tabD (stT cameD c), s.d] ∧ z_ = .tuple [.none, s0.d] ∧ ledC c 100 s [(s, true)] = some s0
theorem p_led_back (M : Md mg) (D : Dn K mg d_led_back) : FD P w K mg base "led_back" 2 1 fn_led_back := by
  obtain ⟨⟨fd, F⟩, g⟩ := D
  refine fd_of (N := ["came", "state", "arcs", "met", "arc"]) (ps := ["came", "state"]) (st := s_led_back) (k := 0) M F ⟨rfl, rfl, rfl, by decide, rfl, by decide, by decide⟩ g (fun _ _ _ _ _ _ us hl => match us, hl with | [_, _], _ => rfl) (fun zs z_ ⟨_, _, _, e, _⟩ => by subst e; rfl) fun f cdv A outer s H E hr G zs z_ hfn => ?_
  obtain ⟨c, s, s0, rfl, rfl, p1⟩ := hfn
  have hN : (["came", "state", "arcs", "met", "arc"] : List Str).Nodup := by decide
  refine sd_cons (s_par2 (u := .lst []) (v := .dic (stT PyData.bool [(s, true)])) 2 3 G (evs_cons (ev_l (en_lst ea_nil (Nat.zero_le _))) (evs_cons (ev_m (em_disp (k := s.k) G (ed_c s.k_data.symm (ed_var 1 rfl)) ed_bl s.k_tup s.k_depth)) evs_nil)) hN ?_)
  refine sd_cons (s_while (fun m ρ' => ∃ t met, ledC c m t met = some s0 ∧ ∃ as : List Arc, as.length + m ≤ 200 ∧ met.length + m ≤ 200 ∧ ρ' = [dD (tabD (stT cameD c)), dD t.d, dL (as.map Arc.d), dT (stT PyData.bool met), dZ]) 100 ⟨s, [(s, true)], p1, [], by simp, by simp, rfl⟩ (fun m ρ' ⟨t, met, hl, as, l1, l2, e⟩ => ?_))
  subst e
  cases m with
  | zero => cases hl
  | succ m =>
    rw [ledC] at hl
    split at hl
    case h_2 => cases hl
    rename_i t' a hc
    have hg : tget (stT cameD c) t.k = some (.tuple [t'.d, a.d]) := by rw [stT_get, hc]; rfl
    refine ⟨true, et_cast (et_of (ed_notN (ed_get (t := stT cameD c) (k := t.k) G (ek_ed (ed_var 0 rfl)) (ed_c t.k_data.symm (ed_var 1 rfl)) t.k_tup t.k_depth hg))) rfl, fun _ => ?_, fun h => by cases h⟩
    refine sd_cons (s_asg (ed_get (t := stT cameD c) (k := t.k) G (ek_ed (ed_var 0 rfl)) (ed_c t.k_data.symm (ed_var 1 rfl)) t.k_tup t.k_depth hg) (gt_of (gd_tup G.calm (gds_cons (gd_name 1 hN) (gds_cons (gd_name 4 hN) gds_nil)) rfl)) ?_)
    refine sd_cons (s_append (ds := as.map Arc.d) 2 rfl (ed_var 4 rfl) (by rw [List.length_map]; omega) ?_)
    have ht : ∀ u, (tget met t').isSome = u → (tget (stT PyData.bool met) t'.k).isSome = u := fun u e => by rw [stT_get, Option.isSome_map, e]
    cases hm : (tget met t').isSome with
    | true =>
      rw [if_pos hm] at hl
      cases hl
      exact sd_cons (s_if (u := true) (et_cast (et_of (ed_inD (t := stT PyData.bool met) (k := s0.k) G (ed_c s0.k_data.symm (ed_var 1 rfl)) (ek_own 3 rfl) s0.k_tup s0.k_depth)) (ht _ hm)) (fun _ => sd_one (s_ret (ed_tup (ea_cons ed_non (ea_cons (ed_var 1 rfl) ea_nil)) (Nat.le_of_ble_eq_true rfl)) rfl)) fun h => by cases h)
    | false =>
      rw [if_neg (by rw [hm]; exact Bool.false_ne_true)] at hl
      refine sd_cons (s_if (u := false) (et_cast (et_of (ed_inD (t := stT PyData.bool met) (k := t'.k) G (ed_c t'.k_data.symm (ed_var 1 rfl)) (ek_own 3 rfl) t'.k_tup t'.k_depth)) (ht _ hm)) (fun h => by cases h) fun _ => sd_nil ?_)
      refine sd_cons (s_asg ed_bl (gt_sub (t := stT PyData.bool met) (k := t'.k) 3 G rfl (ed_c t'.k_data.symm (ed_var 1 rfl)) t'.k_depth t'.k_tup (by rw [stT_len]; omega)) (sd_endL [4] ⟨m, Nat.lt_succ_self m, t', tput met t' true, hl, as ++ [a], by rw [List.length_append, List.length_singleton]; omega, by have := tput_length met t' true; omega, ?_⟩))
      show [_, dD t'.d, dL (as.map Arc.d ++ [a.d]), dT (tput (stT PyData.bool met) t'.k (.bool true)), dZ] = _
      rw [stT_put PyData.bool, List.map_append]; rfl
def fn_round_of : List PyData → PyData → Prop := fun zs z_ => ∃ (c : List (Sta × Came)) (s : Sta) (a : Arc), zs = [tabD (stT cameD c), s.d] ∧ z_ = .tuple [a.d] ∧ tget c s = some (some (s, a))
theorem p_round_of (M : Md mg) (D : Dn K mg d_round_of) : FD P w K mg base "round_of" 2 1 fn_round_of := by
  obtain ⟨⟨fd, F⟩, g⟩ := D
  refine fd_of (N := ["came", "state", "other", "arc", "arcs"]) (ps := ["came", "state"]) (st := s_round_of) (k := 0) M F ⟨rfl, rfl, rfl, by decide, rfl, by decide, by decide⟩ g (fun _ _ _ _ _ _ us hl => match us, hl with | [_, _], _ => rfl) (fun zs z_ ⟨_, _, _, e, _⟩ => by subst e; rfl) fun f cdv A outer s H E hr G zs z_ hfn => ?_
  obtain ⟨c, s, a, rfl, rfl, p1⟩ := hfn
  have hN : (["came", "state", "other", "arc", "arcs"] : List Str).Nodup := by decide
  have hg : tget (stT cameD c) s.k = some (.tuple [s.d, a.d]) := by rw [stT_get, p1]; rfl
  refine sd_cons (s_asg (ed_get (t := stT cameD c) (k := s.k) G (ek_ed (ed_var 0 rfl)) (ed_c s.k_data.symm (ed_var 1 rfl)) s.k_tup s.k_depth hg) (gt_of (gd_tup G.calm (gds_cons (gd_name 2 hN) (gds_cons (gd_name 3 hN) gds_nil)) rfl)) ?_)
  refine sd_cons (s_setL 4 (en_lst (ea_cons (ed_var 3 rfl) ea_nil) (Nat.le_of_ble_eq_true rfl)) hN ?_)
  refine sd_cons (s_while (fun _ ρ' => ρ' = [dD (tabD (stT cameD c)), dD s.d, dD s.d, dD a.d, dL [a.d]]) 0 rfl (fun m ρ' e => ?_))
  subst e
  refine ⟨false, et_cast (et_of (ed_ne G (ef_ed (ed_var 2 rfl)) (ef_ed (ed_var 1 rfl)) (eqb_sta s) (eqb_sta s))) (by rw [sta_eqv]; rfl), (fun h => by cases h), fun _ => ?_⟩
  exact sd_one (s_ret (ed_tupL G (el_new (en_rev (el_own 4 rfl)))) rfl)
def fn_way_from_full : List PyData → PyData → Prop := fun zs z_ => ∃ (h : Hall) (s : Sta), zs = [h.d, s.d] ∧ z_ = .tuple [s.1.d, .tuple []] ∧ HOk h ∧ s ∈ h.line
theorem p_way_from_full (M : Md mg) (D : Dn K mg d_way_from_full) (F_full_state : FD P w K mg base "full_state" 2 1 fn_full_state) (F_names_of : FD P w K mg base "names_of" 1 1 fn_names_of) : FD P w K mg base "way_from_full" 2 5 fn_way_from_full := by
  obtain ⟨⟨fd, F⟩, g⟩ := D
  refine fd_of (N := ["hall", "state", "line", "ways", "at", "arc", "other", "begin", "arcs", "name", "one"]) (ps := ["hall", "state"]) (st := s_way_from_full) (k := 4) M F ⟨rfl, rfl, rfl, by decide, rfl, by decide, by decide⟩ g (fun _ _ _ _ _ _ us hl => match us, hl with | [_, _], _ => rfl) (fun zs z_ ⟨_, _, e, _⟩ => by subst e; rfl) fun f cdv A outer s H E hr G zs z_ hfn => ?_
  obtain ⟨h, s, rfl, rfl, p1, p2⟩ := hfn
  have hN : (["hall", "state", "line", "ways", "at", "arc", "other", "begin", "arcs", "name", "one"] : List Str).Nodup := by decide
  have hm := p1.ml
  have e0 : (h.ms.map fun m => (h.full m.nm).d) = h.line.map Sta.d := by unfold Hall.line; rw [List.map_map]; rfl
  have hlen : h.line.length ≤ 4 := by unfold Hall.line; rw [List.length_map]; exact hm
  refine sd_cons (s_setLcm [("name", 9)] 2 (fun m : Mach => (h.full m.nm).d) (fun m => [(9, m.nm.d)]) G hN (ei_tup (we_call F_names_of (room_le hr) (ea_cons (ed_var 0 rfl) ea_nil) ⟨h, rfl, rfl, p1⟩)) (blk_ok rfl) (by omega) (fun d u hu => by simp at hu; simp [hu]) (fun s H C cl fp d hd => gd_name 9 hN) (fun s H C cl fp m hd => (we_call F_full_state (room_le hr) (ea_cons (ed_var 0 rfl) (ea_cons (ed_var 9 rfl) ea_nil)) ⟨h, m.nm, rfl, rfl, p1⟩)) ?_ (sw_true rfl rfl rfl rfl))
  rw [e0]
  let W : List (Sta × Sta) := h.line.foldl (fun t s => tput t s s) []
  let fW : Sta → PyData := fun s => .tuple [s.1.d, .tuple []]
  have hget : tget (stT fW W) s.k = some (.tuple [s.1.d, .tuple []]) := by
    rw [stT_get, tget_fold (v := fun s => s) (.inl p2)]; rfl
  refine sd_cons (s_par2 (u := .dic (stT fW W)) (v := .dat (iD 0)) 3 4 G (evs_cons (ev_m (em_c (stT_fold fW (fun s => s) h.line []) (em_dcO (own := [("one", 10)]) (gd := Sta.d) (fun s : Sta => s.k) (fun s => fW s) (fun s => [(10, s.d)]) G hN (eio_own 2 rfl) (blk_ok rfl) (by omega) (fun s H C cl fp x hd => ⟨fun u hu => by simp at hu; simp [hu], gd_name 10 hN, x.k_tup, x.k_depth, ed_c x.k_data.symm (ed_var 10 rfl), (ed_tup (ea_cons (ed_ix (eq_t (ed_var 10 rfl)) ed_int rfl) (ea_cons (ed_tup ea_nil (Nat.zero_le _)) ea_nil)) (Nat.le_of_ble_eq_true rfl))⟩)))) (evs_cons (ev_d ed_int) evs_nil)) hN ?_)
  refine sd_cons (s_while (fun _ ρ' => ρ' = [dD h.d, dD s.d, dL (h.line.map Sta.d), dT (stT fW W), dD (iD 0), dZ, dZ, dZ, dZ, dZ, dZ]) 0 rfl (fun m ρ' e => ?_))
  subst e
  refine ⟨false, et_cast (et_of (ed_notInD (t := stT fW W) (k := s.k) G (ed_c s.k_data.symm (ed_var 1 rfl)) (ek_own 3 rfl) s.k_tup s.k_depth)) (by rw [hget]; rfl), (fun h => by cases h), fun _ => ?_⟩
  exact sd_one (s_ret (ed_get (t := stT fW W) (k := s.k) G (ek_own 3 rfl) (ed_c s.k_data.symm (ed_var 1 rfl)) s.k_tup s.k_depth hget) rfl)
def fn_gain_along : List PyData → PyData → Prop := fun zs z_ => ∃ (h : Hall) (s : Sta) (as : List Arc) (r : Sta × Int), zs = [h.d, s.d, .tuple (as.map Arc.d)] ∧ z_ = .tuple [r.1.d, .int r.2] ∧ HOk h ∧ (∀ a ∈ as, a.ok h) ∧ oFold (gstep h) (s, 0) as = some r
theorem p_gain_along (M : Md mg) (D : Dn K mg d_gain_along) (F_gain_behind : FD P w K mg base "gain_behind" 4 4 fn_gain_behind) : FD P w K mg base "gain_along" 3 5 fn_gain_along := by
  obtain ⟨⟨fd, F⟩, g⟩ := D
  refine fd_of (N := ["hall", "state", "arcs", "gain", "arc"]) (ps := ["hall", "state", "arcs"]) (st := s_gain_along) (k := 4) M F ⟨rfl, rfl, rfl, by decide, rfl, by decide, by decide⟩ g (fun _ _ _ _ _ _ us hl => match us, hl with | [_, _, _], _ => rfl) (fun zs z_ ⟨_, _, _, _, e, _⟩ => by subst e; rfl) fun f cdv A outer s H E hr G zs z_ hfn => ?_
  obtain ⟨h, s, as, r, rfl, rfl, p1, p2, p3⟩ := hfn
  have hN : (["hall", "state", "arcs", "gain", "arc"] : List Str).Nodup := by decide
  refine sd_cons (s_set 3 ed_int hN ?_)
  refine sd_cons (s_forO (gd := Arc.d) G (ei_tup (ed_var 2 rfl)) (gstep h) (s, 0) (fun x => [dD h.d, dD x.1.d, dD (.tuple (as.map Arc.d)), dD (.int x.2), dZ]) p3 rfl (fun a x x' ha hx => ⟨_, gd_name 4 hN, ?_⟩) (sd_one (s_ret (ed_tup (ea_cons (ed_var 1 rfl) (ea_cons (ed_var 3 rfl) ea_nil)) (Nat.le_of_ble_eq_true rfl)) rfl)))
  unfold gstep at hx
  split at hx
  case isFalse => cases hx
  rename_i hok
  cases hx
  exact sd_cons (s_asg (we_call F_gain_behind (room_le hr) (ea_cons (ed_var 0 rfl) (ea_cons (ed_var 1 rfl) (ea_cons (ed_var 3 rfl) (ea_cons (ed_var 4 rfl) ea_nil)))) ⟨h, x.1, x.2, a, rfl, rfl, p1, p2 a ha, sok_ok hok⟩) (gt_of (gd_tup G.calm (gds_cons (gd_name 1 hN) (gds_cons (gd_name 3 hN) gds_nil)) rfl)) (sd_endL [4] rfl))
end
end K79


set_option Elab.async false
set_option linter.all false
set_option maxRecDepth 100000
set_option maxHeartbeats 4000000
/-! verdicts: ways home, the told walk, the table -/
namespace K79
open PySem PySem.Spec PyProof.Rows L2
theorem ed_newD {X : Cx} {e : Expr} {ρ : Env} {t : Tab} (h : EM X e ρ t) : ED X e ρ (tabD t) := fun O0 O H σ L rs Q q => h O0 O H σ L rs Q fun p o xs H' np ex hp hn hd =>
  q _ H' ex (.dic (by rw [hide_at (L.no np)]; exact hp) hn (hd.mono hide_add))
def gainT (b : List (Sta × Int)) : List (Sta × Int) := (sortSta (b.map (·.1))).foldl (fun t s => tput t s ((tget b s).getD 0)) []
def gainsD (r : Found) : PyData := match r.2.2 with
  | some _ => .none
  | none => tabD (stT PyData.int (gainT r.1))
theorem tget_key {κ α : Type} [DecidableEq κ] {k : κ} : ∀ {t : List (κ × α)}, k ∈ t.map (·.1) → ∃ v, tget t k = some v
  | p :: t, h => by
    rw [tget_cons]
    by_cases e : p.1 = k
    · exact ⟨_, if_pos e⟩
    · rw [if_neg e]
      rcases List.mem_cons.mp h with q | q
      · exact absurd q.symm e
      · exact tget_key q
theorem eqb_arcL (l : List Arc) : Eqb (.list (l.map Arc.d)) := by
  refine ⟨plainAll_map (fun a => (Arc.flat a).1) l, ?_⟩
  show PyData.depthAll _ + 1 ≤ 60
  have := depthAll_map (fun a => (Arc.flat a).2) l
  omega
theorem isNext_dec (a : Arc) : decide (a.w = ("next" : Str)) = isNext a := by
  cases a with
  | next n => exact (show decide (("next" : Str) = "next") = true by decide)
  | down i => exact (show decide (("down" : Str) = "next") = false by decide)
  | up i => exact (show decide (("up" : Str) = "next") = false by decide)
section
variable {P : Program} {w : World} {K : PySem.W.Frag} {mg : Str → Option Value} {base : Heap}
def fn_gains : List PyData → PyData → Prop := fun zs z_ => ∃ (h : Hall) (L : List Sta) (r : Found), zs = [h.d] ∧ z_ = gainsD r ∧ HOk h ∧ (∀ m ∈ h.ms, h.noBack m.nm = true) ∧ h.states = some L ∧ L.length ≤ 1000 ∧ h.ms ≠ [] ∧ srun h (L.length + 1) h.line (best0 h.line) (came0 h.line) = some r ∧ r.1.length ≤ 1000
theorem p_gains (M : Md mg) (D : Dn K mg d_gains) (F_searched : FD P w K mg base "searched" 1 7 fn_searched) : FD P w K mg base "gains" 1 8 fn_gains := by
  obtain ⟨⟨fd, F⟩, g⟩ := D
  refine fd_of (N := ["hall", "best", "came", "state", "one"]) (ps := ["hall"]) (st := s_gains) (k := 7) M F ⟨rfl, rfl, rfl, by decide, rfl, by decide, by decide⟩ g (fun _ _ _ _ _ _ us hl => match us, hl with | [_], _ => rfl) (fun zs z_ ⟨_, _, _, e, _⟩ => by subst e; rfl) fun f cdv A outer s H E hr G zs z_ hfn => ?_
  obtain ⟨h, L, r, rfl, rfl, p1, p2, p3, p4, p5, p6, p7⟩ := hfn
  have hN : (["hall", "best", "came", "state", "one"] : List Str).Nodup := by decide
  refine sd_cons (s_asg (we_call F_searched (room_le hr) (ea_cons (ed_var 0 rfl) ea_nil) ⟨h, L, r, rfl, rfl, p1, p2, p3, p4, p5, p6⟩) (gt_of (gd_tup G.calm (gds_cons (gd_name 1 hN) (gds_cons (gd_name 2 hN) (gds_cons (gd_name 3 hN) gds_nil))) rfl)) ?_)
  unfold gainsD
  cases hs : r.2.2 with
  | some s => exact sd_one (s_ret (ed_if (u := false) (et_cast (et_of (ed_isN (ed_var 3 rfl))) rfl) (fun h => by cases h) fun _ => ed_non) rfl)
  | none =>
    have ek : (stT PyData.int r.1).map (fun p => p.1.data) = (r.1.map (·.1)).map Sta.d := by
      unfold stT
      rw [List.map_map, List.map_map]
      exact List.map_congr_left fun p _ => p.1.k_data
    have hl : (r.1.map (·.1)).length ≤ 1000 := by rw [List.length_map]; exact p7
    have hss : (sortSta (r.1.map (·.1))).length ≤ 1000 := by rw [sortSta, List.length_mergeSort]; exact hl
    have so : SortOk ((stT PyData.int r.1).map fun p => p.1.data) := by rw [ek]; exact sort_sta (by omega)
    refine sd_one (s_ret (ed_if (u := true) (et_cast (et_of (ed_isN (ed_var 3 rfl))) rfl) (fun _ => ed_newD (em_c (stT_fold PyData.int (fun s => (tget r.1 s).getD 0) (sortSta (r.1.map (·.1))) []) (em_dc (own := [("one", 4)]) (gd := Sta.d) (fun s : Sta => s.k) (fun s => .int ((tget r.1 s).getD 0)) (fun s => [(4, s.d)]) G hN (ei_lst (ed_new (en_c (by rw [ek, sortSta_map]) (en_sortN G (ek_ed (ed_var 1 rfl)) so)))) (blk_ok rfl) (by omega) (fun s H C cl fp x hd => ⟨fun u hu => by simp at hu; simp [hu], gd_name 4 hN, x.k_tup, x.k_depth, ed_c x.k_data.symm (ed_var 4 rfl), ed_get (t := stT PyData.int r.1) (k := x.k) (G.blk _ _ _ _ _) (ek_ed (ed_var 1 rfl)) (ed_c x.k_data.symm (ed_var 4 rfl)) x.k_tup x.k_depth ?_⟩)))) fun h => by cases h) rfl)
    obtain ⟨v, hv⟩ := tget_key (List.mem_mergeSort.mp hd)
    rw [stT_get, hv]; rfl
def fn_ways_home : List PyData → PyData → Prop := fun zs z_ => ∃ (h : Hall) (F : List Wy), zs = [h.d] ∧ z_ = stabD (homeS F) ∧ HOk h ∧ h.home = some F
theorem p_ways_home (M : Md mg) (D : Dn K mg d_ways_home) (F_names_of : FD P w K mg base "names_of" 1 1 fn_names_of) (F_arcs_from : FD P w K mg base "arcs_from" 2 3 fn_arcs_from) (F_end_of : FD P w K mg base "end_of" 2 1 fn_end_of) : FD P w K mg base "ways_home" 1 4 fn_ways_home := by
  obtain ⟨⟨fd, F⟩, g⟩ := D
  refine fd_of (N := ["hall", "found", "line", "at", "name", "some", "arc"]) (ps := ["hall"]) (st := s_ways_home) (k := 3) M F ⟨rfl, rfl, rfl, by decide, rfl, by decide, by decide⟩ g (fun _ _ _ _ _ _ us hl => match us, hl with | [_], _ => rfl) (fun zs z_ ⟨_, _, e, _⟩ => by subst e; rfl) fun f cdv A outer s H E hr G zs z_ hfn => ?_
  obtain ⟨h, F, rfl, rfl, p1, p2⟩ := hfn
  have hN : (["hall", "found", "line", "at", "name", "some", "arc"] : List Str).Nodup := by decide
  refine sd_cons (s_tupN (is := [1, 2, 3]) (pvs := [.dks (homeS [(.fill, [])]), .lst [Nm.fill.d], .dat (iD 0)]) G (evs_cons (ev_s (ems_disp (ed_ix (eq_t (ed_var 0 rfl)) ed_int rfl) (ed_tup ea_nil (Nat.zero_le _)))) (evs_cons (ev_l (en_lst (ea_cons (ed_ix (eq_t (ed_var 0 rfl)) ed_int rfl) ea_nil) (Nat.le_of_ble_eq_true rfl))) (evs_cons (ev_d ed_int) evs_nil))) (gns_cons 1 hN (gns_cons 2 hN (gns_cons 3 hN gns_nil))) rfl (Nat.le_of_ble_eq_true rfl) ?_ rfl)
  refine sd_cons (s_while (fun m ρ' => ∃ i acc, wh h m i acc = some F ∧ ρ' = [dD h.d, some (.dks (homeS acc.1)), dL (acc.2.map Nm.d), dD (iD i), dZ, dZ, dZ]) 20 ⟨0, ([(.fill, [])], [.fill]), p2, rfl⟩ (fun m ρ' ⟨i, acc, hb, e⟩ => ?_))
  subst e
  cases m with
  | zero => cases hb
  | succ m =>
    rw [wh] at hb
    refine ⟨decide (i < acc.2.length), et_cast (et_of (ed_lt (ed_var 3 rfl) (ed_len G (eq_el (el_own 2 rfl))))) (decide_eq_decide.mpr (by rw [List.length_map]; omega)), fun hlt => ?_, fun hge => ?_⟩
    · have hlt := of_decide_eq_true hlt
      obtain ⟨t, ht⟩ : ∃ t, acc.2[i]? = some t := ⟨acc.2[i], List.getElem?_eq_getElem hlt⟩
      rw [ht] at hb
      simp only at hb
      split at hb
      case h_2 => cases hb
      rename_i acc' hf
      have hgs : ∀ {l : List Nm}, l[i]? = some t → atI (l.map Nm.d) (i : Int) = some t.d := fun {l} e => atI_nat (by rw [List.getElem?_map, e]; rfl)
      refine sd_cons (s_forI (gd := Nm.d) G (EI.cast (ei_tup (we_call F_names_of (room_le hr) (ea_cons (ed_var 0 rfl) ea_nil) ⟨h, rfl, rfl, p1⟩)) (by rw [List.map_map]; rfl)) (whIn h t) acc (fun b => [dD h.d, some (.dks (homeS b.1)), dL (b.2.map Nm.d), dD (iD i), dZ, dZ, dZ]) (fun b => b.2[i]? = some t) hf rfl ht (fun n b b' hn hx hb' => ?_) (fun n b b' hn hx hb' => ⟨_, gd_name 4 hN, ?_⟩) fun hx => ?_)
      · unfold whIn at hb'
        split at hb'
        case isFalse => cases hb'
        split at hb'
        · cases hb'; exact hx
        · split at hb'
          · cases hb'; exact hx
          · split at hb'
            · cases hb'
            · split at hb'
              · cases hb'
                obtain ⟨hi, _⟩ := List.getElem?_eq_some_iff.mp hx
                rw [List.getElem?_append_left hi]; exact hx
              · cases hb'
      · have hsl : (whSome h t n).length ≤ 12 := Nat.le_trans (List.length_filter_le _ _) (arcsFrom_len p1 _)
        refine sd_cons (s_setLcf [("arc", 6)] 5 (fun a : Arc => !isNext a && (h.fin a).beq t) Arc.d (fun a => [(6, a.d)]) G hN (ei_tup (we_call F_arcs_from (room_le hr) (ea_cons (ed_var 0 rfl) (ea_cons (ed_var 4 rfl) ea_nil)) ⟨h, n, rfl, rfl, p1⟩)) (blk_ok rfl) (by have := arcsFrom_len p1 n; omega) (fun d u hu => by simp at hu; simp [hu]) (fun s H C cl fp d hd => gd_name 6 hN)
          (fun s H C cl fp a hd => ets_one (et_cast (et_w (ew_and (et_of (ed_neS (x := a.w) (ed_ix (eq_t (ed_var 6 rfl)) ed_int rfl) ed_str)) fun _ => ew_and1 (et_of (ed_eqS (we_call F_end_of (room_le hr) (ea_cons (ed_var 0 rfl) (ea_cons (ed_var 6 rfl) ea_nil)) ⟨h, a, rfl, rfl, arcsFrom_ok hd⟩) (ed_ix (eq_el (el_own 2 rfl)) (ed_var 3 rfl) (hgs hx)))))) (by rw [isNext_dec, Nm.dec]))) (fun s H C cl fp a hd _ => (ed_var 6 rfl)) ?_ (sw_true rfl rfl rfl rfl))
        change SD _ _ [dD h.d, some (.dks (homeS b.1)), dL (b.2.map Nm.d), dD (iD i), dD n.d, dL ((whSome h t n).map Arc.d), dZ] _
        unfold whIn at hb'
        split at hb'
        case isFalse => cases hb'
        rename_i hsz
        have hf1 : ∀ u, (wayOf b.1 n).isSome = u → (!(tget (homeS b.1) n.s).isSome) = !u := fun u e => by rw [homeS_get, Option.isSome_map, e]
        have e2 : ∀ l, whSome h t n = l → (!PyData.eqv (.list ((whSome h t n).map Arc.d)) (.list [])) = !l.isEmpty := fun l e => by rw [e]; cases l <;> rfl
        cases q : wayOf b.1 n with
        | some as0 =>
          rw [q] at hb'
          cases hb'
          exact sd_cons (s_if (u := false) (et_cast (et_w (ew_and (v := false) (et_cast (et_of (ed_notInS (t := homeS b.1) (y := n.s) G (ed_var 4 rfl) (eks_own 1 rfl))) (hf1 true (by rw [q]; rfl))) fun hu => by cases hu)) rfl) (fun h => by cases h) fun _ => sd_nil (sd_endL [4, 5] rfl))
        | none =>
          rw [q] at hb'
          have c1 := hf1 false (by rw [q]; rfl)
          cases q2 : whSome h t n with
          | nil =>
            rw [q2] at hb'
            cases hb'
            exact sd_cons (s_if (u := false) (et_cast (et_w (ew_and (et_cast (et_of (ed_notInS (t := homeS b.1) (y := n.s) G (ed_var 4 rfl) (eks_own 1 rfl))) c1) fun _ => ew_and1 (et_of (ed_ne G (ef_el (el_own 5 rfl)) (ef_el (el_new (en_lst ea_nil (Nat.zero_le _)))) (eqb_arcL []) eqb_nilL)))) rfl) (fun h => by cases h) fun _ => sd_nil (sd_endL [4, 5] rfl))
          | cons a rest =>
            rw [q2] at hb'
            simp only at hb'
            split at hb'
            · cases hb'
            rename_i as qa
            split at hb'
            case isFalse => cases hb'
            rename_i hla
            cases hb'
            have ga : tget (homeS b.1) t.s = some (.tuple (as.map Arc.d)) := by rw [homeS_get, qa]; rfl
            refine sd_cons (s_if (u := true) (et_cast (et_w (ew_and (et_cast (et_of (ed_notInS (t := homeS b.1) (y := n.s) G (ed_var 4 rfl) (eks_own 1 rfl))) c1) fun _ => ew_and1 (et_of (ed_ne G (ef_el (el_own 5 rfl)) (ef_el (el_new (en_lst ea_nil (Nat.zero_le _)))) (eqb_arcL (a :: rest)) eqb_nilL)))) rfl) (fun _ => ?_) fun h => by cases h)
            refine sd_cons (s_asg (ed_tup (ea_cons (ed_ix (eq_el (el_own 5 rfl)) (i := 0) ed_int (atI_nat (j := 0) rfl)) (ea_star (ed_getS (t := homeS b.1) (y := t.s) G (eks_own 1 rfl) (ed_ix (eq_el (el_own 2 rfl)) (ed_var 3 rfl) (hgs hx)) ga) ea_nil)) (by rw [sizeLine_eq]; simp; omega)) (gt_subS (t := homeS b.1) (y := n.s) 1 G rfl (ed_var 4 rfl) (by unfold homeS; rw [List.length_map]; omega)) ?_)
            refine sd_cons (s_append (ds := b.2.map Nm.d) 2 rfl (ed_var 4 rfl) (by rw [List.length_map]; omega) (sd_nil (sd_endL [4, 5] ?_)))
            have hnn : tget (homeS b.1) n.s = none := by rw [homeS_get, q]; rfl
            show [dD h.d, some (.dks (tput (homeS b.1) n.s _)), dL (b.2.map Nm.d ++ [n.d]), dD (iD i), dZ, dZ, dZ] = _
            rw [tput_new hnn]
            unfold homeS
            simp only [List.map_append, List.map_cons, List.map_nil, List.append_nil]
      · exact sd_cons (s_aug (f := fun i j => i + j) (m := (i : Int)) (n := 1) 3 ip_add rfl ed_int hN (sd_nil ⟨m, Nat.lt_succ_self m, i + 1, acc', hb, by
          show [dD h.d, _, _, dD (.int ((i : Int) + 1)), dZ, dZ, dZ] = _
          rw [show ((i : Int) + 1) = ((i + 1 : Nat) : Int) by omega]⟩))
    · have hi : ¬ i < acc.2.length := of_decide_eq_false hge
      rw [List.getElem?_eq_none (by omega)] at hb
      simp only at hb
      cases hb
      exact sd_frzS (i := 1) rfl (sd_one (s_ret (ed_var 1 rfl) rfl))
def fn_way_to_filler : List PyData → PyData → Prop := fun zs z_ => ∃ (h : Hall) (n : Nm) (F : List Wy) (as : List Arc), zs = [h.d, n.d] ∧ z_ = .tuple (as.map Arc.d) ∧ HOk h ∧ h.home = some F ∧ wayOf F n = some as
theorem p_way_to_filler (M : Md mg) (D : Dn K mg d_way_to_filler) (F_ways_home : FD P w K mg base "ways_home" 1 4 fn_ways_home) : FD P w K mg base "way_to_filler" 2 5 fn_way_to_filler := by
  obtain ⟨⟨fd, F⟩, g⟩ := D
  refine fd_of (N := ["hall", "name"]) (ps := ["hall", "name"]) (st := s_way_to_filler) (k := 4) M F ⟨rfl, rfl, rfl, by decide, rfl, by decide, by decide⟩ g (fun _ _ _ _ _ _ us hl => match us, hl with | [_, _], _ => rfl) (fun zs z_ ⟨_, _, _, _, e, _⟩ => by subst e; rfl) fun f cdv A outer s H E hr G zs z_ hfn => ?_
  obtain ⟨h, n, F, as, rfl, rfl, p1, p2, p3⟩ := hfn
  have hN : (["hall", "name"] : List Str).Nodup := by decide
  exact sd_one (s_ret (ed_getS (t := homeS F) (y := n.s) G (eks_ed (we_call F_ways_home (room_le hr) (ea_cons (ed_var 0 rfl) ea_nil) ⟨h, F, rfl, rfl, p1, p2⟩)) (ed_var 1 rfl) (by rw [homeS_get, p3]; rfl)) rfl)
def fn_rounds_walk : List PyData → PyData → Prop := fun zs z_ => ∃ (h : Hall) (n : Nm) (a b : Arc) (F : List Wy) (x y : Sta × Int) (m : Nat), zs = [h.d, (h.full n).d, .tuple [a.d]] ∧ z_ = wayD n (List.replicate m a ++ [b]) ∧ HOk h ∧ h.full n ∈ h.line ∧ a.ok h ∧ b.ok h ∧ h.home = some F ∧ wayOf F n = some [b] ∧ oFold (gstep h) (h.full n, 0) [b] = some x ∧ oFold (gstep h) (h.full n, 0) [a] = some y ∧ (0 < y.2 ∧ y.2 < 1000000) ∧ (m : Int) = max 0 (-x.2 / y.2 + 1) ∧ m ≤ 100000
theorem p_rounds_walk (M : Md mg) (D : Dn K mg d_rounds_walk) (F_way_from_full : FD P w K mg base "way_from_full" 2 5 fn_way_from_full) (F_way_to_filler : FD P w K mg base "way_to_filler" 2 5 fn_way_to_filler) (F_gain_along : FD P w K mg base "gain_along" 3 5 fn_gain_along) (F_full_state : FD P w K mg base "full_state" 2 1 fn_full_state) : FD P w K mg base "rounds_walk" 3 6 fn_rounds_walk := by
  obtain ⟨⟨fd, F⟩, g⟩ := D
  refine fd_of (N := ["hall", "state", "arcs", "begin", "first", "home", "have", "each", "many"]) (ps := ["hall", "state", "arcs"]) (st := s_rounds_walk) (k := 5) M F ⟨rfl, rfl, rfl, by decide, rfl, by decide, by decide⟩ g (fun _ _ _ _ _ _ us hl => match us, hl with | [_, _, _], _ => rfl) (fun zs z_ ⟨_, _, _, _, _, _, _, _, e, _⟩ => by subst e; rfl) fun f cdv A outer s H E hr G zs z_ hfn => ?_
  obtain ⟨h, n, a, b, F, x, y, m, rfl, rfl, p1, p2, p3, p4, p5, p6, p7, p8, p9, p10, p11⟩ := hfn
  have hN : (["hall", "state", "arcs", "begin", "first", "home", "have", "each", "many"] : List Str).Nodup := by decide
  refine sd_cons (s_asg (we_call F_way_from_full (room_le hr) (ea_cons (ed_var 0 rfl) (ea_cons (ed_var 1 rfl) ea_nil)) ⟨h, h.full n, rfl, rfl, p1, p2⟩) (gt_of (gd_tup G.calm (gds_cons (gd_name 3 hN) (gds_cons (gd_name 4 hN) gds_nil)) rfl)) ?_)
  refine sd_cons (s_set 5 (we_call F_way_to_filler (room_le hr) (ea_cons (ed_var 0 rfl) (ea_cons (ed_ix (eq_t (ed_var 1 rfl)) ed_int rfl) ea_nil)) ⟨h, n, F, [b], rfl, rfl, p1, p5, p6⟩) hN ?_)
  refine sd_cons (s_set (d := .int x.2) 6 (ed_c ?_ (ed_add (i := 0) (j := x.2) (ed_ix (eq_t (we_call F_gain_along (room_le hr) (ea_cons (ed_var 0 rfl) (ea_cons (we_call F_full_state (room_le hr) (ea_cons (ed_var 0 rfl) (ea_cons (ed_var 3 rfl) ea_nil)) ⟨h, n, rfl, rfl, p1⟩) (ea_cons (ed_var 4 rfl) ea_nil))) ⟨h, h.full n, [], (h.full n, 0), rfl, rfl, p1, (fun a h => by cases h), rfl⟩)) ed_int rfl) (ed_ix (eq_t (we_call F_gain_along (room_le hr) (ea_cons (ed_var 0 rfl) (ea_cons (ed_var 1 rfl) (ea_cons (ed_var 5 rfl) ea_nil))) ⟨h, h.full n, [b], x, rfl, rfl, p1, (fun c hc => by rw [List.mem_singleton] at hc; rw [hc]; exact p4), p7⟩)) ed_int rfl))) hN ?_)
  · exact congrArg PyData.int (Int.zero_add _)
  refine sd_cons (s_set 7 (ed_ix (eq_t (we_call F_gain_along (room_le hr) (ea_cons (ed_var 0 rfl) (ea_cons (ed_var 1 rfl) (ea_cons (ed_var 2 rfl) ea_nil))) ⟨h, h.full n, [a], y, rfl, rfl, p1, (fun c hc => by rw [List.mem_singleton] at hc; rw [hc]; exact p3), p8⟩)) ed_int rfl) hN ?_)
  refine sd_cons (s_set (d := .int (m : Int)) 8 (ed_c (congrArg PyData.int p10.symm) (ed_max G ed_int (ed_add (ed_fdiv (ed_neg (ed_var 6 rfl)) (ed_var 7 rfl) ⟨p9.1, by have := p9.2; omega⟩) ed_int))) hN ?_)
  refine sd_one (s_ret (ed_tup (ea_cons (ed_var 3 rfl) (ea_cons (ed_c ?_ (ed_cat (ed_cat (ed_var 4 rfl) (ed_rep (ds := [a.d]) (k := m) (ed_var 2 rfl) (ed_var 8 rfl) (by simp) p11 (by simp)) ?_) (ed_var 5 rfl) ?_)) ea_nil)) (Nat.le_of_ble_eq_true rfl)) rfl)
  · show PyData.tuple _ = PyData.tuple _
    rw [List.map_append, List.map_replicate, List.nil_append]
    congr 2
    clear p10 p11
    induction m with
    | zero => rfl
    | succ m ih => rw [List.replicate_succ, List.replicate_succ, List.flatten_cons, ih]; rfl
  · rw [sizeLine_eq]; simp; omega
  · rw [sizeLine_eq]; simp; omega
end
/-- all that the slow halls' search shows -/
structure Told (h : Hall) (L : List Sta) (b : List (Sta × Int)) (c : List (Sta × Came)) (s : Sta) (n : Nm) (x y : Arc) (F : List Wy) (gx gy : Sta × Int) (m : Nat) : Prop where
  ok : HOk h
  live : ∀ k ∈ h.ms, h.noBack k.nm = true
  sts : h.states = some L
  ln : L.length ≤ 1000
  ne : h.ms ≠ []
  run : srun h (L.length + 1) h.line (best0 h.line) (came0 h.line) = some (b, c, some s)
  bl : b.length ≤ 1000
  led : ledC c 100 s [(s, true)] = some (h.full n)
  rnd : tget c (h.full n) = some (some (h.full n, x))
  inl : h.full n ∈ h.line
  xok : x.ok h
  yok : y.ok h
  hm : h.home = some F
  way : wayOf F n = some [y]
  gyr : oFold (gstep h) (h.full n, 0) [y] = some gy
  gxr : oFold (gstep h) (h.full n, 0) [x] = some gx
  pos : 0 < gx.2 ∧ gx.2 < 1000000
  many : (m : Int) = max 0 (-gy.2 / gx.2 + 1)
  mle : m ≤ 100000
section
variable {P : Program} {w : World} {K : PySem.W.Frag} {mg : Str → Option Value} {base : Heap}
def fn_paying_walk : List PyData → PyData → Prop := fun zs z_ => ∃ (h : Hall) (L : List Sta) (b : List (Sta × Int)) (c : List (Sta × Came)) (s : Sta) (n : Nm) (x y : Arc) (F : List Wy) (gx gy : Sta × Int) (m : Nat), zs = [h.d] ∧ z_ = wayD n (List.replicate m x ++ [y]) ∧ Told h L b c s n x y F gx gy m
theorem p_paying_walk (M : Md mg) (D : Dn K mg d_paying_walk) (F_searched : FD P w K mg base "searched" 1 7 fn_searched) (F_led_back : FD P w K mg base "led_back" 2 1 fn_led_back) (F_rounds_walk : FD P w K mg base "rounds_walk" 3 6 fn_rounds_walk) (F_round_of : FD P w K mg base "round_of" 2 1 fn_round_of) : FD P w K mg base "paying_walk" 1 8 fn_paying_walk := by
  obtain ⟨⟨fd, F⟩, g⟩ := D
  refine fd_of (N := ["hall", "best", "came", "state", "begin", "arcs", "last"]) (ps := ["hall"]) (st := s_paying_walk) (k := 7) M F ⟨rfl, rfl, rfl, by decide, rfl, by decide, by decide⟩ g (fun _ _ _ _ _ _ us hl => match us, hl with | [_], _ => rfl) (fun zs z_ ⟨_, _, _, _, _, _, _, _, _, _, _, _, e, _⟩ => by subst e; rfl) fun f cdv A outer s H E hr G zs z_ hfn => ?_
  obtain ⟨h, L, b, c, s, n, x, y, F, gx, gy, m, rfl, rfl, p1⟩ := hfn
  have hN : (["hall", "best", "came", "state", "begin", "arcs", "last"] : List Str).Nodup := by decide
  refine sd_cons (s_asg (we_call F_searched (room_le hr) (ea_cons (ed_var 0 rfl) ea_nil) ⟨h, L, (b, c, some s), rfl, rfl, p1.ok, p1.live, p1.sts, p1.ln, p1.ne, p1.run⟩) (gt_of (gd_tup G.calm (gds_cons (gd_name 1 hN) (gds_cons (gd_name 2 hN) (gds_cons (gd_name 3 hN) gds_nil))) rfl)) ?_)
  refine sd_cons (s_if (u := false) (et_cast (et_of (ed_isN (ed_var 3 rfl))) rfl) (fun h => by cases h) fun _ => sd_nil ?_)
  refine sd_cons (s_asg (we_call F_led_back (room_le hr) (ea_cons (ed_var 2 rfl) (ea_cons (ed_var 3 rfl) ea_nil)) ⟨c, s, h.full n, rfl, rfl, p1.led⟩) (gt_of (gd_tup G.calm (gds_cons (gd_name 4 hN) (gds_cons (gd_name 5 hN) gds_nil)) rfl)) ?_)
  exact sd_cons (s_if (u := true) (et_cast (et_of (ed_isN (ed_var 4 rfl))) rfl) (fun _ => sd_one (s_ret (we_call F_rounds_walk (room_le hr) (ea_cons (ed_var 0 rfl) (ea_cons (ed_var 5 rfl) (ea_cons (we_call F_round_of (room_le hr) (ea_cons (ed_var 2 rfl) (ea_cons (ed_var 5 rfl) ea_nil)) ⟨c, h.full n, x, rfl, rfl, p1.rnd⟩) ea_nil))) ⟨h, n, x, y, F, gy, gx, m, rfl, rfl, p1.ok, p1.inl, p1.xok, p1.yok, p1.hm, p1.way, p1.gyr, p1.gxr, p1.pos, p1.many, p1.mle⟩) rfl)) fun h => by cases h)
end
/-- what verdict hands back -/
inductive Vd (h : Hall) : PyData → Prop
  | waits {L : List Sta} {b : List (Sta × Int)} {c : List (Sta × Came)} {s : Sta} {n : Nm} {x y : Arc} {F : List Wy} {gx gy : Sta × Int} {m : Nat} (t : Told h L b c s n x y F gx gy m) : Vd h (.tuple [.str "waits", wayD n (List.replicate m x ++ [y])])
  | holds {L : List Sta} {b : List (Sta × Int)} {c : List (Sta × Came)} (ok : HOk h) (live : ∀ k ∈ h.ms, h.noBack k.nm = true) (sts : h.states = some L) (ln : L.length ≤ 1000) (ne : h.ms ≠ []) (run : srun h (L.length + 1) h.line (best0 h.line) (came0 h.line) = some (b, c, none)) (bl : b.length ≤ 1000) :
      Vd h (.tuple [.str "holds", tabD (stT PyData.int (gainT b))])
section
variable {P : Program} {w : World} {K : PySem.W.Frag} {mg : Str → Option Value} {base : Heap}
def fn_verdict : List PyData → PyData → Prop := fun zs z_ => ∃ (h : Hall) (d : PyData), zs = [h.d] ∧ z_ = d ∧ Vd h d
theorem p_verdict (M : Md mg) (D : Dn K mg d_verdict) (F_gains : FD P w K mg base "gains" 1 8 fn_gains) (F_paying_walk : FD P w K mg base "paying_walk" 1 8 fn_paying_walk) : FD P w K mg base "verdict" 1 9 fn_verdict := by
  obtain ⟨⟨fd, F⟩, g⟩ := D
  refine fd_of (N := ["hall", "table"]) (ps := ["hall"]) (st := s_verdict) (k := 8) M F ⟨rfl, rfl, rfl, by decide, rfl, by decide, by decide⟩ g (fun _ _ _ _ _ _ us hl => match us, hl with | [_], _ => rfl) (fun zs z_ ⟨_, _, e, _⟩ => by subst e; rfl) fun f cdv A outer s H E hr G zs z_ hfn => ?_
  obtain ⟨h, d, rfl, rfl, p1⟩ := hfn
  have hN : (["hall", "table"] : List Str).Nodup := by decide
  cases p1 with
  | @waits L b c s n x y F gx gy m t =>
    refine sd_cons (s_set 1 (we_call F_gains (room_le hr) (ea_cons (ed_var 0 rfl) ea_nil) ⟨h, L, (b, c, some s), rfl, rfl, t.ok, t.live, t.sts, t.ln, t.ne, t.run, t.bl⟩) hN ?_)
    exact sd_one (s_ret (ed_if (u := true) (et_cast (et_of (ed_isN (ed_var 1 rfl))) rfl) (fun _ => (ed_tup (ea_cons ed_str (ea_cons (we_call F_paying_walk (room_le hr) (ea_cons (ed_var 0 rfl) ea_nil) ⟨h, L, b, c, s, n, x, y, F, gx, gy, m, rfl, rfl, t⟩) ea_nil)) (Nat.le_of_ble_eq_true rfl))) fun h => by cases h) rfl)
  | @holds L b c ok live sts ln ne run bl =>
    refine sd_cons (s_set 1 (we_call F_gains (room_le hr) (ea_cons (ed_var 0 rfl) ea_nil) ⟨h, L, (b, c, none), rfl, rfl, ok, live, sts, ln, ne, run, bl⟩) hN ?_)
    exact sd_one (s_ret (ed_if (u := false) (et_cast (et_of (ed_isN (ed_var 1 rfl))) rfl) (fun h => by cases h) fun _ => (ed_tup (ea_cons ed_str (ea_cons (ed_var 1 rfl) ea_nil)) (Nat.le_of_ble_eq_true rfl))) rfl)
end
end K79


set_option Elab.async false
set_option linter.all false
set_option maxRecDepth 100000
set_option maxHeartbeats 4000000
/-! walkstops: what a walk gains -/
namespace K79
open PySem PySem.Spec PyProof.Rows L2
def Hall.places (h : Hall) : List (Nm × Nat) := h.ms.flatMap fun m => (List.range m.ps.length).map fun i => (m.nm, i)
def Hall.psize (h : Hall) (p : Nm × Nat) : Nat := ((h.purs p.1).getD p.2 (0, 0)).1
def placeD (p : Nm × Nat) : PyData := .tuple [p.1.d, iD p.2]
def placeK (p : Nm × Nat) : NestedKey := .tup [.text p.1.s, .num (p.2 : Int)]
def heldT (h : Hall) : Tab := h.places.map fun p => (placeK p, iD (h.psize p))
structure POk (h : Hall) : Prop where
  one : h.places.length ≤ 1
  at_ : ∀ p ∈ h.places, ∃ m, h.mach p.1 = some m ∧ p.2 < m.ps.length
structure WOk (h : Hall) (n : Nm) (as : List Arc) : Prop where
  ok : HOk h
  pl : POk h
  way : Way h n as
  np : ∀ a ∈ as, ∃ m, h.mach (h.start a) = some m ∧ m.ps = []
def Hall.idxL (h : Hall) (as : List Arc) : List Nat := (h.idx as).1 ++ [(h.idx as).2]
theorem idxL_len (h : Hall) (as : List Arc) : (h.idxL as).length = as.length + 1 := by
  unfold Hall.idxL Hall.idx
  rw [List.length_append, idx_len]; simp
def endL (h : Hall) (as : List Arc) : List (Arc × Nat) := (as.zip (h.idxL as)).filter fun p => p.1.ends
def Hall.ticks (h : Hall) (as : List Arc) : Nat := (endL h as).foldl (fun t p => t + h.time (h.start p.1)) 0
def Hall.gain (h : Hall) (as : List Arc) : Int := (h.ticks as : Int) - (h.pace : Int) * ((h.idx as).2 : Int)
theorem time_of_mach {h : Hall} {n : Nm} {m : Mach} (e : h.mach n = some m) : h.time n = m.t := by unfold Hall.time; rw [e]; rfl
theorem placeK_tup (p : Nm × Nat) : ∃ ks, placeK p = .tup ks := ⟨_, rfl⟩
theorem placeK_depth (p : Nm × Nat) : (placeK p).depth ≤ 8 := by show max 0 (max 0 0) + 1 ≤ 8; omega
theorem psize_at {h : Hall} {p : Nm × Nat} {m : Mach} (e : h.mach p.1 = some m) (hi : p.2 < m.ps.length) : m.ps[p.2]? = some (h.psize p, (m.ps[p.2]).2) := by
  have : h.psize p = (m.ps[p.2]).1 := by
    unfold Hall.psize Hall.purs
    rw [e]
    simp [hi]
  rw [this, List.getElem?_eq_getElem hi]
theorem small_pre {α : Type} {pre as : List α} {a : α} (h : (pre ++ [a]) <+: as) (l : as.length ≤ 1) : pre = [] ∧ as = [a] := by
  obtain ⟨t, e⟩ := h
  have hl : pre.length + 1 + t.length ≤ 1 := by rw [← e] at l; simp at l; omega
  have h1 : pre = [] := List.eq_nil_of_length_eq_zero (by omega)
  have h2 : t = [] := List.eq_nil_of_length_eq_zero (by omega)
  subst h1 h2
  exact ⟨rfl, by rw [← e]; rfl⟩
section
variable {P : Program} {w : World} {K : PySem.W.Frag} {mg : Str → Option Value} {base : Heap}
def fn_indexes : List PyData → PyData → Prop := fun zs z_ => ∃ (h : Hall) (n : Nm) (as : List Arc), zs = [h.d, wayD n as] ∧ z_ = .tuple ((h.idxL as).map iD) ∧ HOk h ∧ (∀ a ∈ as, a.ok h) ∧ as.length ≤ 100000
theorem p_indexes (M : Md mg) (D : Dn K mg d_indexes) (F_growth_of : FD P w K mg base "growth_of" 2 1 fn_growth_of) : FD P w K mg base "indexes" 2 2 fn_indexes := by
  obtain ⟨⟨fd, F⟩, g⟩ := D
  refine fd_of (N := ["hall", "way", "found", "arc"]) (ps := ["hall", "way"]) (st := s_indexes) (k := 1) M F ⟨rfl, rfl, rfl, by decide, rfl, by decide, by decide⟩ g (fun _ _ _ _ _ _ us hl => match us, hl with | [_, _], _ => rfl) (fun zs z_ ⟨_, _, _, e, _⟩ => by subst e; rfl) fun f cdv A outer s H E hr G zs z_ hfn => ?_
  obtain ⟨h, n, as, rfl, rfl, p1, p2, p3⟩ := hfn
  have hN : (["hall", "way", "found", "arc"] : List Str).Nodup := by decide
  refine sd_cons (s_setL 2 (en_lst (ea_cons ed_int ea_nil) (Nat.le_of_ble_eq_true rfl)) hN ?_)
  refine sd_cons (s_forF (gd := Arc.d) G (ei_tup (ed_ix (eq_t (ed_var 1 rfl)) ed_int rfl)) (fun (p : List Nat × Nat) a => (p.1 ++ [p.2], p.2 + h.grow a)) ([], 0) (fun p => [dD h.d, dD (wayD n as), dL ((p.1 ++ [p.2]).map iD), dZ]) rfl (fun pre a hp => ⟨_, gd_name 3 hN, ?_⟩) (sd_one (s_ret (ed_tupL G (el_own 2 rfl)) rfl)))
  have hl := pre_len hp
  have hz := idx_len h pre ([], 0)
  generalize pre.foldl (fun (p : List Nat × Nat) a => (p.1 ++ [p.2], p.2 + h.grow a)) ([], 0) = st at hz
  simp only [List.length_nil, Nat.zero_add] at hz
  refine sd_cons (s_append (ds := (st.1 ++ [st.2]).map iD) (d := iD (st.2 + h.grow a)) 2 rfl (ed_c (d := .int ((st.2 : Int) + (h.grow a : Int))) ?_ (ed_add (ed_ix (ds := (st.1 ++ [st.2]).map iD) (d := iD st.2) (eq_el (el_own 2 rfl)) (i := -1) (ed_neg ed_int) (by rw [List.map_append]; exact atI_last _ _)) (we_call F_growth_of (room_le hr) (ea_cons (ed_var 0 rfl) (ea_cons (ed_var 3 rfl) ea_nil)) ⟨h, a, rfl, rfl, p1, p2 a (mem_of_pre hp)⟩))) (by rw [List.length_map, List.length_append, List.length_singleton]; omega) (sd_endL [3] ?_))
  · exact congrArg PyData.int (by omega)
  · show [dD h.d, dD (wayD n as), dL ((st.1 ++ [st.2]).map iD ++ [iD (st.2 + h.grow a)]), dZ] = _
    rw [List.map_append (l₁ := st.1 ++ [st.2])]; rfl
def fn_index_of : List PyData → PyData → Prop := fun zs z_ => ∃ (h : Hall) (n : Nm) (as : List Arc), zs = [h.d, wayD n as] ∧ z_ = iD (h.idx as).2 ∧ HOk h ∧ (∀ a ∈ as, a.ok h) ∧ as.length ≤ 100000
theorem p_index_of (M : Md mg) (D : Dn K mg d_index_of) (F_indexes : FD P w K mg base "indexes" 2 2 fn_indexes) : FD P w K mg base "index_of" 2 3 fn_index_of := by
  obtain ⟨⟨fd, F⟩, g⟩ := D
  refine fd_of (N := ["hall", "way"]) (ps := ["hall", "way"]) (st := s_index_of) (k := 2) M F ⟨rfl, rfl, rfl, by decide, rfl, by decide, by decide⟩ g (fun _ _ _ _ _ _ us hl => match us, hl with | [_, _], _ => rfl) (fun zs z_ ⟨_, _, _, e, _⟩ => by subst e; rfl) fun f cdv A outer s H E hr G zs z_ hfn => ?_
  obtain ⟨h, n, as, rfl, rfl, p1, p2, p3⟩ := hfn
  have hN : (["hall", "way"] : List Str).Nodup := by decide
  exact sd_one (s_ret (ed_ix (eq_t (we_call F_indexes (room_le hr) (ea_cons (ed_var 0 rfl) (ea_cons (ed_var 1 rfl) ea_nil)) ⟨h, n, as, rfl, rfl, p1, p2, p3⟩)) (i := -1) (ed_neg ed_int) (by unfold Hall.idxL; rw [List.map_append]; exact atI_last _ _)) rfl)
def fn_ended : List PyData → PyData → Prop := fun zs z_ => ∃ (h : Hall) (n : Nm) (as : List Arc), zs = [h.d, wayD n as] ∧ z_ = .tuple ((endL h as).map fun p => .tuple [(h.start p.1).d, iD p.2]) ∧ HOk h ∧ (∀ a ∈ as, a.ok h) ∧ as.length ≤ 100000
theorem p_ended (M : Md mg) (D : Dn K mg d_ended) (F_indexes : FD P w K mg base "indexes" 2 2 fn_indexes) (F_does_end : FD P w K mg base "does_end" 1 1 fn_does_end) (F_start_of : FD P w K mg base "start_of" 2 1 fn_start_of) : FD P w K mg base "ended" 2 3 fn_ended := by
  obtain ⟨⟨fd, F⟩, g⟩ := D
  refine fd_of (N := ["hall", "way", "rows", "arc", "index"]) (ps := ["hall", "way"]) (st := s_ended) (k := 2) M F ⟨rfl, rfl, rfl, by decide, rfl, by decide, by decide⟩ g (fun _ _ _ _ _ _ us hl => match us, hl with | [_, _], _ => rfl) (fun zs z_ ⟨_, _, _, e, _⟩ => by subst e; rfl) fun f cdv A outer s H E hr G zs z_ hfn => ?_
  obtain ⟨h, n, as, rfl, rfl, p1, p2, p3⟩ := hfn
  have hN : (["hall", "way", "rows", "arc", "index"] : List Str).Nodup := by decide
  have hz : (as.zip (h.idxL as)).length ≤ 100000 := by rw [List.length_zip]; omega
  exact sd_zipRet [("arc", 3), ("index", 4)] 2 (fun p : Arc × Nat => p.1.ends) (fun p => .tuple [(h.start p.1).d, iD p.2]) (fun p => [(3, p.1.d), (4, iD p.2)]) G hN (ed_ix (eq_t (ed_var 1 rfl)) ed_int rfl) (we_call F_indexes (room_le hr) (ea_cons (ed_var 0 rfl) (ea_cons (ed_var 1 rfl) ea_nil)) ⟨h, n, as, rfl, rfl, p1, p2, p3⟩) (zipW _ _ _ _) (blk_ok rfl) (by omega) (fun d u hu => by simp at hu; rcases hu with rfl | rfl <;> simp)
    (fun s H C cl fp p hd => gd_tup (G.blk _ _ _ _ _).calm (gds_cons (gd_name 3 hN) (gds_cons (gd_name 4 hN) gds_nil)) rfl) (fun s H C cl fp p hd => ets_one (et_val (we_call F_does_end (room_le hr) (ea_cons (ed_var 3 rfl) ea_nil) ⟨p.1, rfl, rfl⟩))) (fun s H C cl fp p hd _ => (ed_tup (ea_cons (we_call F_start_of (room_le hr) (ea_cons (ed_var 0 rfl) (ea_cons (ed_var 3 rfl) ea_nil)) ⟨h, p.1, rfl, rfl, p2 _ (List.of_mem_zip hd).1⟩) (ea_cons (ed_var 4 rfl) ea_nil)) (Nat.le_of_ble_eq_true rfl))) rfl
def fn_purse_places : List PyData → PyData → Prop := fun zs z_ => ∃ (h : Hall), zs = [h.d] ∧ z_ = .tuple (h.places.map placeD) ∧ HOk h
theorem p_purse_places (M : Md mg) (D : Dn K mg d_purse_places) : FD P w K mg base "purse_places" 1 1 fn_purse_places := by
  obtain ⟨⟨fd, F⟩, g⟩ := D
  refine fd_of (N := ["hall", "machine", "index"]) (ps := ["hall"]) (st := s_purse_places) (k := 0) M F ⟨rfl, rfl, rfl, by decide, rfl, by decide, by decide⟩ g (fun _ _ _ _ _ _ us hl => match us, hl with | [_], _ => rfl) (fun zs z_ ⟨_, e, _⟩ => by subst e; rfl) fun f cdv A outer s H E hr G zs z_ hfn => ?_
  obtain ⟨h, rfl, rfl, p1⟩ := hfn
  have hN : (["hall", "machine", "index"] : List Str).Nodup := by decide
  have hm := p1.ml
  refine sd_one (s_ret (ed_tupL G (el_new (en_c ?_ (en_lc2 (as := h.ms) (ga := Mach.d) (gb := fun i => iD i) [("machine", 1), ("index", 2)] [2] (fun m => List.range m.ps.length) (fun m i => .tuple [m.nm.d, iD i]) (fun m => [(1, m.d)]) (fun i => [(2, iD i)]) G hN (ei_tup (ed_ix (eq_t (ed_var 0 rfl)) ed_int rfl)) (blk_ok rfl) (by decide) (by omega) ?_ (fun d u hu => by simp at hu; simp [hu]) (fun d u hu => by simp at hu; simp [hu]) (fun s H C cl fp m hd => gd_name 1 hN)
    (fun s H C cl fp m hd => ei_rangeN (G.blk _ _ _ _ _) (ed_c (by rw [List.length_map]) (ed_len (G.blk _ _ _ _ _) (eq_t (ed_ix (eq_t (ed_var 1 rfl)) ed_int rfl)))) (by have := (p1.tm m hd).2.1; omega)) (fun s H C cl fp m i hd hi => gd_name 2 hN) (fun s H C cl fp m i hd hi => (ed_tup (ea_cons (ed_ix (eq_t (ed_var 1 rfl)) ed_int rfl) (ea_cons (ed_var 2 rfl) ea_nil)) (Nat.le_of_ble_eq_true rfl))))))) rfl)
  · unfold Hall.places
    rw [List.map_flatMap]
    simp only [List.map_map]; rfl
  · exact fun m hd => by have := (p1.tm m hd).2.1; rw [List.length_range]; omega
end
end K79


set_option Elab.async false
set_option linter.all false
set_option maxRecDepth 100000
set_option maxHeartbeats 4000000
/-! gains of walks; is_verdict -/
namespace K79
open PySem PySem.Spec PyProof.Rows L2
theorem placeK_data (p : Nm × Nat) : (placeK p).data = placeD p := rfl
theorem held_fold {h : Hall} (pl : POk h) : h.places.foldl (fun t p => tput t (placeK p) (iD (h.psize p))) [] = heldT h := by
  unfold heldT
  have := pl.one
  match hp : h.places with
  | [] => rfl
  | [p] => rfl
  | _ :: _ :: _ => rw [hp] at this; simp at this
theorem held_keys (h : Hall) : (heldT h).map (fun p => p.1.data) = h.places.map placeD := by
  unfold heldT
  rw [List.map_map]; rfl
section
variable {P : Program} {w : World} {K : PySem.W.Frag} {mg : Str → Option Value} {base : Heap}
def fn_grown : List PyData → PyData → Prop := fun zs z_ => ∃ (h : Hall) (g : Nat), zs = [h.d, tabD (heldT h), iD g] ∧ z_ = tabD (heldT h) ∧ HOk h ∧ POk h
theorem p_grown (M : Md mg) (D : Dn K mg d_grown) (F_purses_of : FD P w K mg base "purses_of" 2 2 fn_purses_of) : FD P w K mg base "grown" 3 3 fn_grown := by
  obtain ⟨⟨fd, F⟩, g⟩ := D
  refine fd_of (N := ["hall", "held", "growth", "found", "name", "at", "size", "back"]) (ps := ["hall", "held", "growth"]) (st := s_grown) (k := 2) M F ⟨rfl, rfl, rfl, by decide, rfl, by decide, by decide⟩ g (fun _ _ _ _ _ _ us hl => match us, hl with | [_, _, _], _ => rfl) (fun zs z_ ⟨_, _, e, _⟩ => by subst e; rfl) fun f cdv A outer s H E hr G zs z_ hfn => ?_
  obtain ⟨h, g, rfl, rfl, p1, p2⟩ := hfn
  have hN : (["hall", "held", "growth", "found", "name", "at", "size", "back"] : List Str).Nodup := by decide
  refine sd_cons (s_setM 3 em_empty hN ?_)
  refine sd_cons (s_forE (as := h.places) (gd := placeD) G (EI.cast (ei_dic (ed_var 1 rfl)) (held_keys h)) (fun pre => [dD h.d, dD (tabD (heldT h)), dD (iD g), dT (pre.map fun p => (placeK p, iD (h.psize p))), dZ, dZ, dZ, dZ]) rfl (fun pre p hp => ⟨_, gd_tup G.calm (gds_cons (gd_name 4 hN) (gds_cons (gd_name 5 hN) gds_nil)) rfl, ?_⟩) (sd_frzD (i := 3) rfl (sd_one (s_ret (ed_var 3 rfl) rfl))))
  obtain ⟨e1, e2⟩ := small_pre hp p2.one
  have hm := mem_of_pre hp
  subst e1
  obtain ⟨m, hmm, hi⟩ := p2.at_ p hm
  have hb : (m.ps[p.2]).2 ≤ 1 := ((p1.tm m (mach_mem hmm)).2.2 _ (List.getElem_mem hi)).2
  have hg : tget (heldT h) (placeK p) = some (iD (h.psize p)) := by
    unfold heldT
    rw [e2]
    show tget [(placeK p, iD (h.psize p))] (placeK p) = _
    rw [tget_cons, if_pos rfl]
  refine sd_cons (s_asg (ed_ix (eq_t (we_call F_purses_of (room_le hr) (ea_cons (ed_var 0 rfl) (ea_cons (ed_var 4 rfl) ea_nil)) ⟨h, p.1, m, rfl, rfl, hmm⟩)) (i := (p.2 : Int)) (ed_var 5 rfl) (atI_nat (by rw [List.getElem?_map, psize_at hmm hi]; rfl))) (gt_of (gd_tup (ds := [iD (h.psize p), iD (m.ps[p.2]).2]) G.calm (gds_cons (gd_name 6 hN) (gds_cons (gd_name 7 hN) gds_nil)) rfl)) ?_)
  refine sd_cons (s_asg (d := iD (h.psize p)) (ed_c ?_ (ed_min G (ed_var 6 rfl) (ed_add (ed_get (t := heldT h) (k := placeK p) G (ek_ed (ed_var 1 rfl)) (ed_tup (ea_cons (ed_var 4 rfl) (ea_cons (ed_var 5 rfl) ea_nil)) (Nat.le_of_ble_eq_true rfl)) (placeK_tup p) (placeK_depth p) hg) (ed_mul (ed_var 7 rfl) (ed_var 2 rfl) (by left; constructor <;> omega))))) (gt_sub (t := []) (k := placeK p) 3 G rfl (ed_tup (ea_cons (ed_var 4 rfl) (ea_cons (ed_var 5 rfl) ea_nil)) (Nat.le_of_ble_eq_true rfl)) (placeK_depth p) (placeK_tup p) (Nat.zero_lt_succ _)) (sd_endL [4, 5, 6, 7] rfl))
  refine congrArg PyData.int ?_
  have e : (((m.ps[p.2]).2 * g : Nat) : Int) = ((m.ps[p.2]).2 : Int) * (g : Int) := Int.natCast_mul _ _
  rw [← e]
  omega
def fn_stops_of : List PyData → PyData → Prop := fun zs z_ => ∃ (h : Hall) (n : Nm) (as : List Arc), zs = [h.d, wayD n as] ∧ z_ = tabD [] ∧ WOk h n as
theorem p_stops_of (M : Md mg) (D : Dn K mg d_stops_of) (F_purses_of : FD P w K mg base "purses_of" 2 2 fn_purses_of) (F_purse_places : FD P w K mg base "purse_places" 1 1 fn_purse_places) (F_indexes : FD P w K mg base "indexes" 2 2 fn_indexes) (F_start_of : FD P w K mg base "start_of" 2 1 fn_start_of) (F_does_end : FD P w K mg base "does_end" 1 1 fn_does_end) (F_grown : FD P w K mg base "grown" 3 3 fn_grown) (F_growth_of : FD P w K mg base "growth_of" 2 1 fn_growth_of) : FD P w K mg base "stops_of" 2 4 fn_stops_of := by
  obtain ⟨⟨fd, F⟩, g⟩ := D
  refine fd_of (N := ["hall", "way", "held", "found", "arc", "index", "name", "at", "key"]) (ps := ["hall", "way"]) (st := s_stops_of) (k := 3) M F ⟨rfl, rfl, rfl, by decide, rfl, by decide, by decide⟩ g (fun _ _ _ _ _ _ us hl => match us, hl with | [_, _], _ => rfl) (fun zs z_ ⟨_, _, _, e, _⟩ => by subst e; rfl) fun f cdv A outer s H E hr G zs z_ hfn => ?_
  obtain ⟨h, n, as, rfl, rfl, p1⟩ := hfn
  have hN : (["hall", "way", "held", "found", "arc", "index", "name", "at", "key"] : List Str).Nodup := by decide
  have ok := p1.ok
  have hz : (as.zip (h.idxL as)).length ≤ 100000 := by have := p1.way.ln; rw [List.length_zip]; omega
  refine sd_cons (s_setDc (own := [("name", 6), ("at", 7)]) (gd := placeD) (ds := h.places) 2 (fun p => placeK p) (fun p => iD (h.psize p)) (fun p => [(6, p.1.d), (7, iD p.2)]) G hN (ei_tup (we_call F_purse_places (room_le hr) (ea_cons (ed_var 0 rfl) ea_nil) ⟨h, rfl, rfl, ok⟩)) (blk_ok rfl) (by have := p1.pl.one; omega) (fun s H C cl fp p hd => ⟨fun u hu => by simp at hu; rcases hu with rfl | rfl <;> simp, gd_tup (G.blk _ _ _ _ _).calm (gds_cons (gd_name 6 hN) (gds_cons (gd_name 7 hN) gds_nil)) rfl, placeK_tup p, placeK_depth p, (ed_tup (ea_cons (ed_var 6 rfl) (ea_cons (ed_var 7 rfl) ea_nil)) (Nat.le_of_ble_eq_true rfl)), ?_⟩) ?_ (sw_dict rfl rfl rfl rfl))
  · obtain ⟨m, hmm, hi⟩ := p1.pl.at_ p hd
    exact ed_ix (ds := [iD (h.psize p), iD (m.ps[p.2]).2]) (eq_t (ed_ix (eq_t (we_call F_purses_of (room_le hr) (ea_cons (ed_var 0 rfl) (ea_cons (ed_var 6 rfl) ea_nil)) ⟨h, p.1, m, rfl, rfl, hmm⟩)) (i := (p.2 : Int)) (ed_var 7 rfl) (atI_nat (by rw [List.getElem?_map, psize_at hmm hi]; rfl)))) ed_int rfl
  rw [held_fold p1.pl]
  refine sd_frzD (i := 2) rfl ?_
  refine sd_cons (s_setM 3 em_empty hN ?_)
  refine sd_cons (s_forE (as := as.zip (h.idxL as)) (gd := fun p => .tuple [p.1.d, iD p.2]) G (EI.cast (ei_zip G (ed_ix (eq_t (ed_var 1 rfl)) ed_int rfl) (we_call F_indexes (room_le hr) (ea_cons (ed_var 0 rfl) (ea_cons (ed_var 1 rfl) ea_nil)) ⟨h, n, as, rfl, rfl, ok, p1.way.ok, p1.way.ln⟩)) (zipW _ _ _ _)) (fun _ => [dD h.d, dD (wayD n as), dD (tabD (heldT h)), dT [], dZ, dZ, dZ, dZ, dZ]) rfl (fun pre p hp => ⟨_, gd_tup G.calm (gds_cons (gd_name 4 hN) (gds_cons (gd_name 5 hN) gds_nil)) rfl, ?_⟩) ?_)
  · have hm := (List.of_mem_zip (mem_of_pre hp)).1
    have hok := p1.way.ok _ hm
    obtain ⟨m, hmm, hps⟩ := p1.np _ hm
    refine sd_cons (s_set 6 (we_call F_start_of (room_le hr) (ea_cons (ed_var 0 rfl) (ea_cons (ed_var 4 rfl) ea_nil)) ⟨h, p.1, rfl, rfl, hok⟩) hN ?_)
    cases he : p.1.ends with
    | true =>
      refine sd_cons (s_if (u := true) (et_cast (et_val (we_call F_does_end (room_le hr) (ea_cons (ed_var 4 rfl) ea_nil) ⟨p.1, rfl, rfl⟩)) he) (fun _ => sd_one (s_forA (as := List.range 0) (gd := fun i => iD i) G (ei_rangeN (n := 0) G (ed_c (by rw [hps]; rfl) (ed_len G (eq_t (we_call F_purses_of (room_le hr) (ea_cons (ed_var 0 rfl) (ea_cons (ed_var 6 rfl) ea_nil)) ⟨h, h.start p.1, m, rfl, rfl, hmm⟩)))) (by omega)) (fun _ ρ' => ρ' = [dD h.d, dD (wayD n as), dD (tabD (heldT h)), dT [], dD p.1.d, dD (iD p.2), dD (h.start p.1).d, dZ, dZ]) rfl (fun i a ρ' ha => by simp at ha) fun ρ' e => ?_)) fun h => by cases h)
      subst e
      exact sd_cons (s_set 2 (we_call F_grown (room_le hr) (ea_cons (ed_var 0 rfl) (ea_cons (ed_var 2 rfl) (ea_cons (we_call F_growth_of (room_le hr) (ea_cons (ed_var 0 rfl) (ea_cons (ed_var 4 rfl) ea_nil)) ⟨h, p.1, rfl, rfl, ok, hok⟩) ea_nil))) ⟨h, h.grow p.1, rfl, rfl, ok, p1.pl⟩) hN (sd_endL [4, 5, 6] rfl))
    | false =>
      exact sd_cons (s_if (u := false) (et_cast (et_val (we_call F_does_end (room_le hr) (ea_cons (ed_var 4 rfl) ea_nil) ⟨p.1, rfl, rfl⟩)) he) (fun h => by cases h) fun _ => sd_nil (sd_cons (s_set 2 (we_call F_grown (room_le hr) (ea_cons (ed_var 0 rfl) (ea_cons (ed_var 2 rfl) (ea_cons (we_call F_growth_of (room_le hr) (ea_cons (ed_var 0 rfl) (ea_cons (ed_var 4 rfl) ea_nil)) ⟨h, p.1, rfl, rfl, ok, hok⟩) ea_nil))) ⟨h, h.grow p.1, rfl, rfl, ok, p1.pl⟩) hN (sd_endL [4, 5, 6] rfl))))
  · exact sd_one (s_ret (ed_newD (em_dc (own := [("key", 8)]) (gd := fun d : PyData => d) (ds := []) (fun _ => .tup []) (fun d => d) (fun d => [(8, d)]) G hN (ei_lst (ed_new (en_c (show sortD (([] : Tab).map fun p => p.1.data) = ([] : List PyData).map (fun d => d) by simp [sortD]) (en_sortN (t := []) G (ek_own 3 rfl) ⟨rfl, fun d h => (by cases h), .inl fun d h => (by cases h), Nat.zero_le _, fun d h => (by cases h)⟩)))) (blk_ok rfl) (Nat.zero_le _) (fun s H C cl fp p hd => by cases hd))) rfl)
def fn_ticks_with : List PyData → PyData → Prop := fun zs z_ => ∃ (h : Hall) (n : Nm) (as : List Arc), zs = [h.d, wayD n as, tabD []] ∧ z_ = iD (h.ticks as) ∧ WOk h n as
theorem p_ticks_with (M : Md mg) (D : Dn K mg d_ticks_with) (F_ended : FD P w K mg base "ended" 2 3 fn_ended) (F_purses_of : FD P w K mg base "purses_of" 2 2 fn_purses_of) (F_time_of : FD P w K mg base "time_of" 2 2 fn_time_of) : FD P w K mg base "ticks_with" 3 4 fn_ticks_with := by
  obtain ⟨⟨fd, F⟩, g⟩ := D
  refine fd_of (N := ["hall", "way", "stops", "total", "name", "piece", "some", "at"]) (ps := ["hall", "way", "stops"]) (st := s_ticks_with) (k := 3) M F ⟨rfl, rfl, rfl, by decide, rfl, by decide, by decide⟩ g (fun _ _ _ _ _ _ us hl => match us, hl with | [_, _, _], _ => rfl) (fun zs z_ ⟨_, _, _, e, _⟩ => by subst e; rfl) fun f cdv A outer s H E hr G zs z_ hfn => ?_
  obtain ⟨h, n, as, rfl, rfl, p1⟩ := hfn
  have hN : (["hall", "way", "stops", "total", "name", "piece", "some", "at"] : List Str).Nodup := by decide
  have ok := p1.ok
  refine sd_cons (s_set 3 ed_int hN ?_)
  refine sd_cons (s_forF (as := endL h as) (gd := fun p => .tuple [(h.start p.1).d, iD p.2]) G (ei_tup (we_call F_ended (room_le hr) (ea_cons (ed_var 0 rfl) (ea_cons (ed_var 1 rfl) ea_nil)) ⟨h, n, as, rfl, rfl, ok, p1.way.ok, p1.way.ln⟩)) (fun (t : Nat) p => t + h.time (h.start p.1)) 0 (fun t => [dD h.d, dD (wayD n as), dD (tabD []), dD (iD t), dZ, dZ, dZ, dZ]) rfl (fun pre p hp => ⟨_, gd_tup G.calm (gds_cons (gd_name 4 hN) (gds_cons (gd_name 5 hN) gds_nil)) rfl, ?_⟩) (sd_one (s_ret (ed_var 3 rfl) rfl)))
  have hm := (List.of_mem_zip (List.mem_filter.mp (mem_of_pre hp)).1).1
  obtain ⟨m, hmm, hps⟩ := p1.np _ hm
  generalize pre.foldl (fun (t : Nat) (p : Arc × Nat) => t + h.time (h.start p.1)) 0 = t
  refine sd_cons (s_setLcm (ds := ([] : List Nat)) (gd := fun i => iD i) [("at", 7)] 6 (fun i => iD i) (fun i => [(7, iD i)]) G hN (EI.cast (ei_rangeN (n := 0) G (ed_c (by rw [hps]; rfl) (ed_len G (eq_t (we_call F_purses_of (room_le hr) (ea_cons (ed_var 0 rfl) (ea_cons (ed_var 4 rfl) ea_nil)) ⟨h, h.start p.1, m, rfl, rfl, hmm⟩)))) (by omega)) rfl) (blk_ok rfl) (Nat.zero_le _) (fun d u hu => by simp at hu; simp [hu]) (fun s H C cl fp i hd => by cases hd) (fun s H C cl fp i hd => by cases hd) ?_ (sw_true rfl rfl rfl rfl))
  refine sd_cons (s_aug (f := fun i j => i + j) (m := (t : Int)) (n := (m.t : Int)) 3 ip_add rfl (ed_c ?_ (ed_add (we_call F_time_of (room_le hr) (ea_cons (ed_var 0 rfl) (ea_cons (ed_var 4 rfl) ea_nil)) ⟨h, h.start p.1, m, rfl, rfl, hmm⟩) (ed_sumL (ns := []) G (el_own 6 rfl)))) hN (sd_endL [4, 5, 6] ?_))
  · exact congrArg PyData.int (Int.add_zero _)
  · show [dD h.d, dD (wayD n as), dD (tabD []), dD (.int ((t : Int) + (m.t : Int))), dZ, dZ, dZ, dZ] = _
    rw [time_of_mach hmm]; rfl
def fn_ticks_of : List PyData → PyData → Prop := fun zs z_ => ∃ (h : Hall) (n : Nm) (as : List Arc), zs = [h.d, wayD n as] ∧ z_ = iD (h.ticks as) ∧ WOk h n as
theorem p_ticks_of (M : Md mg) (D : Dn K mg d_ticks_of) (F_ticks_with : FD P w K mg base "ticks_with" 3 4 fn_ticks_with) (F_stops_of : FD P w K mg base "stops_of" 2 4 fn_stops_of) : FD P w K mg base "ticks_of" 2 5 fn_ticks_of := by
  obtain ⟨⟨fd, F⟩, g⟩ := D
  refine fd_of (N := ["hall", "way"]) (ps := ["hall", "way"]) (st := s_ticks_of) (k := 4) M F ⟨rfl, rfl, rfl, by decide, rfl, by decide, by decide⟩ g (fun _ _ _ _ _ _ us hl => match us, hl with | [_, _], _ => rfl) (fun zs z_ ⟨_, _, _, e, _⟩ => by subst e; rfl) fun f cdv A outer s H E hr G zs z_ hfn => ?_
  obtain ⟨h, n, as, rfl, rfl, p1⟩ := hfn
  have hN : (["hall", "way"] : List Str).Nodup := by decide
  exact sd_one (s_ret (we_call F_ticks_with (room_le hr) (ea_cons (ed_var 0 rfl) (ea_cons (ed_var 1 rfl) (ea_cons (we_call F_stops_of (room_le hr) (ea_cons (ed_var 0 rfl) (ea_cons (ed_var 1 rfl) ea_nil)) ⟨h, n, as, rfl, rfl, p1⟩) ea_nil))) ⟨h, n, as, rfl, rfl, p1⟩) rfl)
def fn_gain_of : List PyData → PyData → Prop := fun zs z_ => ∃ (h : Hall) (n : Nm) (as : List Arc), zs = [h.d, wayD n as] ∧ z_ = .int (h.gain as) ∧ WOk h n as
theorem p_gain_of (M : Md mg) (D : Dn K mg d_gain_of) (F_ticks_of : FD P w K mg base "ticks_of" 2 5 fn_ticks_of) (F_pace_of : FD P w K mg base "pace_of" 1 3 fn_pace_of) (F_index_of : FD P w K mg base "index_of" 2 3 fn_index_of) : FD P w K mg base "gain_of" 2 6 fn_gain_of := by
  obtain ⟨⟨fd, F⟩, g⟩ := D
  refine fd_of (N := ["hall", "way"]) (ps := ["hall", "way"]) (st := s_gain_of) (k := 5) M F ⟨rfl, rfl, rfl, by decide, rfl, by decide, by decide⟩ g (fun _ _ _ _ _ _ us hl => match us, hl with | [_, _], _ => rfl) (fun zs z_ ⟨_, _, _, e, _⟩ => by subst e; rfl) fun f cdv A outer s H E hr G zs z_ hfn => ?_
  obtain ⟨h, n, as, rfl, rfl, p1⟩ := hfn
  have hN : (["hall", "way"] : List Str).Nodup := by decide
  exact sd_one (s_ret (ed_sub (we_call F_ticks_of (room_le hr) (ea_cons (ed_var 0 rfl) (ea_cons (ed_var 1 rfl) ea_nil)) ⟨h, n, as, rfl, rfl, p1⟩) (ed_mul (we_call F_pace_of (room_le hr) (ea_cons (ed_var 0 rfl) ea_nil) ⟨h, rfl, rfl, p1.ok.fi⟩) (we_call F_index_of (room_le hr) (ea_cons (ed_var 0 rfl) (ea_cons (ed_var 1 rfl) ea_nil)) ⟨h, n, as, rfl, rfl, p1.ok, p1.way.ok, p1.way.ln⟩) (by have := pace_le p1.ok; left; constructor <;> omega))) rfl)
def fn_pays : List PyData → PyData → Prop := fun zs z_ => ∃ (h : Hall) (n : Nm) (as : List Arc), zs = [h.d, wayD n as] ∧ z_ = .bool (decide (0 < h.gain as)) ∧ WOk h n as
theorem p_pays (M : Md mg) (D : Dn K mg d_pays) (F_gain_of : FD P w K mg base "gain_of" 2 6 fn_gain_of) : FD P w K mg base "pays" 2 7 fn_pays := by
  obtain ⟨⟨fd, F⟩, g⟩ := D
  refine fd_of (N := ["hall", "walk"]) (ps := ["hall", "walk"]) (st := s_pays) (k := 6) M F ⟨rfl, rfl, rfl, by decide, rfl, by decide, by decide⟩ g (fun _ _ _ _ _ _ us hl => match us, hl with | [_, _], _ => rfl) (fun zs z_ ⟨_, _, _, e, _⟩ => by subst e; rfl) fun f cdv A outer s H E hr G zs z_ hfn => ?_
  obtain ⟨h, n, as, rfl, rfl, p1⟩ := hfn
  have hN : (["hall", "walk"] : List Str).Nodup := by decide
  exact sd_one (s_ret (ed_gt (we_call F_gain_of (room_le hr) (ea_cons (ed_var 0 rfl) (ea_cons (ed_var 1 rfl) ea_nil)) ⟨h, n, as, rfl, rfl, p1⟩) ed_int) rfl)
def fn_is_verdict : List PyData → PyData → Prop := fun zs z_ => ∃ (h : Hall) (n : Nm) (as : List Arc) (a : Arc), zs = [h.d, .tuple [.str "waits", wayD n (as ++ [a])]] ∧ z_ = .bool (decide (0 < h.gain (as ++ [a]))) ∧ WOk h n (as ++ [a]) ∧ (∀ m ∈ h.ms, h.noBack m.nm = true) ∧ h.fin a = .fill ∧ (∀ b ∈ as, h.fin b ≠ .fill)
theorem p_is_verdict (M : Md mg) (D : Dn K mg d_is_verdict) (F_is_live : FD P w K mg base "is_live" 1 6 fn_is_live) (F_is_walk : FD P w K mg base "is_walk" 2 5 fn_is_walk) (F_pays : FD P w K mg base "pays" 2 7 fn_pays) : FD P w K mg base "is_verdict" 2 8 fn_is_verdict := by
  obtain ⟨⟨fd, F⟩, g⟩ := D
  refine fd_of (N := ["hall", "thing"]) (ps := ["hall", "thing"]) (st := s_is_verdict) (k := 7) M F ⟨rfl, rfl, rfl, by decide, rfl, by decide, by decide⟩ g (fun _ _ _ _ _ _ us hl => match us, hl with | [_, _], _ => rfl) (fun zs z_ ⟨_, _, _, _, e, _⟩ => by subst e; rfl) fun f cdv A outer s H E hr G zs z_ hfn => ?_
  obtain ⟨h, n, as, a, rfl, rfl, p1, p2, p3, p4⟩ := hfn
  have hN : (["hall", "thing"] : List Str).Nodup := by decide
  refine sd_cons (s_if (u := false) (et_cast (et_w (ew_or (et_not (et_val (ed_isi (Ts := "tuple") (r := true) G (ed_var 1 rfl) rfl k_tt G.tuple b_tuple))) fun _ => ew_or (et_of (ed_neI (ed_len G (eq_t (ed_var 1 rfl))) ed_int)) fun _ => ew_or (et_not (et_val (ed_isi (Ts := "str") (r := true) G (ed_ix (eq_t (ed_var 1 rfl)) ed_int rfl) rfl k_ss G.str b_str))) fun _ => ew_or1 (et_not (et_val (we_call F_is_live (room_le hr) (ea_cons (ed_var 0 rfl) ea_nil) ⟨h, rfl, rfl, p1.ok, p2⟩))))) rfl) (fun h => by cases h) fun _ => sd_nil ?_)
  refine sd_cons (s_if (u := false) (et_cast (et_of (ed_eqS (x := "waits") (ed_ix (eq_t (ed_var 1 rfl)) ed_int rfl) ed_str)) (by decide)) (fun h => by cases h) fun _ => sd_nil ?_)
  exact sd_one (s_ret (ed_and (ed_eqS (x := "waits") (ed_ix (eq_t (ed_var 1 rfl)) ed_int rfl) ed_str) fun _ => ed_and (we_call F_is_walk (room_le hr) (ea_cons (ed_var 0 rfl) (ea_cons (ed_ix (eq_t (ed_var 1 rfl)) ed_int rfl) ea_nil)) ⟨h, n, as, a, rfl, rfl, p1.ok, p1.way, p3, p4⟩) fun _ => ed_one (we_call F_pays (room_le hr) (ea_cons (ed_var 0 rfl) (ea_cons (ed_ix (eq_t (ed_var 1 rfl)) ed_int rfl) ea_nil)) ⟨h, n, _, rfl, rfl, p1⟩)) (congrArg PyData.bool (by simp)))
end
end K79


set_option Elab.async false
set_option linter.all false
set_option maxRecDepth 100000
set_option maxHeartbeats 4000000
/-! the law's own functions: arcs, steps -/
namespace K79
open PySem PySem.Spec PyProof.Rows L2
def Hall.downs (h : Hall) (n : Nm) : List Nat := (List.range h.bs.length).filter fun i => (h.belt i).a.beq n
def Hall.ups (h : Hall) (n : Nm) : List Nat := (List.range h.bs.length).filter fun i => (h.belt i).b.beq n
def Hall.larcs (h : Hall) (n : Nm) : List Arc := [Arc.next n] ++ (h.downs n).map Arc.down ++ (h.ups n).map Arc.up
def triD (h : Hall) (a : Arc) : PyData := .tuple [a.d, (h.fin a).d, iD (h.grow a)]
theorem larcs_mem {h : Hall} {a : Arc} (ok : a.ok h) : a ∈ h.larcs (h.start a) := by
  unfold Hall.larcs
  cases a with
  | next n => exact List.mem_append_left _ (List.mem_append_left _ (List.mem_singleton.mpr rfl))
  | down i =>
    refine List.mem_append_left _ (List.mem_append_right _ (List.mem_map.mpr ⟨i, List.mem_filter.mpr ⟨List.mem_range.mpr ok, ?_⟩, rfl⟩))
    exact Nm.beq_iff.mpr rfl
  | up i =>
    refine List.mem_append_right _ (List.mem_map.mpr ⟨i, List.mem_filter.mpr ⟨List.mem_range.mpr ok, ?_⟩, rfl⟩)
    exact Nm.beq_iff.mpr rfl
theorem larcs_ok {h : Hall} {n : Nm} {a : Arc} (ha : a ∈ h.larcs n) : a.ok h := by
  rcases List.mem_append.mp ha with k | k
  · rcases List.mem_append.mp k with k | k
    · rw [List.mem_singleton] at k; subst k; trivial
    · obtain ⟨i, hi, rfl⟩ := List.mem_map.mp k
      exact List.mem_range.mp (List.mem_filter.mp hi).1
  · obtain ⟨i, hi, rfl⟩ := List.mem_map.mp k
    exact List.mem_range.mp (List.mem_filter.mp hi).1
theorem larcs_len {h : Hall} (ok : HOk h) (n : Nm) : (h.larcs n).length ≤ 9 := by
  have hb := ok.bl
  have h1 : (h.downs n).length ≤ h.bs.length := by have := List.length_filter_le (fun i => (h.belt i).a.beq n) (List.range h.bs.length); rw [List.length_range] at this; exact this
  have h2 : (h.ups n).length ≤ h.bs.length := by have := List.length_filter_le (fun i => (h.belt i).b.beq n) (List.range h.bs.length); rw [List.length_range] at this; exact this
  unfold Hall.larcs
  simp only [List.length_append, List.length_map, List.length_singleton]
  omega
def Arc.beq : Arc → Arc → Bool
  | .next a, .next b => a.beq b
  | .down i, .down j => i == j
  | .up i, .up j => i == j
  | _, _ => false
theorem Arc.beq_iff {a b : Arc} : a.beq b = true ↔ a = b := by
  cases a <;> cases b <;> simp [Arc.beq, Nm.beq_iff]
theorem ij_eq (i j : Nat) : (true && (((i : Int) == (j : Int)) && true)) = (i == j) := by
  by_cases h : i = j
  · subst h; simp
  · have h2 : ¬ (i : Int) = (j : Int) := by omega
    rw [Bool.true_and, Bool.and_true, beq_eq_false_iff_ne.mpr h2, beq_eq_false_iff_ne.mpr h]
theorem eqv_arc (a b : Arc) : PyData.eqv a.d b.d = a.beq b := by
  show (PyData.eqv (.str a.w) (.str b.w) && (PyData.eqv a.pl b.pl && true)) = _
  rw [eqv_str]
  cases a with
  | next n => cases b with
    | next m => rw [show decide ((Arc.next n).w = (Arc.next m).w) = true from decide_eq_true rfl]; show (true && (PyData.eqv (.str n.s) (.str m.s) && true)) = n.beq m; rw [eqv_str, Nm.dec]; simp
    | down i => rw [show decide ((Arc.next n).w = (Arc.down i).w) = false from (show decide (("next" : Str) = "down") = false by decide)]; rfl
    | up i => rw [show decide ((Arc.next n).w = (Arc.up i).w) = false from (show decide (("next" : Str) = "up") = false by decide)]; rfl
  | down i => cases b with
    | next m => rw [show decide ((Arc.down i).w = (Arc.next m).w) = false from (show decide (("down" : Str) = "next") = false by decide)]; rfl
    | down j => rw [show decide ((Arc.down i).w = (Arc.down j).w) = true from decide_eq_true rfl]; exact ij_eq i j
    | up j => rw [show decide ((Arc.down i).w = (Arc.up j).w) = false from (show decide (("down" : Str) = "up") = false by decide)]; rfl
  | up i => cases b with
    | next m => rw [show decide ((Arc.up i).w = (Arc.next m).w) = false from (show decide (("up" : Str) = "next") = false by decide)]; rfl
    | down j => rw [show decide ((Arc.up i).w = (Arc.down j).w) = false from (show decide (("up" : Str) = "down") = false by decide)]; rfl
    | up j => rw [show decide ((Arc.up i).w = (Arc.up j).w) = true from decide_eq_true rfl]; exact ij_eq i j
theorem arc_first {l : List Arc} {a : Arc} (h : a ∈ l) : ∃ t, l.filter (fun b => b.beq a) = a :: t := by
  have hm : a ∈ l.filter (fun b => b.beq a) := List.mem_filter.mpr ⟨h, Arc.beq_iff.mpr rfl⟩
  cases e : l.filter (fun b => b.beq a) with
  | nil => rw [e] at hm; cases hm
  | cons b t =>
    have : b ∈ l.filter (fun b => b.beq a) := by rw [e]; exact List.mem_cons_self ..
    have := Arc.beq_iff.mp (List.mem_filter.mp this).2
    exact ⟨t, by rw [this]⟩
theorem eqb_arc (a : Arc) : Eqb a.d := ⟨(Arc.flat a).1, Nat.le_trans (Arc.flat a).2 (by decide)⟩
theorem enum_belts (h : Hall) : enumD 0 (h.bs.map Belt.d) = (List.range h.bs.length).map fun i => PyData.tuple [iD i, (h.belt i).d] := by
  apply List.ext_getElem?
  intro i
  rw [enumD_get, List.getElem?_map, List.getElem?_map, Nat.zero_add]
  by_cases hi : i < h.bs.length
  · rw [List.getElem?_range hi, List.getElem?_eq_getElem hi]
    simp [Hall.belt, hi]
  · rw [List.getElem?_eq_none (by omega), List.getElem?_eq_none (by rw [List.length_range]; omega)]; rfl
theorem mach_first {h : Hall} {n : Nm} {m : Mach} (e : h.mach n = some m) : ∃ t, h.ms.filter (fun k => k.nm.beq n) = m :: t := by
  unfold Hall.mach at e
  revert e
  induction h.ms with
  | nil => intro e; cases e
  | cons k l ih =>
    intro e
    rw [List.find?_cons] at e
    rw [List.filter_cons]
    cases q : k.nm.beq n with
    | true => rw [q] at e; cases e; exact ⟨_, rfl⟩
    | false => rw [q] at e; exact ih e
section
variable {P : Program} {w : World} {K : PySem.W.Frag} {mg : Str → Option Value} {base : Heap}
def fn__law_full : List PyData → PyData → Prop := fun zs z_ => ∃ (h : Hall), zs = [h.d] ∧ z_ = .tuple ((h.full .fill).2.map rowD) ∧ HOk h
theorem p__law_full (M : Md mg) (D : Dn K mg d__law_full) : FD P w K mg base "_law_full" 1 1 fn__law_full := by
  obtain ⟨⟨fd, F⟩, g⟩ := D
  refine fd_of (N := ["_law_hall", "_law_name", "_law_time", "_law_purses", "_law_size", "_law_back"]) (ps := ["_law_hall"]) (st := s__law_full) (k := 0) M F ⟨rfl, rfl, rfl, by decide, rfl, by decide, by decide⟩ g (fun _ _ _ _ _ _ us hl => match us, hl with | [_], _ => rfl) (fun zs z_ ⟨_, e, _⟩ => by subst e; rfl) fun f cdv A outer s H E hr G zs z_ hfn => ?_
  obtain ⟨h, rfl, rfl, p1⟩ := hfn
  have hN : (["_law_hall", "_law_name", "_law_time", "_law_purses", "_law_size", "_law_back"] : List Str).Nodup := by decide
  have hm := p1.ml
  refine sd_one (s_ret (d := .tuple ((h.full .fill).2.map rowD)) (ed_c ?_ (ed_tupL G (el_new (en_lcm (X := bx P w K mg base _ _ _ f cdv A outer _ _ E) [("_law_name", 1), ("_law_time", 2), ("_law_purses", 3)] (fun m : Mach => rowD (m.ps.map (·.1))) (fun m => [(1, m.nm.d), (2, iD m.t), (3, .tuple (m.ps.map purD))]) G hN (ei_tup (ed_ix (eq_t (ed_var 0 rfl)) ed_int rfl)) (blk_ok rfl) (by omega) (fun d u hu => by simp at hu; rcases hu with rfl | rfl | rfl <;> simp) (fun s H C cl fp d hd => gd_tup (G.blk _ _ _ _ _).calm (gds_cons (gd_name 1 hN) (gds_cons (gd_name 2 hN) (gds_cons (gd_name 3 hN) gds_nil))) rfl) (fun s H C cl fp m hd => ed_c ?_ (ed_tupL (G.blk _ _ _ _ _) (el_new (en_lcm [("_law_size", 4), ("_law_back", 5)] (fun p : Nat × Nat => iD p.1) (fun p => [(4, iD p.1), (5, iD p.2)]) (G.blk _ _ _ _ _) hN (ei_tup (ed_var 3 rfl)) (blk_ok rfl) (by have := (p1.tm m hd).2.1; omega) (fun d u hu => by simp at hu; rcases hu with rfl | rfl <;> simp) (fun s H C cl fp d hd => gd_tup ((G.blk _ _ _ _ _).blk _ _ _ _ _).calm (gds_cons (gd_name 4 hN) (gds_cons (gd_name 5 hN) gds_nil)) rfl) (fun s H C cl fp p hd => (ed_var 4 rfl)))))))))) rfl)
  · unfold Hall.full
    simp [rowD, List.map_map, Function.comp_def]
  · unfold rowD
    simp [List.map_map, Function.comp_def]
def fn__law_names : List PyData → PyData → Prop := fun zs z_ => ∃ (h : Hall), zs = [h.d] ∧ z_ = .list (h.ms.map fun m => m.nm.d) ∧ HOk h
theorem p__law_names (M : Md mg) (D : Dn K mg d__law_names) : FD P w K mg base "_law_names" 1 1 fn__law_names := by
  obtain ⟨⟨fd, F⟩, g⟩ := D
  refine fd_of (N := ["_law_hall", "_law_machine_here"]) (ps := ["_law_hall"]) (st := s__law_names) (k := 0) M F ⟨rfl, rfl, rfl, by decide, rfl, by decide, by decide⟩ g (fun _ _ _ _ _ _ us hl => match us, hl with | [_], _ => rfl) (fun zs z_ ⟨_, e, _⟩ => by subst e; rfl) fun f cdv A outer s H E hr G zs z_ hfn => ?_
  obtain ⟨h, rfl, rfl, p1⟩ := hfn
  have hN : (["_law_hall", "_law_machine_here"] : List Str).Nodup := by decide
  refine sd_one (s_ret (ed_new (en_lcm [("_law_machine_here", 1)] (fun m : Mach => m.nm.d) (fun m => [(1, m.d)]) G hN (ei_tup (ed_ix (eq_t (ed_var 0 rfl)) ed_int rfl)) (blk_ok rfl) (by have := p1.ml; omega) (fun d u hu => by simp at hu; simp [hu]) (fun s H C cl fp d hd => gd_name 1 hN) (fun s H C cl fp d hd => (ed_ix (eq_t (ed_var 1 rfl)) ed_int rfl)))) rfl)
def fn__law_machine : List PyData → PyData → Prop := fun zs z_ => ∃ (h : Hall) (n : Nm) (m : Mach), zs = [h.d, n.d] ∧ z_ = m.d ∧ HOk h ∧ h.mach n = some m
theorem p__law_machine (M : Md mg) (D : Dn K mg d__law_machine) : FD P w K mg base "_law_machine" 2 1 fn__law_machine := by
  obtain ⟨⟨fd, F⟩, g⟩ := D
  refine fd_of (N := ["_law_hall", "_law_name", "_law_machine_here"]) (ps := ["_law_hall", "_law_name"]) (st := s__law_machine) (k := 0) M F ⟨rfl, rfl, rfl, by decide, rfl, by decide, by decide⟩ g (fun _ _ _ _ _ _ us hl => match us, hl with | [_, _], _ => rfl) (fun zs z_ ⟨_, _, _, e, _⟩ => by subst e; rfl) fun f cdv A outer s H E hr G zs z_ hfn => ?_
  obtain ⟨h, n, m, rfl, rfl, p1, p2⟩ := hfn
  have hN : (["_law_hall", "_law_name", "_law_machine_here"] : List Str).Nodup := by decide
  obtain ⟨t, et⟩ := mach_first p2
  exact sd_one (s_ret (ed_ix (ds := (h.ms.filter fun k => k.nm.beq n).map Mach.d) (i := 0) (eq_el (el_new (en_lcf [("_law_machine_here", 2)] (fun k : Mach => k.nm.beq n) Mach.d (fun m => [(2, m.d)]) G hN (ei_tup (ed_ix (eq_t (ed_var 0 rfl)) ed_int rfl)) (blk_ok rfl) (by have := p1.ml; omega) (fun d u hu => by simp at hu; simp [hu]) (fun s H C cl fp d hd => gd_name 2 hN) (fun s H C cl fp d hd => ets_one (et_cast (et_of (ed_eqS (x := d.nm.s) (ed_ix (eq_t (ed_var 2 rfl)) ed_int rfl) (ed_var 1 rfl))) (Nm.dec _ _))) (fun s H C cl fp d hd _ => (ed_var 2 rfl))))) ed_int (by rw [et]; exact atI_nat (j := 0) rfl)) rfl)
def fn__law_pace : List PyData → PyData → Prop := fun zs z_ => ∃ (h : Hall), zs = [h.d] ∧ z_ = iD h.pace ∧ HOk h
theorem p__law_pace (M : Md mg) (D : Dn K mg d__law_pace) (F__law_machine : FD P w K mg base "_law_machine" 2 1 fn__law_machine) : FD P w K mg base "_law_pace" 1 2 fn__law_pace := by
  obtain ⟨⟨fd, F⟩, g⟩ := D
  refine fd_of (N := ["_law_hall"]) (ps := ["_law_hall"]) (st := s__law_pace) (k := 1) M F ⟨rfl, rfl, rfl, by decide, rfl, by decide, by decide⟩ g (fun _ _ _ _ _ _ us hl => match us, hl with | [_], _ => rfl) (fun zs z_ ⟨_, e, _⟩ => by subst e; rfl) fun f cdv A outer s H E hr G zs z_ hfn => ?_
  obtain ⟨h, rfl, rfl, p1⟩ := hfn
  have hN : (["_law_hall"] : List Str).Nodup := by decide
  obtain ⟨m, hm⟩ := Option.isSome_iff_exists.mp p1.fi
  exact sd_one (s_ret (ed_ix (eq_t (we_call F__law_machine (room_le hr) (ea_cons (ed_var 0 rfl) (ea_cons (ed_ix (eq_t (ed_var 0 rfl)) ed_int rfl) ea_nil)) ⟨h, .fill, m, rfl, rfl, p1, hm⟩)) ed_int rfl) (by simp [Hall.pace, Hall.time, hm]))
def fn__law_arcs : List PyData → PyData → Prop := fun zs z_ => ∃ (h : Hall) (n : Nm), zs = [h.d, n.d] ∧ z_ = .list ((h.larcs n).map (triD h)) ∧ HOk h
theorem p__law_arcs (M : Md mg) (D : Dn K mg d__law_arcs) : FD P w K mg base "_law_arcs" 2 1 fn__law_arcs := by
  obtain ⟨⟨fd, F⟩, g⟩ := D
  refine fd_of (N := ["_law_hall", "_law_name", "_law_found", "_law_at", "_law_belt"]) (ps := ["_law_hall", "_law_name"]) (st := s__law_arcs) (k := 0) M F ⟨rfl, rfl, rfl, by decide, rfl, by decide, by decide⟩ g (fun _ _ _ _ _ _ us hl => match us, hl with | [_, _], _ => rfl) (fun zs z_ ⟨_, _, e, _⟩ => by subst e; rfl) fun f cdv A outer s H E hr G zs z_ hfn => ?_
  obtain ⟨h, n, rfl, rfl, p1⟩ := hfn
  have hN : (["_law_hall", "_law_name", "_law_found", "_law_at", "_law_belt"] : List Str).Nodup := by decide
  have hb := p1.bl
  have hl := larcs_len p1 n
  refine sd_cons (s_setL 2 (en_lst (ea_cons (ed_tup (ea_cons (ed_tup (ea_cons ed_str (ea_cons (ed_var 1 rfl) ea_nil)) (Nat.le_of_ble_eq_true rfl)) (ea_cons (ed_var 1 rfl) (ea_cons ed_int ea_nil))) (Nat.le_of_ble_eq_true rfl)) ea_nil) (Nat.le_of_ble_eq_true rfl)) hN ?_)
  refine sd_cons (s_extend 2 rfl (en_lcf (ds := List.range h.bs.length) (gd := fun i => .tuple [iD i, (h.belt i).d]) [("_law_at", 3), ("_law_belt", 4)] (fun i => (h.belt i).a.beq n) (fun i => triD h (.down i)) (fun i => [(3, iD i), (4, (h.belt i).d)]) G hN (EI.cast (ei_enum G (ed_ix (eq_t (ed_var 0 rfl)) ed_int rfl)) (enum_belts h)) (blk_ok rfl) (by rw [List.length_range]; omega) (fun d u hu => by simp at hu; rcases hu with rfl | rfl <;> simp) (fun s H C cl fp d hd => gd_tup (G.blk _ _ _ _ _).calm (gds_cons (gd_name 3 hN) (gds_cons (gd_name 4 hN) gds_nil)) rfl)
    (fun s H C cl fp i hd => ets_one (et_cast (et_of (ed_eqS (x := (h.belt i).a.s) (ed_ix (eq_t (ed_var 4 rfl)) ed_int rfl) (ed_var 1 rfl))) (Nm.dec _ _))) (fun s H C cl fp i hd _ => (ed_tup (ea_cons (ed_tup (ea_cons ed_str (ea_cons (ed_var 3 rfl) ea_nil)) (Nat.le_of_ble_eq_true rfl)) (ea_cons (ed_ix (eq_t (ed_var 4 rfl)) ed_int rfl) (ea_cons (ed_ix (eq_t (ed_var 4 rfl)) ed_int rfl) ea_nil))) (Nat.le_of_ble_eq_true rfl)))) ?_ ?_)
  · have := List.length_filter_le (fun i => (h.belt i).a.beq n) (List.range h.bs.length)
    rw [List.length_range] at this
    rw [List.length_map]; simp only [List.length_singleton]; omega
  refine sd_one (s_ret (ed_c ?_ (ed_new (en_cat (el_own 2 rfl) (el_new (en_lcf (ds := List.range h.bs.length) (gd := fun i => .tuple [iD i, (h.belt i).d]) [("_law_at", 3), ("_law_belt", 4)] (fun i => (h.belt i).b.beq n) (fun i => triD h (.up i)) (fun i => [(3, iD i), (4, (h.belt i).d)]) G hN (EI.cast (ei_enum G (ed_ix (eq_t (ed_var 0 rfl)) ed_int rfl)) (enum_belts h)) (blk_ok rfl) (by rw [List.length_range]; omega) (fun d u hu => by simp at hu; rcases hu with rfl | rfl <;> simp) (fun s H C cl fp d hd => gd_tup (G.blk _ _ _ _ _).calm (gds_cons (gd_name 3 hN) (gds_cons (gd_name 4 hN) gds_nil)) rfl)
    (fun s H C cl fp i hd => ets_one (et_cast (et_of (ed_eqS (x := (h.belt i).b.s) (ed_ix (eq_t (ed_var 4 rfl)) ed_int rfl) (ed_var 1 rfl))) (Nm.dec _ _))) (fun s H C cl fp i hd _ => (ed_tup (ea_cons (ed_tup (ea_cons ed_str (ea_cons (ed_var 3 rfl) ea_nil)) (Nat.le_of_ble_eq_true rfl)) (ea_cons (ed_ix (eq_t (ed_var 4 rfl)) ed_int rfl) (ea_cons (ed_c ?_ (ed_sub (ed_ix (eq_t (ed_var 4 rfl)) ed_int rfl) (ed_ix (eq_t (ed_var 4 rfl)) ed_int rfl))) ea_nil))) (Nat.le_of_ble_eq_true rfl))))) ?_))) rfl)
  · unfold Hall.larcs Hall.downs Hall.ups
    rw [List.map_append, List.map_append, List.map_map, List.map_map]; rfl
  · have hf := (p1.fr _ (belt_mem (List.mem_range.mp hd))).1
    exact congrArg PyData.int (by show (((h.belt i).room : Int) - ((h.belt i).first : Int)) = (((h.belt i).room - (h.belt i).first : Nat) : Int); omega)
  · have h1 := List.length_filter_le (fun i => (h.belt i).b.beq n) (List.range h.bs.length)
    have h2 := List.length_filter_le (fun i => (h.belt i).a.beq n) (List.range h.bs.length)
    rw [List.length_range] at h1 h2
    rw [sizeLine_eq, List.length_append, List.length_map, List.length_map]; simp only [List.length_singleton]; omega
def fn__law_led : List PyData → PyData → Prop := fun zs z_ => ∃ (h : Hall) (n : Nm) (a : Arc), zs = [h.d, n.d, a.d] ∧ z_ = (h.fin a).d ∧ HOk h ∧ a ∈ h.larcs n
theorem p__law_led (M : Md mg) (D : Dn K mg d__law_led) (F__law_arcs : FD P w K mg base "_law_arcs" 2 1 fn__law_arcs) : FD P w K mg base "_law_led" 3 2 fn__law_led := by
  obtain ⟨⟨fd, F⟩, g⟩ := D
  refine fd_of (N := ["_law_hall", "_law_name", "_law_arc", "_law_some_here", "_law_one", "_law_end", "_law_growth"]) (ps := ["_law_hall", "_law_name", "_law_arc"]) (st := s__law_led) (k := 1) M F ⟨rfl, rfl, rfl, by decide, rfl, by decide, by decide⟩ g (fun _ _ _ _ _ _ us hl => match us, hl with | [_, _, _], _ => rfl) (fun zs z_ ⟨_, _, _, e, _⟩ => by subst e; rfl) fun f cdv A outer s H E hr G zs z_ hfn => ?_
  obtain ⟨h, n, a, rfl, rfl, p1, p2⟩ := hfn
  have hN : (["_law_hall", "_law_name", "_law_arc", "_law_some_here", "_law_one", "_law_end", "_law_growth"] : List Str).Nodup := by decide
  obtain ⟨t, et⟩ := arc_first p2
  have hl := larcs_len p1 n
  refine sd_cons (s_setLcf (gd := triD h) (ds := h.larcs n) [("_law_one", 4), ("_law_end", 5), ("_law_growth", 6)] 3 (fun b => b.beq a) (fun b => (h.fin b).d) (fun b => [(4, b.d), (5, (h.fin b).d), (6, iD (h.grow b))]) G hN (ei_lst (we_call F__law_arcs (room_le hr) (ea_cons (ed_var 0 rfl) (ea_cons (ed_var 1 rfl) ea_nil)) ⟨h, n, rfl, rfl, p1⟩)) (blk_ok rfl) (by omega) (fun d u hu => by simp at hu; rcases hu with rfl | rfl | rfl <;> simp) (fun s H C cl fp d hd => gd_tup (G.blk _ _ _ _ _).calm (gds_cons (gd_name 4 hN) (gds_cons (gd_name 5 hN) (gds_cons (gd_name 6 hN) gds_nil))) rfl)
    (fun s H C cl fp b hd => ets_one (et_cast (et_of (ed_eq (G.blk _ _ _ _ _) (ef_ed (ed_var 4 rfl)) (ef_ed (ed_var 2 rfl)) (eqb_arc b) (eqb_arc a))) (eqv_arc b a))) (fun s H C cl fp b hd _ => (ed_var 5 rfl)) ?_ (sw_true rfl rfl rfl rfl))
  rw [et]
  exact sd_one (s_ret (ed_if (u := true) (et_cast (et_of (ed_ne G (ef_el (el_own 3 rfl)) (ef_el (el_new (en_lst ea_nil (Nat.zero_le _)))) ⟨plainAll_map (g := fun b => (h.fin b).d) (fun _ => rfl) (a :: t), by have := depthAll_map (g := fun b => (h.fin b).d) (k := 0) (fun _ => Nat.le_refl _) (a :: t); show PyData.depthAll _ + 1 ≤ 60; omega⟩ eqb_nilL)) rfl) (fun _ => ed_ix (eq_el (el_own 3 rfl)) (i := 0) ed_int (atI_nat (j := 0) rfl)) fun h => by cases h) rfl)
end
end K79


set_option Elab.async false
set_option linter.all false
set_option maxRecDepth 100000
set_option maxHeartbeats 4000000
/-! the law's own functions: behind -/
namespace K79
open PySem PySem.Spec PyProof.Rows L2
theorem zip_swap {α β γ : Type} (f : α → β → γ) : ∀ (l : List α) (m : List β), (l.zip m).map (fun p => f p.1 p.2) = (m.zip l).map fun p => f p.2 p.1
  | [], m => by cases m <;> rfl
  | _ :: _, [] => rfl
  | a :: l, b :: m => by
    rw [List.zip_cons_cons, List.zip_cons_cons, List.map_cons, List.map_cons, zip_swap f l m]
section
variable {P : Program} {w : World} {K : PySem.W.Frag} {mg : Str → Option Value} {base : Heap}
def fn__law_behind : List PyData → PyData → Prop := fun zs z_ => ∃ (h : Hall) (s : Sta) (a : Arc), zs = [h.d, s.d, a.d] ∧ z_ = .tuple [(h.beh s a).1.d, iD (h.beh s a).2] ∧ HOk h ∧ a ∈ h.larcs s.1 ∧ SOk h s
theorem p__law_behind (M : Md mg) (D : Dn K mg d__law_behind) (F__law_arcs : FD P w K mg base "_law_arcs" 2 1 fn__law_arcs) : FD P w K mg base "_law_behind" 3 2 fn__law_behind := by
  obtain ⟨⟨fd, F⟩, g⟩ := D
  refine fd_of (N := ["_law_hall", "_law_state", "_law_arc", "_law_name", "_law_contents", "_law_end", "_law_growth", "_law_ticks", "_law_found", "_law_other", "_law_time", "_law_purses", "_law_row", "_law_one", "_law_size", "_law_back", "_law_held"]) (ps := ["_law_hall", "_law_state", "_law_arc"]) (st := s__law_behind) (k := 1) M F ⟨rfl, rfl, rfl, by decide, rfl, by decide, by decide⟩ g (fun _ _ _ _ _ _ us hl => match us, hl with | [_, _, _], _ => rfl) (fun zs z_ ⟨_, _, _, e, _⟩ => by subst e; rfl) fun f cdv A outer s H E hr G zs z_ hfn => ?_
  obtain ⟨h, s, a, rfl, rfl, p1, p2, p3⟩ := hfn
  have hN : (["_law_hall", "_law_state", "_law_arc", "_law_name", "_law_contents", "_law_end", "_law_growth", "_law_ticks", "_law_found", "_law_other", "_law_time", "_law_purses", "_law_row", "_law_one", "_law_size", "_law_back", "_law_held"] : List Str).Nodup := by decide
  have hm := p1.ml
  have hz := p3.len
  have hl := larcs_len p1 s.1
  obtain ⟨t0, et⟩ := arc_first p2
  refine sd_cons (s_asg (ed_var 1 rfl) (gt_of (gd_tup G.calm (gds_cons (gd_name 3 hN) (gds_cons (gd_name 4 hN) gds_nil)) rfl)) ?_)
  refine sd_cons (s_asg (ed_ix (ds := ((h.larcs s.1).filter fun b => b.beq a).map fun b => .tuple [(h.fin b).d, iD (h.grow b)]) (i := 0) (d := .tuple [(h.fin a).d, iD (h.grow a)]) (eq_el (el_new (en_lcf (gd := triD h) (ds := h.larcs s.1) [("_law_one", 13), ("_law_end", 5), ("_law_growth", 6)] (fun b => b.beq a) (fun b => .tuple [(h.fin b).d, iD (h.grow b)]) (fun b => [(13, b.d), (5, (h.fin b).d), (6, iD (h.grow b))]) G hN (ei_lst (we_call F__law_arcs (room_le hr) (ea_cons (ed_var 0 rfl) (ea_cons (ed_var 3 rfl) ea_nil)) ⟨h, s.1, rfl, rfl, p1⟩)) (blk_ok rfl) (by omega) (fun d u hu => by simp at hu; rcases hu with rfl | rfl | rfl <;> simp) (fun s H C cl fp d hd => gd_tup (G.blk _ _ _ _ _).calm (gds_cons (gd_name 13 hN) (gds_cons (gd_name 5 hN) (gds_cons (gd_name 6 hN) gds_nil))) rfl)
    (fun s H C cl fp b hd => ets_one (et_cast (et_of (ed_eq (G.blk _ _ _ _ _) (ef_ed (ed_var 13 rfl)) (ef_ed (ed_var 2 rfl)) (eqb_arc b) (eqb_arc a))) (eqv_arc b a))) (fun s H C cl fp b hd _ => (ed_tup (ea_cons (ed_var 5 rfl) (ea_cons (ed_var 6 rfl) ea_nil)) (Nat.le_of_ble_eq_true rfl)))))) ed_int (by rw [et]; exact atI_nat (j := 0) rfl)) (gt_of (gd_tup G.calm (gds_cons (gd_name 5 hN) (gds_cons (gd_name 6 hN) gds_nil)) rfl)) ?_)
  refine sd_cons (s_par2 (u := .dat (iD 0)) (v := .lst []) 7 8 G (evs_cons (ev_d ed_int) (evs_cons (ev_l (en_lst ea_nil (Nat.zero_le _))) evs_nil)) hN ?_)
  refine sd_cons (s_forF (as := h.ms.zip s.2) (gd := fun p => .tuple [p.1.d, rowD p.2]) (b0 := ((0, []) : Nat × List (List Nat))) (f := behS s a (h.grow a)) (en := fun p => [dD h.d, dD s.d, dD a.d, dD s.1.d, dD (.tuple (s.2.map rowD)), dD (h.fin a).d, dD (iD (h.grow a)), dD (iD p.1), dL (p.2.map rowD), dZ, dZ, dZ, dZ, dZ, dZ, dZ, dZ]) G (EI.cast (ei_zip G (ed_ix (eq_t (ed_var 0 rfl)) ed_int rfl) (ed_var 4 rfl)) (zipW _ _ _ _)) rfl (fun pre mr hp => ?_) ?_)
  · obtain ⟨m, row⟩ := mr
    have hmem := mem_of_pre hp
    have hmm : m ∈ h.ms := (List.of_mem_zip hmem).1
    have hrl : row.length = m.ps.length := p3.rows _ hmem
    obtain ⟨t1, t2, t3⟩ := p1.tm m hmm
    have hpl := pre_len hp
    have hsl := behS_len s a (h.grow a) pre (0, [])
    have hzl : (h.ms.zip s.2).length ≤ h.ms.length := by rw [List.length_zip]; omega
    generalize hst : pre.foldl (behS s a (h.grow a)) (0, []) = st at hsl
    simp only [List.length_nil, Nat.zero_add] at hsl
    refine ⟨[(9, m.nm.d), (10, iD m.t), (11, .tuple (m.ps.map purD)), (12, rowD row)], gd_tup G.calm (gds_cons (us := [(9, m.nm.d), (10, iD m.t), (11, .tuple (m.ps.map purD))]) (gd_tup G.calm (gds_cons (gd_name 9 hN) (gds_cons (gd_name 10 hN) (gds_cons (gd_name 11 hN) gds_nil))) rfl) (gds_cons (gd_name 12 hN) gds_nil)) rfl, ?_⟩
    cases hu : (m.nm.beq s.1 && a.ends) with
    | true =>
      refine sd_cons (s_if (u := true) (et_cast (et_w (ew_and (et_of (ed_eqS (x := m.nm.s) (y := s.1.s) (ed_var 9 rfl) (ed_var 3 rfl))) fun _ => ew_and1 (et_of (ed_neS (x := a.w) (ed_ix (eq_t (ed_var 2 rfl)) ed_int rfl) ed_str)))) (by rw [Nm.dec, ← hu]; cases a <;> rfl)) (fun _ => sd_one (s_par2 (u := .dat (iD (m.t + row.sum))) (v := .dat (rowD (row.map fun _ => 0))) 7 12 G (evs_cons (ev_d (ed_c ?_ (ed_add (ed_var 10 rfl) (ed_sumT (ns := row.map fun n : Nat => (n : Int)) G (ed_c ?_ (ed_var 12 rfl)))))) (evs_cons (ev_d (ed_c ?_ (ed_rep (k := row.length) (ed_tup (ea_cons ed_int ea_nil) (Nat.le_of_ble_eq_true rfl)) (ed_c ?_ (ed_len G (eq_t (ed_var 12 rfl)))) (by simp) ?_ (by simp)))) evs_nil)) hN ?_)) fun h => by cases h)
      · show PyData.int _ = PyData.int _
        congr 1
        have : ∀ l : List Nat, (l.map fun n : Nat => (n : Int)).sum = ((l.sum : Nat) : Int) := fun l => by
          induction l with
          | nil => rfl
          | cons x l ih => rw [List.map_cons, List.sum_cons, List.sum_cons, ih]; omega
        rw [this]; omega
      · unfold rowD
        rw [List.map_map]; rfl
      · show PyData.tuple _ = PyData.tuple _
        rw [← zeros row]; rfl
      · show PyData.int _ = PyData.int _
        rw [List.length_map]
      · omega
      · have hlL : (row.map fun _ => (0 : Nat)).length = row.length := by simp
        refine sd_cons (s_append 8 rfl (ed_tupL G (el_new (en_lcm [("_law_size", 14), ("_law_back", 15), ("_law_held", 16)] (fun p : (Nat × Nat) × Nat => iD (min p.1.1 (p.2 + p.1.2 * h.grow a))) (fun p => [(14, iD p.1.1), (15, iD p.1.2), (16, iD p.2)]) G hN (EI.cast (ei_zip G (xs := m.ps.map purD) (ys := (row.map fun _ => (0 : Nat)).map iD) (ed_var 11 rfl) (ed_var 12 rfl)) (zipW _ _ _ _)) (blk_ok rfl) (by rw [List.length_zip]; omega) (fun d u hu => by simp at hu; rcases hu with rfl | rfl | rfl <;> simp)
          (fun s H C cl fp p hd => gd_tup (G.blk _ _ _ _ _).calm (gds_cons (us := [(14, iD p.1.1), (15, iD p.1.2)]) (gd_tup (G.blk _ _ _ _ _).calm (gds_cons (gd_name 14 hN) (gds_cons (gd_name 15 hN) gds_nil)) rfl) (gds_cons (us := [(16, iD p.2)]) (gd_name 16 hN) gds_nil)) rfl) (fun s H C cl fp p hd => ed_c ?_ (ed_min (G.blk _ _ _ _ _) (ed_var 14 rfl) (ed_add (ed_var 16 rfl) (ed_mul (ed_var 15 rfl) (ed_var 6 rfl) ?_))))))) ?_ (sd_endL [9, 10, 11, 12] ?_))
        · show PyData.int _ = PyData.int _
          congr 1
          have e : ((p.1.2 * h.grow a : Nat) : Int) = (p.1.2 : Int) * (h.grow a : Int) := Int.natCast_mul _ _
          rw [← e]
          generalize p.1.2 * h.grow a = z
          omega
        · have hb := (t3 p.1 (List.of_mem_zip hd).1).2
          left; constructor <;> omega
        · rw [List.length_map]; omega
        · show [dD h.d, dD s.d, dD a.d, dD s.1.d, dD (.tuple (s.2.map rowD)), dD (h.fin a).d, dD (iD (h.grow a)), dD (iD (m.t + row.sum)), dL _, dZ, dZ, dZ, dZ, dZ, dZ, dZ, dZ] = _
          unfold behS
          rw [if_pos hu]
          simp only [List.map_append, List.map_cons, List.map_nil]
          unfold fill1 rowD
          rw [List.map_map, zip_swap (fun (q : Nat × Nat) (x : Nat) => iD (min q.1 (x + q.2 * h.grow a)))]; rfl
    | false =>
      refine sd_cons (s_if (u := false) (et_cast (et_w (ew_and (et_of (ed_eqS (x := m.nm.s) (y := s.1.s) (ed_var 9 rfl) (ed_var 3 rfl))) fun _ => ew_and1 (et_of (ed_neS (x := a.w) (ed_ix (eq_t (ed_var 2 rfl)) ed_int rfl) ed_str)))) (by rw [Nm.dec, ← hu]; cases a <;> rfl)) (fun h => by cases h) fun _ => sd_nil ?_)
      · have hlL : (row).length = row.length := by simp
        refine sd_cons (s_append 8 rfl (ed_tupL G (el_new (en_lcm [("_law_size", 14), ("_law_back", 15), ("_law_held", 16)] (fun p : (Nat × Nat) × Nat => iD (min p.1.1 (p.2 + p.1.2 * h.grow a))) (fun p => [(14, iD p.1.1), (15, iD p.1.2), (16, iD p.2)]) G hN (EI.cast (ei_zip G (xs := m.ps.map purD) (ys := (row).map iD) (ed_var 11 rfl) (ed_var 12 rfl)) (zipW _ _ _ _)) (blk_ok rfl) (by rw [List.length_zip]; omega) (fun d u hu => by simp at hu; rcases hu with rfl | rfl | rfl <;> simp)
          (fun s H C cl fp p hd => gd_tup (G.blk _ _ _ _ _).calm (gds_cons (us := [(14, iD p.1.1), (15, iD p.1.2)]) (gd_tup (G.blk _ _ _ _ _).calm (gds_cons (gd_name 14 hN) (gds_cons (gd_name 15 hN) gds_nil)) rfl) (gds_cons (us := [(16, iD p.2)]) (gd_name 16 hN) gds_nil)) rfl) (fun s H C cl fp p hd => ed_c ?_ (ed_min (G.blk _ _ _ _ _) (ed_var 14 rfl) (ed_add (ed_var 16 rfl) (ed_mul (ed_var 15 rfl) (ed_var 6 rfl) ?_))))))) ?_ (sd_endL [9, 10, 11, 12] ?_))
        · show PyData.int _ = PyData.int _
          congr 1
          have e : ((p.1.2 * h.grow a : Nat) : Int) = (p.1.2 : Int) * (h.grow a : Int) := Int.natCast_mul _ _
          rw [← e]
          generalize p.1.2 * h.grow a = z
          omega
        · have hb := (t3 p.1 (List.of_mem_zip hd).1).2
          left; constructor <;> omega
        · rw [List.length_map]; omega
        · show [dD h.d, dD s.d, dD a.d, dD s.1.d, dD (.tuple (s.2.map rowD)), dD (h.fin a).d, dD (iD (h.grow a)), dD (iD (st.1)), dL _, dZ, dZ, dZ, dZ, dZ, dZ, dZ, dZ] = _
          unfold behS
          rw [if_neg (by rw [hu]; exact Bool.false_ne_true)]
          simp only [List.map_append, List.map_cons, List.map_nil]
          unfold fill1 rowD
          rw [List.map_map, zip_swap (fun (q : Nat × Nat) (x : Nat) => iD (min q.1 (x + q.2 * h.grow a)))]; rfl
  · exact sd_one (s_ret (ed_tup (ea_cons (ed_tup (ea_cons (ed_var 5 rfl) (ea_cons (ed_tupL G (el_own 8 rfl)) ea_nil)) (Nat.le_of_ble_eq_true rfl)) (ea_cons (ed_var 7 rfl) ea_nil)) (Nat.le_of_ble_eq_true rfl)) rfl)
end
end K79


set_option Elab.async false
set_option linter.all false
set_option maxRecDepth 100000
set_option maxHeartbeats 4000000
/-! the law's own functions: ways -/
namespace K79
open PySem PySem.Spec PyProof.Rows L2
def rowNil (h : Hall) (s : Sta) : Bool := match h.ms.findIdx? fun m => m.nm.beq s.1 with
  | some j => decide (s.2[j]? = some [])
  | none => false
def wstep (h : Hall) (x : Sta × Nat × Nat) (a : Arc) : Option (Sta × Nat × Nat) :=
  if (sok h x.1 && rowNil h x.1 && (h.larcs x.1.1).any fun b => b.beq a) = true then some ((h.beh x.1 a).1, x.2.1 + (h.beh x.1 a).2, x.2.2 + h.grow a) else none
theorem any_arc {l : List Arc} {a : Arc} (e : (l.any fun b => b.beq a) = true) : a ∈ l := by
  obtain ⟨b, hb, e⟩ := List.any_eq_true.mp e
  rw [← Arc.beq_iff.mp e]; exact hb
structure LW (h : Hall) (n : Nm) (as : List Arc) (T I : Nat) : Prop where
  ok : HOk h
  way : Way h n as
  run : ∃ s, oFold (wstep h) (h.full n, 0, 0) as = some (s, T, I)
section
variable {P : Program} {w : World} {K : PySem.W.Frag} {mg : Str → Option Value} {base : Heap}
def fn__law_way_ticks : List PyData → PyData → Prop := fun zs z_ => ∃ (h : Hall) (n : Nm) (as : List Arc) (T I : Nat), zs = [h.d, wayD n as] ∧ z_ = .tuple [tabD [], iD T, iD I] ∧ LW h n as T I
theorem p__law_way_ticks (M : Md mg) (D : Dn K mg d__law_way_ticks) (F__law_full : FD P w K mg base "_law_full" 1 1 fn__law_full) (F__law_names : FD P w K mg base "_law_names" 1 1 fn__law_names) (F__law_arcs : FD P w K mg base "_law_arcs" 2 1 fn__law_arcs) (F__law_behind : FD P w K mg base "_law_behind" 3 2 fn__law_behind) : FD P w K mg base "_law_way_ticks" 2 3 fn__law_way_ticks := by
  obtain ⟨⟨fd, F⟩, g⟩ := D
  refine fd_of (N := ["_law_hall", "_law_way", "_law_name", "_law_arcs_here", "_law_state", "_law_index", "_law_ticks", "_law_stops", "_law_arc", "_law_place", "_law_purse", "_law_held", "_law_growth", "_law_more", "_law_one", "_law_end"]) (ps := ["_law_hall", "_law_way"]) (st := s__law_way_ticks) (k := 2) M F ⟨rfl, rfl, rfl, by decide, rfl, by decide, by decide⟩ g (fun _ _ _ _ _ _ us hl => match us, hl with | [_, _], _ => rfl) (fun zs z_ ⟨_, _, _, _, _, e, _⟩ => by subst e; rfl) fun f cdv A outer s H E hr G zs z_ hfn => ?_
  obtain ⟨h, n, as, T, I, rfl, rfl, p1⟩ := hfn
  have hN : (["_law_hall", "_law_way", "_law_name", "_law_arcs_here", "_law_state", "_law_index", "_law_ticks", "_law_stops", "_law_arc", "_law_place", "_law_purse", "_law_held", "_law_growth", "_law_more", "_law_one", "_law_end"] : List Str).Nodup := by decide
  have ok := p1.ok
  obtain ⟨sN, hrun⟩ := p1.run
  refine sd_cons (s_asg (ed_var 1 rfl) (gt_of (gd_tup G.calm (gds_cons (gd_name 2 hN) (gds_cons (gd_name 3 hN) gds_nil)) rfl)) ?_)
  refine sd_cons (s_tupN (is := [4, 5, 6, 7]) (pvs := [.dat (h.full n).d, .dat (iD 0), .dat (iD 0), .dic []]) G (evs_cons (ev_d (ed_tup (ea_cons (ed_var 2 rfl) (ea_cons (we_call F__law_full (room_le hr) (ea_cons (ed_var 0 rfl) ea_nil) ⟨h, rfl, rfl, ok⟩) ea_nil)) (Nat.le_of_ble_eq_true rfl))) (evs_cons (ev_d ed_int) (evs_cons (ev_d ed_int) (evs_cons (ev_m em_empty) evs_nil)))) (gns_cons 4 hN (gns_cons 5 hN (gns_cons 6 hN (gns_cons 7 hN gns_nil)))) rfl (Nat.le_of_ble_eq_true rfl) ?_ rfl)
  refine sd_cons (s_forO (gd := Arc.d) G (ei_tup (ed_var 3 rfl)) (wstep h) (h.full n, 0, 0) (fun x => [dD h.d, dD (wayD n as), dD n.d, dD (.tuple (as.map Arc.d)), dD x.1.d, dD (iD x.2.2), dD (iD x.2.1), dT [], dZ, dZ, dZ, dZ, dZ, dZ, dZ, dZ]) hrun rfl (fun a x x' ha hx => ⟨_, gd_name 8 hN, ?_⟩) (sd_frzD (i := 7) rfl (sd_one (s_ret (ed_tup (ea_cons (ed_var 7 rfl) (ea_cons (ed_var 6 rfl) (ea_cons (ed_var 5 rfl) ea_nil))) (Nat.le_of_ble_eq_true rfl)) rfl))))
  unfold wstep at hx
  split at hx
  case isFalse => cases hx
  rename_i hc
  cases hx
  rw [Bool.and_eq_true, Bool.and_eq_true] at hc
  obtain ⟨⟨c1, c2⟩, c3⟩ := hc
  have hmem := any_arc c3
  have hsok := sok_ok c1
  unfold rowNil at c2
  split at c2
  case h_2 => cases c2
  rename_i j hj
  have c2 := of_decide_eq_true c2
  obtain ⟨hjl, hj1, hj2⟩ := List.findIdx?_eq_some_iff_getElem.mp hj
  refine sd_cons (s_set 9 (ed_indexS (ys := h.ms.map fun m => m.nm.s) (y := x.1.1.s) (m := j) (el_ed (ed_c (by rw [List.map_map]; rfl) (we_call F__law_names (room_le hr) (ea_cons (ed_var 0 rfl) ea_nil) ⟨h, rfl, rfl, ok⟩))) (ed_ix (eq_t (ed_var 4 rfl)) ed_int rfl) (by rw [List.getElem?_map, List.getElem?_eq_getElem hjl, ← Nm.beq_iff.mp hj1]; rfl) (fun i hi e => ?_)) hN ?_)
  · rw [List.getElem?_map, List.getElem?_eq_getElem (by omega)] at e
    have := hj2 i hi
    rw [show (h.ms[i]).nm = x.1.1 from Nm.s_inj (Option.some.inj e), show x.1.1.beq x.1.1 = true from Nm.beq_iff.mpr rfl] at this
    exact this rfl
  obtain ⟨t0, et⟩ := arc_first hmem
  have hl := larcs_len ok x.1.1
  have hrow : ((x.1.2.map rowD)[j]?) = some (.tuple []) := by rw [List.getElem?_map, c2]; rfl
  have e0 : ∀ u, a.ends = u → (!decide (a.w = ("up" : Str))) = u := fun u e => by rw [← e]; cases a <;> rfl
  cases he : a.ends with
  | true =>
    refine sd_cons (s_if (u := true) (et_cast (et_of (ed_neS (x := a.w) (ed_ix (eq_t (ed_var 8 rfl)) ed_int rfl) ed_str)) (e0 _ he)) (fun _ => sd_one (s_forA (as := ([] : List Nat)) (gd := fun i => iD i) G (EI.cast (ei_enum (xs := []) G (ed_ix (eq_t (ed_ix (eq_t (ed_var 4 rfl)) ed_int rfl)) (i := (j : Int)) (ed_var 9 rfl) (atI_nat hrow))) rfl) (fun _ ρ' => ρ' = [dD h.d, dD (wayD n as), dD n.d, dD (.tuple (as.map Arc.d)), dD x.1.d, dD (iD x.2.2), dD (iD x.2.1), dT [], dD a.d, dD (iD j), dZ, dZ, dZ, dZ, dZ, dZ]) rfl (fun i a ρ' ha => by simp at ha) fun ρ' e => ?_)) fun h => by cases h)
    subst e
    refine sd_cons (s_set (d := iD (h.grow a)) 12 (ed_ix (ds := ((h.larcs x.1.1).filter fun b => b.beq a).map fun b => iD (h.grow b)) (i := 0) (eq_el (el_new (en_lcf (gd := triD h) (ds := h.larcs x.1.1) [("_law_one", 14), ("_law_end", 15), ("_law_growth", 12)] (fun b => b.beq a) (fun b => iD (h.grow b)) (fun b => [(14, b.d), (15, (h.fin b).d), (12, iD (h.grow b))]) G hN (ei_lst (we_call F__law_arcs (room_le hr) (ea_cons (ed_var 0 rfl) (ea_cons (ed_ix (eq_t (ed_var 4 rfl)) ed_int rfl) ea_nil)) ⟨h, x.1.1, rfl, rfl, ok⟩)) (blk_ok rfl) (by omega) (fun d u hu => by simp at hu; rcases hu with rfl | rfl | rfl <;> simp) (fun s H C cl fp d hd => gd_tup (G.blk _ _ _ _ _).calm (gds_cons (gd_name 14 hN) (gds_cons (gd_name 15 hN) (gds_cons (gd_name 12 hN) gds_nil))) rfl)
      (fun s H C cl fp b hd => ets_one (et_cast (et_of (ed_eq (G.blk _ _ _ _ _) (ef_ed (ed_var 14 rfl)) (ef_ed (ed_var 8 rfl)) (eqb_arc b) (eqb_arc a))) (eqv_arc b a))) (fun s H C cl fp b hd _ => (ed_var 12 rfl))))) ed_int (by rw [et]; exact atI_nat (j := 0) rfl)) hN ?_)
    refine sd_cons (s_asg (we_call F__law_behind (room_le hr) (ea_cons (ed_var 0 rfl) (ea_cons (ed_var 4 rfl) (ea_cons (ed_var 8 rfl) ea_nil))) ⟨h, x.1, a, rfl, rfl, ok, hmem, hsok⟩) (gt_of (gd_tup G.calm (gds_cons (gd_name 4 hN) (gds_cons (gd_name 13 hN) gds_nil)) rfl)) ?_)
    exact sd_cons (s_par2 (u := .dat (iD (x.2.1 + (h.beh x.1 a).2))) (v := .dat (iD (x.2.2 + h.grow a))) 6 5 G (evs_cons (ev_d (ed_c (congrArg PyData.int (by omega)) (ed_add (i := (x.2.1 : Int)) (j := ((h.beh x.1 a).2 : Int)) (ed_var 6 rfl) (ed_var 13 rfl)))) (evs_cons (ev_d (ed_c (congrArg PyData.int (by omega)) (ed_add (i := (x.2.2 : Int)) (j := (h.grow a : Int)) (ed_var 5 rfl) (ed_var 12 rfl)))) evs_nil)) hN (sd_endL [8, 9, 12, 13] rfl))
  | false =>
    refine sd_cons (s_if (u := false) (et_cast (et_of (ed_neS (x := a.w) (ed_ix (eq_t (ed_var 8 rfl)) ed_int rfl) ed_str)) (e0 _ he)) (fun h => by cases h) fun _ => sd_nil ?_)
    refine sd_cons (s_set (d := iD (h.grow a)) 12 (ed_ix (ds := ((h.larcs x.1.1).filter fun b => b.beq a).map fun b => iD (h.grow b)) (i := 0) (eq_el (el_new (en_lcf (gd := triD h) (ds := h.larcs x.1.1) [("_law_one", 14), ("_law_end", 15), ("_law_growth", 12)] (fun b => b.beq a) (fun b => iD (h.grow b)) (fun b => [(14, b.d), (15, (h.fin b).d), (12, iD (h.grow b))]) G hN (ei_lst (we_call F__law_arcs (room_le hr) (ea_cons (ed_var 0 rfl) (ea_cons (ed_ix (eq_t (ed_var 4 rfl)) ed_int rfl) ea_nil)) ⟨h, x.1.1, rfl, rfl, ok⟩)) (blk_ok rfl) (by omega) (fun d u hu => by simp at hu; rcases hu with rfl | rfl | rfl <;> simp) (fun s H C cl fp d hd => gd_tup (G.blk _ _ _ _ _).calm (gds_cons (gd_name 14 hN) (gds_cons (gd_name 15 hN) (gds_cons (gd_name 12 hN) gds_nil))) rfl)
      (fun s H C cl fp b hd => ets_one (et_cast (et_of (ed_eq (G.blk _ _ _ _ _) (ef_ed (ed_var 14 rfl)) (ef_ed (ed_var 8 rfl)) (eqb_arc b) (eqb_arc a))) (eqv_arc b a))) (fun s H C cl fp b hd _ => (ed_var 12 rfl))))) ed_int (by rw [et]; exact atI_nat (j := 0) rfl)) hN ?_)
    refine sd_cons (s_asg (we_call F__law_behind (room_le hr) (ea_cons (ed_var 0 rfl) (ea_cons (ed_var 4 rfl) (ea_cons (ed_var 8 rfl) ea_nil))) ⟨h, x.1, a, rfl, rfl, ok, hmem, hsok⟩) (gt_of (gd_tup G.calm (gds_cons (gd_name 4 hN) (gds_cons (gd_name 13 hN) gds_nil)) rfl)) ?_)
    exact sd_cons (s_par2 (u := .dat (iD (x.2.1 + (h.beh x.1 a).2))) (v := .dat (iD (x.2.2 + h.grow a))) 6 5 G (evs_cons (ev_d (ed_c (congrArg PyData.int (by omega)) (ed_add (i := (x.2.1 : Int)) (j := ((h.beh x.1 a).2 : Int)) (ed_var 6 rfl) (ed_var 13 rfl)))) (evs_cons (ev_d (ed_c (congrArg PyData.int (by omega)) (ed_add (i := (x.2.2 : Int)) (j := (h.grow a : Int)) (ed_var 5 rfl) (ed_var 12 rfl)))) evs_nil)) hN (sd_endL [8, 9, 12, 13] rfl))
def fn__law_gain : List PyData → PyData → Prop := fun zs z_ => ∃ (h : Hall) (n : Nm) (as : List Arc) (T I : Nat), zs = [h.d, wayD n as] ∧ z_ = .int ((T : Int) - (h.pace : Int) * (I : Int)) ∧ LW h n as T I ∧ I ≤ 100000000
theorem p__law_gain (M : Md mg) (D : Dn K mg d__law_gain) (F__law_way_ticks : FD P w K mg base "_law_way_ticks" 2 3 fn__law_way_ticks) (F__law_pace : FD P w K mg base "_law_pace" 1 2 fn__law_pace) : FD P w K mg base "_law_gain" 2 4 fn__law_gain := by
  obtain ⟨⟨fd, F⟩, g⟩ := D
  refine fd_of (N := ["_law_hall", "_law_way", "_law_stops", "_law_ticks", "_law_index"]) (ps := ["_law_hall", "_law_way"]) (st := s__law_gain) (k := 3) M F ⟨rfl, rfl, rfl, by decide, rfl, by decide, by decide⟩ g (fun _ _ _ _ _ _ us hl => match us, hl with | [_, _], _ => rfl) (fun zs z_ ⟨_, _, _, _, _, e, _⟩ => by subst e; rfl) fun f cdv A outer s H E hr G zs z_ hfn => ?_
  obtain ⟨h, n, as, T, I, rfl, rfl, p1, p2⟩ := hfn
  have hN : (["_law_hall", "_law_way", "_law_stops", "_law_ticks", "_law_index"] : List Str).Nodup := by decide
  refine sd_cons (s_asg (we_call F__law_way_ticks (room_le hr) (ea_cons (ed_var 0 rfl) (ea_cons (ed_var 1 rfl) ea_nil)) ⟨h, n, as, T, I, rfl, rfl, p1⟩) (gt_of (gd_tup G.calm (gds_cons (gd_name 2 hN) (gds_cons (gd_name 3 hN) (gds_cons (gd_name 4 hN) gds_nil))) rfl)) ?_)
  exact sd_one (s_ret (ed_sub (ed_var 3 rfl) (ed_mul (we_call F__law_pace (room_le hr) (ea_cons (ed_var 0 rfl) ea_nil) ⟨h, rfl, rfl, p1.ok⟩) (ed_var 4 rfl) (by have := pace_le p1.ok; left; constructor <;> omega))) rfl)
def fn__law_gain_of : List PyData → PyData → Prop := fun zs z_ => ∃ (h : Hall) (n : Nm) (as : List Arc) (T I : Nat), zs = [h.d, wayD n as] ∧ z_ = .tuple [.int ((T : Int) - (I : Int) * (h.pace : Int)), iD I] ∧ LW h n as T I ∧ I ≤ 100000000
theorem p__law_gain_of (M : Md mg) (D : Dn K mg d__law_gain_of) (F__law_way_ticks : FD P w K mg base "_law_way_ticks" 2 3 fn__law_way_ticks) (F__law_pace : FD P w K mg base "_law_pace" 1 2 fn__law_pace) : FD P w K mg base "_law_gain_of" 2 4 fn__law_gain_of := by
  obtain ⟨⟨fd, F⟩, g⟩ := D
  refine fd_of (N := ["_law_hall", "_law_way", "_law_stops", "_law_ticks", "_law_index"]) (ps := ["_law_hall", "_law_way"]) (st := s__law_gain_of) (k := 3) M F ⟨rfl, rfl, rfl, by decide, rfl, by decide, by decide⟩ g (fun _ _ _ _ _ _ us hl => match us, hl with | [_, _], _ => rfl) (fun zs z_ ⟨_, _, _, _, _, e, _⟩ => by subst e; rfl) fun f cdv A outer s H E hr G zs z_ hfn => ?_
  obtain ⟨h, n, as, T, I, rfl, rfl, p1, p2⟩ := hfn
  have hN : (["_law_hall", "_law_way", "_law_stops", "_law_ticks", "_law_index"] : List Str).Nodup := by decide
  refine sd_cons (s_asg (we_call F__law_way_ticks (room_le hr) (ea_cons (ed_var 0 rfl) (ea_cons (ed_var 1 rfl) ea_nil)) ⟨h, n, as, T, I, rfl, rfl, p1⟩) (gt_of (gd_tup G.calm (gds_cons (gd_name 2 hN) (gds_cons (gd_name 3 hN) (gds_cons (gd_name 4 hN) gds_nil))) rfl)) ?_)
  exact sd_one (s_ret (ed_tup (ea_cons (ed_sub (ed_var 3 rfl) (ed_mul (ed_var 4 rfl) (we_call F__law_pace (room_le hr) (ea_cons (ed_var 0 rfl) ea_nil) ⟨h, rfl, rfl, p1.ok⟩) (by left; constructor <;> omega))) (ea_cons (ed_var 4 rfl) ea_nil)) (Nat.le_of_ble_eq_true rfl)) rfl)
def fn__law_is_int : List PyData → PyData → Prop := fun zs z_ => ∃ (i : Int), zs = [.int i] ∧ z_ = .bool true
theorem p__law_is_int (M : Md mg) (D : Dn K mg d__law_is_int) : FD P w K mg base "_law_is_int" 1 1 fn__law_is_int := by
  obtain ⟨⟨fd, F⟩, g⟩ := D
  refine fd_of (N := ["_law_thing"]) (ps := ["_law_thing"]) (st := s__law_is_int) (k := 0) M F ⟨rfl, rfl, rfl, by decide, rfl, by decide, by decide⟩ g (fun _ _ _ _ _ _ us hl => match us, hl with | [_], _ => rfl) (fun zs z_ ⟨_, e, _⟩ => by subst e; rfl) fun f cdv A outer s H E hr G zs z_ hfn => ?_
  obtain ⟨i, rfl, rfl⟩ := hfn
  have hN : (["_law_thing"] : List Str).Nodup := by decide
  exact sd_one (s_ret (ed_and (ed_isi (Ts := "int") (r := true) G (ed_var 0 rfl) rfl k_ii G.int b_int) fun _ => ed_one (ed_not (ed_isi (Ts := "bool") (r := false) G (ed_var 0 rfl) rfl k_ib G.bool b_bool))) rfl)
def fn__law_counts : List PyData → PyData → Prop := fun zs z_ => ∃ (i : Int), zs = [.int i] ∧ z_ = .bool (decide (0 ≤ i))
theorem p__law_counts (M : Md mg) (D : Dn K mg d__law_counts) (F__law_is_int : FD P w K mg base "_law_is_int" 1 1 fn__law_is_int) : FD P w K mg base "_law_counts" 1 2 fn__law_counts := by
  obtain ⟨⟨fd, F⟩, g⟩ := D
  refine fd_of (N := ["_law_thing"]) (ps := ["_law_thing"]) (st := s__law_counts) (k := 1) M F ⟨rfl, rfl, rfl, by decide, rfl, by decide, by decide⟩ g (fun _ _ _ _ _ _ us hl => match us, hl with | [_], _ => rfl) (fun zs z_ ⟨_, e, _⟩ => by subst e; rfl) fun f cdv A outer s H E hr G zs z_ hfn => ?_
  obtain ⟨i, rfl, rfl⟩ := hfn
  have hN : (["_law_thing"] : List Str).Nodup := by decide
  exact sd_one (s_ret (ed_and (we_call F__law_is_int (room_le hr) (ea_cons (ed_var 0 rfl) ea_nil) ⟨i, rfl, rfl⟩) fun _ => ed_one (ed_ge (ed_var 0 rfl) ed_int)) (by simp))
def fn__law_is_arc : List PyData → PyData → Prop := fun zs z_ => ∃ (h : Hall) (a : Arc), zs = [h.d, a.d] ∧ z_ = .bool true ∧ HOk h ∧ a.ok h ∧ (∀ m, a = .next m → (h.mach m).isSome = true)
theorem p__law_is_arc (M : Md mg) (D : Dn K mg d__law_is_arc) (F__law_names : FD P w K mg base "_law_names" 1 1 fn__law_names) (F__law_counts : FD P w K mg base "_law_counts" 1 2 fn__law_counts) : FD P w K mg base "_law_is_arc" 2 3 fn__law_is_arc := by
  obtain ⟨⟨fd, F⟩, g⟩ := D
  refine fd_of (N := ["_law_hall", "_law_thing"]) (ps := ["_law_hall", "_law_thing"]) (st := s__law_is_arc) (k := 2) M F ⟨rfl, rfl, rfl, by decide, rfl, by decide, by decide⟩ g (fun _ _ _ _ _ _ us hl => match us, hl with | [_, _], _ => rfl) (fun zs z_ ⟨_, _, e, _⟩ => by subst e; rfl) fun f cdv A outer s H E hr G zs z_ hfn => ?_
  obtain ⟨h, a, rfl, rfl, p1, p2, p3⟩ := hfn
  have hN : (["_law_hall", "_law_thing"] : List Str).Nodup := by decide
  refine sd_cons (s_if (u := false) (et_cast (et_w (ew_or (et_not (et_val (ed_isi (Ts := "tuple") (r := true) G (ed_var 1 rfl) rfl k_tt G.tuple b_tuple))) fun _ => ew_or (et_of (ed_neI (ed_len G (eq_t (ed_var 1 rfl))) ed_int)) fun _ => ew_or1 (et_not (et_val (ed_isi (Ts := "str") (r := true) G (ed_ix (eq_t (ed_var 1 rfl)) ed_int rfl) rfl k_ss G.str b_str))))) rfl) (fun h => by cases h) fun _ => sd_nil ?_)
  cases a with
  | next m =>
    refine sd_cons (s_if (u := true) (et_cast (et_of (ed_eqS (x := "next") (ed_ix (eq_t (ed_var 1 rfl)) ed_int rfl) ed_str)) (by decide)) (fun _ => sd_one (s_ret (ed_and (ed_isi (Ts := "str") (r := true) G (ed_ix (eq_t (ed_var 1 rfl)) ed_int rfl) rfl k_ss G.str b_str) fun _ => ed_one (ed_in G (ef_ed (ed_ix (eq_t (ed_var 1 rfl)) ed_int rfl)) (eq_l (we_call F__law_names (room_le hr) (ea_cons (ed_var 0 rfl) ea_nil) ⟨h, rfl, rfl, p1⟩)) (eqb_str m.s) (plainAll_map (fun _ => rfl) _))) ?_)) fun h => by cases h)
    show PyData.bool (true && _) = _
    rw [Bool.true_and]
    exact congrArg PyData.bool ((any_nm h m).trans (p3 m rfl))
  | down i =>
    have hi : i < h.bs.length := p2
    refine sd_cons (s_if (u := false) (et_cast (et_of (ed_eqS (x := "down") (ed_ix (eq_t (ed_var 1 rfl)) ed_int rfl) ed_str)) (by decide)) (fun h => by cases h) fun _ => sd_nil (sd_one (s_ret (ed_and (ed_in G (ef_ed (ed_ix (eq_t (ed_var 1 rfl)) ed_int rfl)) (eq_t (ed_tup (ea_cons ed_str (ea_cons ed_str ea_nil)) (Nat.le_of_ble_eq_true rfl))) (eqb_str "down") rfl) fun _ => ed_and (we_call F__law_counts (room_le hr) (ea_cons (ed_ix (eq_t (ed_var 1 rfl)) ed_int rfl) ea_nil) ⟨(i : Int), rfl, rfl⟩) fun _ => ed_one (ed_lt (i := (i : Int)) (ed_ix (eq_t (ed_var 1 rfl)) ed_int rfl) (ed_len G (eq_t (ed_ix (eq_t (ed_var 0 rfl)) ed_int rfl))))) (congrArg PyData.bool ?_))))
    have e1 : decide (0 ≤ (i : Int)) = true := decide_eq_true (by omega)
    have e2 : decide ((i : Int) < ((h.bs.map Belt.d).length : Int)) = true := decide_eq_true (by rw [List.length_map]; omega)
    have e3 : ([PyData.str "down", PyData.str "up"].any fun z => PyData.eqv z (.str (Arc.down i).w)) = true := by simp [eqv_str, Arc.w]
    rw [e1, e2, e3]; rfl
  | up i =>
    have hi : i < h.bs.length := p2
    refine sd_cons (s_if (u := false) (et_cast (et_of (ed_eqS (x := "up") (ed_ix (eq_t (ed_var 1 rfl)) ed_int rfl) ed_str)) (by decide)) (fun h => by cases h) fun _ => sd_nil (sd_one (s_ret (ed_and (ed_in G (ef_ed (ed_ix (eq_t (ed_var 1 rfl)) ed_int rfl)) (eq_t (ed_tup (ea_cons ed_str (ea_cons ed_str ea_nil)) (Nat.le_of_ble_eq_true rfl))) (eqb_str "up") rfl) fun _ => ed_and (we_call F__law_counts (room_le hr) (ea_cons (ed_ix (eq_t (ed_var 1 rfl)) ed_int rfl) ea_nil) ⟨(i : Int), rfl, rfl⟩) fun _ => ed_one (ed_lt (i := (i : Int)) (ed_ix (eq_t (ed_var 1 rfl)) ed_int rfl) (ed_len G (eq_t (ed_ix (eq_t (ed_var 0 rfl)) ed_int rfl))))) (congrArg PyData.bool ?_))))
    have e1 : decide (0 ≤ (i : Int)) = true := decide_eq_true (by omega)
    have e2 : decide ((i : Int) < ((h.bs.map Belt.d).length : Int)) = true := decide_eq_true (by rw [List.length_map]; omega)
    have e3 : ([PyData.str "down", PyData.str "up"].any fun z => PyData.eqv z (.str (Arc.up i).w)) = true := by simp [eqv_str, Arc.w]
    rw [e1, e2, e3]; rfl
def fn__law_is_way : List PyData → PyData → Prop := fun zs z_ => ∃ (h : Hall) (n : Nm) (as : List Arc), zs = [h.d, wayD n as] ∧ z_ = .bool true ∧ HOk h ∧ Way h n as
theorem p__law_is_way (M : Md mg) (D : Dn K mg d__law_is_way) (F__law_names : FD P w K mg base "_law_names" 1 1 fn__law_names) (F__law_led : FD P w K mg base "_law_led" 3 2 fn__law_led) (F__law_is_arc : FD P w K mg base "_law_is_arc" 2 3 fn__law_is_arc) : FD P w K mg base "_law_is_way" 2 4 fn__law_is_way := by
  obtain ⟨⟨fd, F⟩, g⟩ := D
  refine fd_of (N := ["_law_hall", "_law_thing", "_law_name", "_law_arc"]) (ps := ["_law_hall", "_law_thing"]) (st := s__law_is_way) (k := 3) M F ⟨rfl, rfl, rfl, by decide, rfl, by decide, by decide⟩ g (fun _ _ _ _ _ _ us hl => match us, hl with | [_, _], _ => rfl) (fun zs z_ ⟨_, _, _, e, _⟩ => by subst e; rfl) fun f cdv A outer s H E hr G zs z_ hfn => ?_
  obtain ⟨h, n, as, rfl, rfl, p1, p2⟩ := hfn
  have hN : (["_law_hall", "_law_thing", "_law_name", "_law_arc"] : List Str).Nodup := by decide
  refine sd_cons (s_if (u := false) (et_cast (et_w (ew_or (et_not (et_val (ed_isi (Ts := "tuple") (r := true) G (ed_var 1 rfl) rfl k_tt G.tuple b_tuple))) fun _ => ew_or (et_of (ed_neI (ed_len G (eq_t (ed_var 1 rfl))) ed_int)) fun _ => ew_or (et_not (et_val (ed_isi (Ts := "str") (r := true) G (ed_ix (eq_t (ed_var 1 rfl)) ed_int rfl) rfl k_ss G.str b_str))) fun _ => ew_or1 (et_of (ed_notIn G (ef_ed (ed_ix (eq_t (ed_var 1 rfl)) ed_int rfl)) (eq_l (we_call F__law_names (room_le hr) (ea_cons (ed_var 0 rfl) ea_nil) ⟨h, rfl, rfl, p1⟩)) (eqb_str n.s) (plainAll_map (fun _ => rfl) _))))) (by rw [any_nm, p2.nm]; rfl)) (fun h => by cases h) fun _ => sd_nil ?_)
  refine sd_cons (s_if (u := false) (et_cast (et_not (et_val (ed_isi (Ts := "tuple") (r := true) G (ed_ix (eq_t (ed_var 1 rfl)) ed_int rfl) rfl k_tt G.tuple b_tuple))) rfl) (fun h => by cases h) fun _ => sd_nil ?_)
  refine sd_cons (s_set 2 (ed_ix (eq_t (ed_var 1 rfl)) ed_int rfl) hN ?_)
  refine sd_cons (s_forE (as := as) (gd := Arc.d) G (ei_tup (ed_ix (eq_t (ed_var 1 rfl)) ed_int rfl)) (fun pre => [dD h.d, dD (wayD n as), dD (h.at_ n pre).d, dZ]) rfl (fun pre a hp => ⟨_, gd_name 3 hN, ?_⟩) (sd_one (s_ret ed_bl rfl)))
  have hm := mem_of_pre hp
  have ha := p2.ok a hm
  have hla : a ∈ h.larcs (h.at_ n pre) := by rw [← p2.ch pre a hp]; exact larcs_mem ha
  refine sd_cons (s_set 2 (ed_if (u := true) (et_val (we_call F__law_is_arc (room_le hr) (ea_cons (ed_var 0 rfl) (ea_cons (ed_var 3 rfl) ea_nil)) ⟨h, a, rfl, rfl, p1, ha, fun m e => p2.kn m (by rw [← e]; exact hm)⟩)) (fun _ => (we_call F__law_led (room_le hr) (ea_cons (ed_var 0 rfl) (ea_cons (ed_var 2 rfl) (ea_cons (ed_var 3 rfl) ea_nil))) ⟨h, h.at_ n pre, a, rfl, rfl, p1, hla⟩)) fun h => by cases h) hN ?_)
  refine sd_cons (s_if (u := false) (et_cast (et_of (ed_isN (ed_var 2 rfl))) rfl) (fun h => by cases h) fun _ => sd_nil (sd_endL [3] ?_))
  show _ = [dD h.d, dD (wayD n as), dD (h.at_ n (pre ++ [a])).d, dZ]
  unfold Hall.at_
  rw [List.foldl_append]; rfl
def fn__law_ends_at : List PyData → PyData → Prop := fun zs z_ => ∃ (h : Hall) (n : Nm) (as : List Arc), zs = [h.d, wayD n as] ∧ z_ = .list (as.map fun a => (h.fin a).d) ∧ HOk h ∧ Way h n as
theorem p__law_ends_at (M : Md mg) (D : Dn K mg d__law_ends_at) (F__law_led : FD P w K mg base "_law_led" 3 2 fn__law_led) : FD P w K mg base "_law_ends_at" 2 3 fn__law_ends_at := by
  obtain ⟨⟨fd, F⟩, g⟩ := D
  refine fd_of (N := ["_law_hall", "_law_way", "_law_found", "_law_name", "_law_arc"]) (ps := ["_law_hall", "_law_way"]) (st := s__law_ends_at) (k := 2) M F ⟨rfl, rfl, rfl, by decide, rfl, by decide, by decide⟩ g (fun _ _ _ _ _ _ us hl => match us, hl with | [_, _], _ => rfl) (fun zs z_ ⟨_, _, _, e, _⟩ => by subst e; rfl) fun f cdv A outer s H E hr G zs z_ hfn => ?_
  obtain ⟨h, n, as, rfl, rfl, p1, p2⟩ := hfn
  have hN : (["_law_hall", "_law_way", "_law_found", "_law_name", "_law_arc"] : List Str).Nodup := by decide
  refine sd_cons (s_par2 (u := .lst []) (v := .dat n.d) 2 3 G (evs_cons (ev_l (en_lst ea_nil (Nat.zero_le _))) (evs_cons (ev_d (ed_ix (eq_t (ed_var 1 rfl)) ed_int rfl)) evs_nil)) hN ?_)
  refine sd_cons (s_forE (as := as) (gd := Arc.d) G (ei_tup (ed_ix (eq_t (ed_var 1 rfl)) ed_int rfl)) (fun pre => [dD h.d, dD (wayD n as), dL (pre.map fun a => (h.fin a).d), dD (h.at_ n pre).d, dZ]) rfl (fun pre a hp => ⟨_, gd_name 4 hN, ?_⟩) (sd_frzL (i := 2) rfl (sd_one (s_ret (ed_var 2 rfl) rfl))))
  have hm := mem_of_pre hp
  have ha := p2.ok a hm
  have hla : a ∈ h.larcs (h.at_ n pre) := by rw [← p2.ch pre a hp]; exact larcs_mem ha
  have hpl := pre_len hp
  have hln := p2.ln
  refine sd_cons (s_set 3 (we_call F__law_led (room_le hr) (ea_cons (ed_var 0 rfl) (ea_cons (ed_var 3 rfl) (ea_cons (ed_var 4 rfl) ea_nil))) ⟨h, h.at_ n pre, a, rfl, rfl, p1, hla⟩) hN ?_)
  refine sd_cons (s_append 2 rfl (ed_var 3 rfl) (by rw [List.length_map]; omega) (sd_endL [4] ?_))
  show [dD h.d, dD (wayD n as), dL ((pre.map fun a => (h.fin a).d) ++ [(h.fin a).d]), dD (h.fin a).d, dZ] = _
  unfold Hall.at_
  rw [List.foldl_append, List.map_append]; rfl
def fn__law_is_paying : List PyData → PyData → Prop := fun zs z_ => ∃ (h : Hall) (n : Nm) (as : List Arc) (a : Arc) (T I : Nat), zs = [h.d, wayD n (as ++ [a])] ∧ z_ = .bool (decide (0 < (T : Int) - (h.pace : Int) * (I : Int))) ∧ LW h n (as ++ [a]) T I ∧ I ≤ 100000000 ∧ h.fin a = .fill ∧ (∀ b ∈ as, h.fin b ≠ .fill)
theorem p__law_is_paying (M : Md mg) (D : Dn K mg d__law_is_paying) (F__law_is_way : FD P w K mg base "_law_is_way" 2 4 fn__law_is_way) (F__law_ends_at : FD P w K mg base "_law_ends_at" 2 3 fn__law_ends_at) (F__law_gain : FD P w K mg base "_law_gain" 2 4 fn__law_gain) : FD P w K mg base "_law_is_paying" 2 5 fn__law_is_paying := by
  obtain ⟨⟨fd, F⟩, g⟩ := D
  refine fd_of (N := ["_law_hall", "_law_thing", "_law_ends"]) (ps := ["_law_hall", "_law_thing"]) (st := s__law_is_paying) (k := 4) M F ⟨rfl, rfl, rfl, by decide, rfl, by decide, by decide⟩ g (fun _ _ _ _ _ _ us hl => match us, hl with | [_, _], _ => rfl) (fun zs z_ ⟨_, _, _, _, _, _, e, _⟩ => by subst e; rfl) fun f cdv A outer s H E hr G zs z_ hfn => ?_
  obtain ⟨h, n, as, a, T, I, rfl, rfl, p1, p2, p3, p4⟩ := hfn
  have hN : (["_law_hall", "_law_thing", "_law_ends"] : List Str).Nodup := by decide
  refine sd_cons (s_if (u := false) (et_cast (et_w (ew_or (et_not (et_val (we_call F__law_is_way (room_le hr) (ea_cons (ed_var 0 rfl) (ea_cons (ed_var 1 rfl) ea_nil)) ⟨h, n, _, rfl, rfl, p1.ok, p1.way⟩))) fun _ => ew_or1 (et_of (ed_eq G (ef_ed (ed_ix (eq_t (ed_var 1 rfl)) ed_int rfl)) (ef_ed (ed_tup ea_nil (Nat.le_of_ble_eq_true rfl))) (eqb_arcs (as ++ [a])) eqb_nil)))) (by rw [List.map_append]; cases as <;> rfl)) (fun h => by cases h) fun _ => sd_nil ?_)
  refine sd_cons (s_set 2 (we_call F__law_ends_at (room_le hr) (ea_cons (ed_var 0 rfl) (ea_cons (ed_var 1 rfl) ea_nil)) ⟨h, n, _, rfl, rfl, p1.ok, p1.way⟩) hN ?_)
  rw [List.map_append]
  refine sd_one (s_ret (ed_and (ed_eqS (x := (h.fin a).s) (y := Nm.fill.s) (ed_ix (eq_l (ed_var 2 rfl)) (i := -1) (ed_neg ed_int) (atI_last _ _)) (ed_ix (eq_t (ed_var 0 rfl)) ed_int rfl)) fun _ => ed_and (ed_notIn G (ef_ed (ed_ix (eq_t (ed_var 0 rfl)) ed_int rfl)) (eq_el (el_new (en_slice (el_ed (ed_var 2 rfl)) eo_none (eo_some (i := -1) (ed_neg ed_int))))) (eqb_str Nm.fill.s) ?_) fun _ => ed_one (ed_gt (we_call F__law_gain (room_le hr) (ea_cons (ed_var 0 rfl) (ea_cons (ed_var 1 rfl) ea_nil)) ⟨h, n, _, T, I, rfl, rfl, p1, p2⟩) ed_int)) (congrArg PyData.bool ?_))
  · rw [List.map_cons, List.map_nil, cutD_init]
    exact plainAll_map (g := fun b => (h.fin b).d) (fun _ => rfl) _
  · rw [List.map_cons, List.map_nil, cutD_init, p3, decide_eq_true rfl, Bool.true_and]
    have : (!(as.map fun b => (h.fin b).d).any fun z => PyData.eqv z (.str Nm.fill.s)) = true := by
      simp only [Bool.not_eq_true', List.any_eq_false, List.mem_map]
      rintro _ ⟨b, hb, rfl⟩
      have e : PyData.eqv (.str (h.fin b).s) (.str Nm.fill.s) = false := by
        rw [eqv_str, Nm.dec]
        cases q : (h.fin b).beq .fill with
        | false => rfl
        | true => exact absurd (Nm.beq_iff.mp q) (p4 b hb)
      exact (by rw [e]; exact Bool.false_ne_true)
    rw [this, Bool.true_and]
end
end K79


set_option Elab.async false
set_option linter.all false
set_option maxRecDepth 100000
set_option maxHeartbeats 4000000
/-! the law's own functions: live, states, tables -/
namespace K79
open PySem PySem.Spec PyProof.Rows L2
section
variable {X : Cx} {a e : Expr} {ρ : Env} {pos p p2 : Pos} {t : Tab}
theorem b_bi : bootBuiltins "isinstance" = some (.builtin "isinstance") := by decide +kernel
/-- isinstance(d, dict) -/
theorem ed_isiD (G : Gd X) (ha : EK X a ρ t) (hg : Gl X "isinstance" := by rfl) (hgT : Gl X "dict" := by rfl)
    (he : starEach [a, .Name "dict" p2] X.env = (false, eval a X.env) :: starEach [.Name "dict" p2] X.env := by exact star_of rfl) (he2 : starEach [.Name "dict" p2] X.env = (false, eval (.Name "dict" p2) X.env) :: starEach [] X.env := by exact star_of rfl)
    (hpl : (backTo pos (starEach [.Name "dict" p2] X.env)).any (·.1) = false := by rfl) : ED X (.Call (.Name "isinstance" p) [a, .Name "dict" p2] [] pos) ρ (.bool true) := fun O0 O H σ L rs Q q =>
  we_of (pe_callB (r := fun vs H Q => ∃ (q : Addr) (o : Obj) (xs : List Ent), vs = [.ref q, .ty "dict"] ∧ H q = some (dob q o) ∧ NObj X.prog X.w q o xs ∧ Q (.bl true) H) (fun pins s σ H xs us Q I r h => by
      obtain ⟨q, o, xs, rfl, h1, h2, q3⟩ := h
      obtain ⟨u1, u2, rfl, w1, w2⟩ := vals2 r
      cases w1
      have e2 : u2 = .type "dict" := w2
      subst e2
      exact PyProof.Rows.call_isinstance_yes ⟨o, dob_get I h1, h2.ex.1⟩ (by rw [show typeOf (.type "dict") = pure (.type "type") from rfl]) (by first | rfl | (rw [isSubtype_type]; kernel_rfl)) ⟨.bl true, H, I, rfl, q3⟩)
    hg G.isi b_bi (pa_cons pw_e (pa_cons (pe_bltn (v := .ty "dict") hgT G.dict b_dict rfl (by decide) (by decide)) pa_nil he2) he) (by decide) (by decide) he hpl) (ha O0 O H σ L rs _ fun v H1 e1 r1 => by
    cases r1 with
    | dic h1 h2 h3 => exact ⟨_, _, _, rfl, h1, h2, q _ H1 e1 (.bl true)⟩)
end
def liveStep (h : Hall) (l : List Nm) : List Nm :=
  let led := l.flatMap fun n => ((h.larcs n).filter fun a => decide (h.grow a = 0)).map h.fin
  l.filter fun n => led.any fun k => k.beq n
def Hall.llive (h : Hall) : Bool := ((List.range h.ms.length).foldl (fun l _ => liveStep h l) (h.ms.map (·.nm))).isEmpty
theorem eqb_nms (l : List Nm) : Eqb (.list (l.map Nm.d)) := ⟨plainAll_map (fun _ => rfl) l, by
  show PyData.depthAll _ + 1 ≤ 60
  have := depthAll_map (g := Nm.d) (k := 0) (fun _ => Nat.le_refl _) l
  omega⟩
theorem any_nmL (l : List Nm) (n : Nm) : (l.map Nm.d).any (fun z => PyData.eqv z n.d) = l.any fun k => k.beq n := by
  rw [List.any_map]
  refine congrArg (fun f => List.any l f) (funext fun k => ?_)
  show PyData.eqv (.str k.s) (.str n.s) = _
  rw [eqv_str, Nm.dec]
theorem mem_swap {α β : Type} {a : α} {b : β} : ∀ {l : List α} {m : List β}, (a, b) ∈ l.zip m → (b, a) ∈ m.zip l
  | [], _, h => by cases h
  | _ :: _, [], h => by cases h
  | x :: l, y :: m, h => by
    rw [List.zip_cons_cons] at h ⊢
    rcases List.mem_cons.mp h with q | q
    · cases q; exact List.mem_cons_self ..
    · exact List.mem_cons_of_mem _ (mem_swap q)
/-- a state of the hall, each held amount in its size -/
def stOk (h : Hall) (s : Sta) : Bool := sok h s && (h.mach s.1).isSome && (s.2.zip h.ms).all fun r => (r.1.zip r.2.ps).all fun q => decide (q.1 ≤ q.2.1)
section
variable {P : Program} {w : World} {K : PySem.W.Frag} {mg : Str → Option Value} {base : Heap}
def fn__law_is_live : List PyData → PyData → Prop := fun zs z_ => ∃ (h : Hall), zs = [h.d] ∧ z_ = .bool true ∧ HOk h ∧ h.llive = true
theorem p__law_is_live (M : Md mg) (D : Dn K mg d__law_is_live) (F__law_names : FD P w K mg base "_law_names" 1 1 fn__law_names) (F__law_arcs : FD P w K mg base "_law_arcs" 2 1 fn__law_arcs) : FD P w K mg base "_law_is_live" 1 2 fn__law_is_live := by
  obtain ⟨⟨fd, F⟩, g⟩ := D
  refine fd_of (N := ["_law_hall", "_law_left", "_law_turn", "_law_led_here", "_law_name", "_law_arc", "_law_end", "_law_growth"]) (ps := ["_law_hall"]) (st := s__law_is_live) (k := 1) M F ⟨rfl, rfl, rfl, by decide, rfl, by decide, by decide⟩ g (fun _ _ _ _ _ _ us hl => match us, hl with | [_], _ => rfl) (fun zs z_ ⟨_, e, _⟩ => by subst e; rfl) fun f cdv A outer s H E hr G zs z_ hfn => ?_
  obtain ⟨h, rfl, rfl, p1, p2⟩ := hfn
  have hN : (["_law_hall", "_law_left", "_law_turn", "_law_led_here", "_law_name", "_law_arc", "_law_end", "_law_growth"] : List Str).Nodup := by decide
  have hm := p1.ml
  have hlen : ∀ l : List Nat, (l.foldl (fun l _ => liveStep h l) (h.ms.map (·.nm))).length ≤ 4 := fun l => by
    have : ∀ (l : List Nat) (b : List Nm), b.length ≤ 4 → (l.foldl (fun l _ => liveStep h l) b).length ≤ 4 := by
      intro l
      induction l with
      | nil => intro b hb; exact hb
      | cons x l ih =>
        intro b hb
        rw [List.foldl_cons]
        exact ih _ (Nat.le_trans (List.length_filter_le _ _) hb)
    exact this l _ (by rw [List.length_map]; exact hm)
  refine sd_cons (s_set 1 (ed_c (d := .list (h.ms.map fun m => m.nm.d)) (d2 := .list ((h.ms.map (·.nm)).map Nm.d)) (by rw [List.map_map]; rfl) (we_call F__law_names (room_le hr) (ea_cons (ed_var 0 rfl) ea_nil) ⟨h, rfl, rfl, p1⟩)) hN ?_)
  refine sd_cons (s_forF (as := List.range h.ms.length) (gd := fun i => iD i) G (ei_rangeN (n := h.ms.length) G (ed_c (by rw [List.length_map, List.length_map]) (ed_len G (eq_l (ed_var 1 rfl)))) (by omega)) (fun l _ => liveStep h l) (h.ms.map (·.nm)) (fun l => [dD h.d, dD (.list (l.map Nm.d)), dZ, dZ, dZ, dZ, dZ, dZ]) rfl (fun pre i hp => ⟨_, gd_name 2 hN, ?_⟩) (sd_one (s_ret (ed_eq G (ef_ed (ed_var 1 rfl)) (ef_el (el_new (en_lst ea_nil (Nat.zero_le _)))) (eqb_nms _) eqb_nilL) ?_)))
  · have hll := hlen pre
    generalize pre.foldl (fun l _ => liveStep h l) (h.ms.map (·.nm)) = l at hll
    let ledF : Nm → List Nm := fun n => ((h.larcs n).filter fun a => decide (h.grow a = 0)).map h.fin
    have hf9 : ∀ q : List Nm, (q.flatMap ledF).length ≤ 9 * q.length := fun q => by
      induction q with
      | nil => simp
      | cons x q ih =>
        rw [List.flatMap_cons, List.length_append, List.length_cons]
        have h1 : (ledF x).length ≤ (h.larcs x).length := by
          show (List.map _ _).length ≤ _
          rw [List.length_map]; exact List.length_filter_le _ _
        have h2 := larcs_len p1 x
        omega
    refine sd_cons (s_setL 3 (en_lst ea_nil (Nat.zero_le _)) hN ?_)
    refine sd_cons (s_forF (as := l) (gd := Nm.d) G (ei_lst (ed_var 1 rfl)) (fun acc n => acc ++ ledF n) [] (fun acc => [dD h.d, dD (.list (l.map Nm.d)), dD (iD i), dL (acc.map Nm.d), dZ, dZ, dZ, dZ]) rfl (fun pre2 n hp2 => ⟨_, gd_name 4 hN, ?_⟩) ?_)
    · have hpl2 := pre_len hp2
      have e9 := hf9 pre2
      rw [foldl_flat, List.nil_append]
      refine sd_cons (s_extend (ds := (pre2.flatMap ledF).map Nm.d) 3 rfl (en_lcf (gd := triD h) (ds := h.larcs n) [("_law_arc", 5), ("_law_end", 6), ("_law_growth", 7)] (fun a => decide (h.grow a = 0)) (fun a => (h.fin a).d) (fun b => [(5, b.d), (6, (h.fin b).d), (7, iD (h.grow b))]) G hN (ei_lst (we_call F__law_arcs (room_le hr) (ea_cons (ed_var 0 rfl) (ea_cons (ed_var 4 rfl) ea_nil)) ⟨h, n, rfl, rfl, p1⟩)) (blk_ok rfl) (by have := larcs_len p1 n; omega) (fun d u hu => by simp at hu; rcases hu with rfl | rfl | rfl <;> simp) (fun s H C cl fp d hd => gd_tup (G.blk _ _ _ _ _).calm (gds_cons (gd_name 5 hN) (gds_cons (gd_name 6 hN) (gds_cons (gd_name 7 hN) gds_nil))) rfl)
        (fun s H C cl fp b hd => ets_one (et_cast (et_of (ed_eqI (i := (h.grow b : Int)) (ed_var 7 rfl) ed_int)) (decide_eq_decide.mpr (by omega)))) (fun s H C cl fp b hd _ => (ed_var 6 rfl))) ?_ (sd_endL [4] ?_))
      · rw [List.length_map, List.length_map]
        have := List.length_filter_le (fun a => decide (h.grow a = 0)) (h.larcs n)
        have := larcs_len p1 n
        omega
      · show [dD h.d, dD (.list (l.map Nm.d)), dD (iD i), dL ((pre2.flatMap ledF).map Nm.d ++ _), dZ, dZ, dZ, dZ] = _
        rw [List.map_append]
        show _ = [dD h.d, dD (.list (l.map Nm.d)), dD (iD i), dL ((pre2.flatMap ledF).map Nm.d ++ (((h.larcs n).filter fun a => decide (h.grow a = 0)).map h.fin).map Nm.d), dZ, dZ, dZ, dZ]
        rw [List.map_map]; rfl
    · rw [foldl_flat, List.nil_append]
      refine sd_cons (s_setLcf (gd := Nm.d) (ds := l) [("_law_name", 4)] 1 (fun n => (l.flatMap ledF).any fun k => k.beq n) Nm.d (fun n => [(4, n.d)]) G hN (ei_lst (ed_var 1 rfl)) (blk_ok rfl) (by omega) (fun d u hu => by simp at hu; simp [hu]) (fun s H C cl fp d hd => gd_name 4 hN) (fun s H C cl fp n hd => ets_one (et_cast (et_of (ed_in (G.blk _ _ _ _ _) (ef_ed (ed_var 4 rfl)) (eq_el (el_own 3 rfl)) (eqb_str n.s) (plainAll_map (fun _ => rfl) _))) (any_nmL _ n))) (fun s H C cl fp n hd _ => (ed_var 4 rfl)) (sd_frzL (i := 1) rfl (sd_endL [2, 3] rfl)) (sw_true rfl rfl rfl rfl))
  · unfold Hall.llive at p2
    rw [List.isEmpty_iff.mp p2]; rfl
def fn__law_is_state : List PyData → PyData → Prop := fun zs z_ => ∃ (h : Hall) (s : Sta), zs = [h.d, s.d] ∧ z_ = .bool true ∧ HOk h ∧ stOk h s = true
theorem p__law_is_state (M : Md mg) (D : Dn K mg d__law_is_state) (F__law_names : FD P w K mg base "_law_names" 1 1 fn__law_names) (F__law_counts : FD P w K mg base "_law_counts" 1 2 fn__law_counts) : FD P w K mg base "_law_is_state" 2 3 fn__law_is_state := by
  obtain ⟨⟨fd, F⟩, g⟩ := D
  refine fd_of (N := ["_law_hall", "_law_thing", "_law_row", "_law_name", "_law_time", "_law_purses", "_law_held", "_law_size", "_law_back"]) (ps := ["_law_hall", "_law_thing"]) (st := s__law_is_state) (k := 2) M F ⟨rfl, rfl, rfl, by decide, rfl, by decide, by decide⟩ g (fun _ _ _ _ _ _ us hl => match us, hl with | [_, _], _ => rfl) (fun zs z_ ⟨_, _, e, _⟩ => by subst e; rfl) fun f cdv A outer s H E hr G zs z_ hfn => ?_
  obtain ⟨h, s, rfl, rfl, p1, p2⟩ := hfn
  have hN : (["_law_hall", "_law_thing", "_law_row", "_law_name", "_law_time", "_law_purses", "_law_held", "_law_size", "_law_back"] : List Str).Nodup := by decide
  unfold stOk at p2
  rw [Bool.and_eq_true, Bool.and_eq_true] at p2
  obtain ⟨⟨c1, c2⟩, c3⟩ := p2
  have ok := sok_ok c1
  have hzl : (s.2.zip h.ms).length ≤ 4 := by have := p1.ml; rw [List.length_zip]; omega
  refine sd_cons (s_if (u := false) (et_cast (et_w (ew_or (et_not (et_val (ed_isi (Ts := "tuple") (r := true) G (ed_var 1 rfl) rfl k_tt G.tuple b_tuple))) fun _ => ew_or (et_of (ed_neI (ed_len G (eq_t (ed_var 1 rfl))) ed_int)) fun _ => ew_or (et_not (et_val (ed_isi (Ts := "str") (r := true) G (ed_ix (eq_t (ed_var 1 rfl)) ed_int rfl) rfl k_ss G.str b_str))) fun _ => ew_or1 (et_of (ed_notIn G (ef_ed (ed_ix (eq_t (ed_var 1 rfl)) ed_int rfl)) (eq_l (we_call F__law_names (room_le hr) (ea_cons (ed_var 0 rfl) ea_nil) ⟨h, rfl, rfl, p1⟩)) (eqb_str s.1.s) (plainAll_map (fun _ => rfl) _))))) (by rw [any_nm, c2]; rfl)) (fun h => by cases h) fun _ => sd_nil ?_)
  refine sd_cons (s_if (u := false) (et_cast (et_w (ew_or (et_not (et_val (ed_isi (Ts := "tuple") (r := true) G (ed_ix (eq_t (ed_var 1 rfl)) ed_int rfl) rfl k_tt G.tuple b_tuple))) fun _ => ew_or1 (et_of (ed_neI (ed_len G (eq_t (ed_ix (eq_t (ed_var 1 rfl)) ed_int rfl))) (ed_len G (eq_t (ed_ix (eq_t (ed_var 0 rfl)) ed_int rfl))))))) (by rw [List.length_map, List.length_map, ok.len]; simp)) (fun h => by cases h) fun _ => sd_nil ?_)
  refine sd_cons (s_forE (as := s.2.zip h.ms) (gd := fun p => .tuple [rowD p.1, p.2.d]) G (EI.cast (ei_zip G (ed_ix (eq_t (ed_var 1 rfl)) ed_int rfl) (ed_ix (eq_t (ed_var 0 rfl)) ed_int rfl)) (zipW _ _ _ _)) (fun _ => [dD h.d, dD s.d, dZ, dZ, dZ, dZ, dZ, dZ, dZ]) rfl (fun pre rm hp => ?_) (sd_one (s_ret ed_bl rfl)))
  obtain ⟨row, m⟩ := rm
  have hmem := mem_of_pre hp
  have hmm : m ∈ h.ms := (List.of_mem_zip hmem).2
  have hsw : (m, row) ∈ h.ms.zip s.2 := mem_swap hmem
  have hrl : row.length = m.ps.length := ok.rows _ hsw
  obtain ⟨t1, t2, t3⟩ := p1.tm m hmm
  have hall := List.all_eq_true.mp (List.all_eq_true.mp c3 _ hmem)
  refine ⟨[(2, rowD row), (3, m.nm.d), (4, iD m.t), (5, .tuple (m.ps.map purD))], gd_tup G.calm (gds_cons (us := [(2, rowD row)]) (gd_name 2 hN) (gds_cons (us := [(3, m.nm.d), (4, iD m.t), (5, .tuple (m.ps.map purD))]) (gd_tup G.calm (gds_cons (gd_name 3 hN) (gds_cons (gd_name 4 hN) (gds_cons (gd_name 5 hN) gds_nil))) rfl) gds_nil)) rfl, ?_⟩
  refine sd_cons (s_if (u := false) (et_cast (et_w (ew_or (et_not (et_val (ed_isi (Ts := "tuple") (r := true) G (ed_var 2 rfl) rfl k_tt G.tuple b_tuple))) fun _ => ew_or1 (et_of (ed_neI (ed_len G (eq_t (ed_var 2 rfl))) (ed_len G (eq_t (ed_var 5 rfl))))))) (by rw [List.length_map, List.length_map, hrl]; simp)) (fun h => by cases h) fun _ => sd_nil ?_)
  refine sd_cons (s_if (u := false) (et_cast (et_of (ed_ne G (ef_el (el_new (en_lcf (gd := fun p : Nat × (Nat × Nat) => .tuple [iD p.1, purD p.2]) (ds := row.zip m.ps) [("_law_held", 6), ("_law_size", 7), ("_law_back", 8)] (fun _ => false) (fun _ => .int 1) (fun p => [(6, iD p.1), (7, iD p.2.1), (8, iD p.2.2)]) G hN (EI.cast (ei_zip G (xs := row.map iD) (ys := m.ps.map purD) (ed_var 2 rfl) (ed_var 5 rfl)) (zipW _ _ _ _)) (blk_ok rfl) (by rw [List.length_zip]; omega) (fun d u hu => by simp at hu; rcases hu with rfl | rfl | rfl <;> simp)
    (fun s H C cl fp p hd => gd_tup (G.blk _ _ _ _ _).calm (gds_cons (us := [(6, iD p.1)]) (gd_name 6 hN) (gds_cons (us := [(7, iD p.2.1), (8, iD p.2.2)]) (gd_tup (G.blk _ _ _ _ _).calm (gds_cons (gd_name 7 hN) (gds_cons (gd_name 8 hN) gds_nil)) rfl) gds_nil)) rfl)
    (fun s H C cl fp p hd => ets_one (et_cast (et_w (ew_or (et_not (et_val (we_call F__law_counts (room_le hr) (ea_cons (ed_var 6 rfl) ea_nil) ⟨(p.1 : Int), rfl, rfl⟩))) fun _ => ew_or1 (et_of (ed_gt (i := (p.1 : Int)) (j := (p.2.1 : Int)) (ed_var 6 rfl) (ed_var 7 rfl))))) ?_)) (fun s H C cl fp p hd hc => by cases hc)))) (ef_el (el_new (en_lst ea_nil (Nat.zero_le _)))) ?_ eqb_nilL)) ?_) (fun h => by cases h) fun _ => sd_nil (sd_endL [2, 3, 4, 5] rfl))
  · have := of_decide_eq_true (hall p hd)
    rw [decide_eq_true (show (0 : Int) ≤ (p.1 : Int) by omega), decide_eq_false (show ¬ ((p.2.1 : Int) < (p.1 : Int)) by omega)]; rfl
  · rw [List.filter_eq_nil_iff.mpr (fun a _ h => by cases h)]; exact eqb_nilL
  · rw [List.filter_eq_nil_iff.mpr (fun a _ h => by cases h)]; rfl
end
end K79


set_option Elab.async false
set_option linter.all false
set_option maxRecDepth 100000
set_option maxHeartbeats 4000000
/-! the law's own functions: tables, verdicts -/
namespace K79
open PySem PySem.Spec PyProof.Rows L2
section
variable {X : Cx} {e : Expr} {ρ : Env} {pos p : Pos} {t : Tab}
theorem len_dN {prog : Program} {w : World} {A : Around} {E : Value → Shared → Prop} {s : Shared} {d : Addr} {es : Array DictEntry} {ep : Nat} {Q : Value → Shared → Prop} (lo : (d == sysModules) = false) (hm : s.heap.DictRaw d es ep) (fit : (es.size : Int) < 2 ^ 63)
    (q : ∀ t tk, Q (.int es.size t) { s with toks := tk }) : wpAny (model prog w) A (call (.builtin "len") [.ref d]) Q E s := by
  refine Calls.call_function_entry kind_len plain_len entry_len (args_len1 _) ?_
  unfold Builtin.«len»
  refine wpAny_bind (m := oneArg "len" _) (wpAny_pure ?_)
  refine wpAny_bind (m := callSpecial? (.ref d) _) (wpAny_callSpecial?_slot (name := Str.ofString "__len__") hm.typeIs F.slot_dict_len (PySem.call_len_raw lo hm ?_))
  refine wpAny_bind (wpAny_holding (wpAny_pure ?_))
  refine wpAny_bind (wpAny_letGo ?_)
  show wpAny _ _ (if ((es.size : Nat) : Int) < 0 then _ else _) _ _ _
  rw [if_neg (by omega)]
  show wpAny _ _ (if ((es.size : Nat) : Int) ≥ 2 ^ 63 then _ else _) _ _ _
  rw [if_neg (by omega)]
  exact wpAny_bind (wpAny_mkInt (wpAny_pure ⟨_, rfl, q _ _⟩))
theorem cr_lenN : CallR X (.builtin "len") (fun vs H Q => ∃ (a : Addr) (o : Obj) (xs : List Ent), vs = [V.ref a] ∧ H a = some (dob a o) ∧ NObj X.prog X.w a o xs ∧ Q (.int xs.length) H) := by
  intro pins s σ H vs us Q I r h
  obtain ⟨a, o, xs, rfl, ha, N, q⟩ := h
  rw [Vals.ref1 r]
  obtain ⟨es, ep, hdt, he⟩ := N.dat
  have l1 : es.size = xs.length := size_of_entries he
  have l2 := N.le
  rw [sizeLine_eq] at l2
  refine len_dN N.low ⟨o, dob_get I ha, N.ex, hdt⟩ (by omega) fun t tk => ?_
  rw [l1]
  exact ⟨.int _, H, I.tok tk, ⟨_, rfl⟩, q⟩
theorem ed_lenN (G : Gd X) (ha : EK X e ρ t) (hg : Gl X "len" := by rfl) (he : starEach [e] X.env = (false, eval e X.env) :: starEach [] X.env := by exact star_of rfl) : ED X (.Call (.Name "len" p) [e] [] pos) ρ (.int t.length) := fun O0 O H σ L rs Q q =>
  we_seq1 (T := false) (id := "len") rfl cr_lenN G.len (by decide +kernel) (ha O0 O H σ L rs _ fun v H1 e1 r1 => by
    cases r1 with
    | dic h1 h2 h3 => exact ⟨_, _, _, rfl, h1, h2, by rw [h3.length]; exact q _ H1 e1 (.int _)⟩) hg (by decide) (by decide) he
end
theorem eqvAll_map {α : Type} [DecidableEq α] {g : α → PyData} (hg : ∀ a b, PyData.eqv (g a) (g b) = decide (a = b)) : ∀ l m : List α, PyData.eqvAll (l.map g) (m.map g) = decide (l = m)
  | [], [] => rfl
  | [], _ :: _ => rfl
  | _ :: _, [] => rfl
  | a :: l, b :: m => by
    rw [List.map_cons, List.map_cons]
    show (PyData.eqv (g a) (g b) && PyData.eqvAll (l.map g) (m.map g)) = _
    rw [hg, eqvAll_map hg l m]
    by_cases h1 : a = b <;> by_cases h2 : l = m <;> simp [h1, h2]
theorem eqv_iD (a b : Nat) : PyData.eqv (iD a) (iD b) = decide (a = b) := by
  show ((a : Int) == (b : Int)) = _
  by_cases h : a = b
  · subst h; simp
  · rw [decide_eq_false h, beq_eq_false_iff_ne.mpr (by omega)]
theorem eqv_row (a b : List Nat) : PyData.eqv (rowD a) (rowD b) = decide (a = b) := eqvAll_map eqv_iD a b
theorem eqv_sta (s t : Sta) : PyData.eqv s.d t.d = decide (s = t) := by
  show (PyData.eqv (.str s.1.s) (.str t.1.s) && (PyData.eqvAll (s.2.map rowD) (t.2.map rowD) && true)) = _
  rw [eqv_str, eqvAll_map eqv_row]
  obtain ⟨a, b⟩ := s
  obtain ⟨c, d⟩ := t
  by_cases h1 : a = c
  · subst h1
    by_cases h2 : b = d <;> simp [h2]
  · have : ¬ a.s = c.s := fun e => h1 (Nm.s_inj e)
    simp [h1, this]
def rowOk (h : Hall) (t : List (Sta × Int)) (s : Sta) (g : Int) (a : Arc) : Bool :=
  if (h.fin a).beq .fill = true then decide ((h.gb s g a).2 ≤ 0) else match tget t (h.gb s g a).1 with
    | none => false
    | some v => decide ((h.gb s g a).2 ≤ v)
def tabOk (h : Hall) (t : List (Sta × Int)) : Bool :=
  (t.all fun p => stOk h p.1) && (h.ms.all fun m => decide (0 ≤ (tget t (h.full m.nm)).getD (-1))) && t.all fun p => match tget t p.1 with
    | none => false
    | some g => (h.larcs p.1.1).all fun a => rowOk h t p.1 g a
section
variable {P : Program} {w : World} {K : PySem.W.Frag} {mg : Str → Option Value} {base : Heap}
def fn__law_is_table : List PyData → PyData → Prop := fun zs z_ => ∃ (h : Hall) (t : List (Sta × Int)), zs = [h.d, tabD (stT PyData.int t)] ∧ z_ = .bool true ∧ HOk h ∧ tabOk h t = true ∧ t.length ≤ 1000
theorem p__law_is_table (M : Md mg) (D : Dn K mg d__law_is_table) (F__law_is_state : FD P w K mg base "_law_is_state" 2 3 fn__law_is_state) (F__law_is_int : FD P w K mg base "_law_is_int" 1 1 fn__law_is_int) (F__law_names : FD P w K mg base "_law_names" 1 1 fn__law_names) (F__law_full : FD P w K mg base "_law_full" 1 1 fn__law_full) (F__law_arcs : FD P w K mg base "_law_arcs" 2 1 fn__law_arcs) (F__law_behind : FD P w K mg base "_law_behind" 3 2 fn__law_behind) (F__law_pace : FD P w K mg base "_law_pace" 1 2 fn__law_pace) : FD P w K mg base "_law_is_table" 2 4 fn__law_is_table := by
  obtain ⟨⟨fd, F⟩, g⟩ := D
  refine fd_of (N := ["_law_hall", "_law_thing", "_law_state", "_law_name", "_law_arc", "_law_end", "_law_growth", "_law_other", "_law_ticks", "_law_gain_here"]) (ps := ["_law_hall", "_law_thing"]) (st := s__law_is_table) (k := 3) M F ⟨rfl, rfl, rfl, by decide, rfl, by decide, by decide⟩ g (fun _ _ _ _ _ _ us hl => match us, hl with | [_, _], _ => rfl) (fun zs z_ ⟨_, _, e, _⟩ => by subst e; rfl) fun f cdv A outer s H E hr G zs z_ hfn => ?_
  obtain ⟨h, t, rfl, rfl, p1, p2, p3⟩ := hfn
  have hN : (["_law_hall", "_law_thing", "_law_state", "_law_name", "_law_arc", "_law_end", "_law_growth", "_law_other", "_law_ticks", "_law_gain_here"] : List Str).Nodup := by decide
  unfold tabOk at p2
  rw [Bool.and_eq_true, Bool.and_eq_true] at p2
  obtain ⟨⟨c1, c2⟩, c3⟩ := p2
  have ek : (stT PyData.int t).map (fun p => p.1.data) = (t.map (·.1)).map Sta.d := by
    unfold stT
    rw [List.map_map, List.map_map]
    exact List.map_congr_left fun p _ => p.1.k_data
  have hst : ∀ s ∈ t.map (·.1), stOk h s = true := fun s hs => by
    obtain ⟨p, hp, rfl⟩ := List.mem_map.mp hs
    exact List.all_eq_true.mp c1 p hp
  have hkey : ∀ s ∈ t.map (·.1), ∃ g, tget t s = some g ∧ ∀ a ∈ h.larcs s.1, rowOk h t s g a = true := fun s hs => by
    obtain ⟨p, hp, rfl⟩ := List.mem_map.mp hs
    have := List.all_eq_true.mp c3 p hp
    split at this
    · cases this
    · exact ⟨_, ‹_›, fun a ha => List.all_eq_true.mp this a ha⟩
  have hget : ∀ {s : Sta} {g : Int}, tget t s = some g → tget (stT PyData.int t) s.k = some (.int g) := fun {s g} e => by rw [stT_get, e]; rfl
  refine sd_cons (s_if (u := false) (et_cast (et_w (ew_or (et_not (et_val (ed_isiD G (ek_ed (ed_var 1 rfl))))) fun _ => ew_or1 (et_of (ed_ne G (ef_el (el_new (en_lcf (gd := Sta.d) (ds := t.map (·.1)) [("_law_state", 2)] (fun _ => false) (fun _ => .int 1) (fun s => [(2, s.d)]) G hN (EI.cast (ei_dic (ed_var 1 rfl)) ek) (blk_ok rfl) (by rw [List.length_map]; omega) (fun d u hu => by simp at hu; simp [hu]) (fun s H C cl fp d hd => gd_name 2 hN)
    (fun s H C cl fp x hd => ets_one (et_cast (et_w (ew_or (et_not (et_val (we_call F__law_is_state (room_le hr) (ea_cons (ed_var 0 rfl) (ea_cons (ed_var 2 rfl) ea_nil)) ⟨h, x, rfl, rfl, p1, hst x hd⟩))) fun _ => ew_or1 (et_not (et_val (we_call F__law_is_int (room_le hr) (ea_cons (ed_get (t := stT PyData.int t) (k := x.k) (d := .int ((hkey x hd).choose)) (G.blk _ _ _ _ _) (ek_ed (ed_var 1 rfl)) (ed_c x.k_data.symm (ed_var 2 rfl)) x.k_tup x.k_depth (hget (hkey x hd).choose_spec.1)) ea_nil) ⟨_, rfl, rfl⟩))))) rfl)) (fun s H C cl fp p hd hc => by cases hc)))) (ef_el (el_new (en_lst ea_nil (Nat.zero_le _)))) ?_ eqb_nilL)))) ?_) (fun h => by cases h) fun _ => sd_nil ?_)
  · rw [List.filter_eq_nil_iff.mpr (fun a _ h => by cases h)]; exact eqb_nilL
  · rw [List.filter_eq_nil_iff.mpr (fun a _ h => by cases h)]; rfl
  refine sd_cons (s_if (u := false) (et_cast (et_of (ed_ne G (ef_el (el_new (en_lcf (gd := fun m : Mach => m.nm.d) (ds := h.ms) [("_law_name", 3)] (fun _ => false) (fun _ => .int 1) (fun m => [(3, m.nm.d)]) G hN (ei_lst (we_call F__law_names (room_le hr) (ea_cons (ed_var 0 rfl) ea_nil) ⟨h, rfl, rfl, p1⟩)) (blk_ok rfl) (by have := p1.ml; omega) (fun d u hu => by simp at hu; simp [hu]) (fun s H C cl fp d hd => gd_name 3 hN)
    (fun s H C cl fp m hd => ets_one (et_cast (et_of (ed_lt (i := (tget t (h.full m.nm)).getD (-1)) (ed_c ?_ (ed_getD (t := stT PyData.int t) (k := (h.full m.nm).k) (d := .int (-1)) (G.blk _ _ _ _ _) (ek_ed (ed_var 1 rfl)) (ed_c (Sta.k_data _).symm (ed_tup (ea_cons (ed_var 3 rfl) (ea_cons (we_call F__law_full (room_le hr) (ea_cons (ed_var 0 rfl) ea_nil) ⟨h, rfl, rfl, p1⟩) ea_nil)) (Nat.le_of_ble_eq_true rfl))) (ed_neg ed_int) (Sta.k_tup _) (Sta.k_depth _))) ed_int)) ?_)) (fun s H C cl fp p hd hc => by cases hc)))) (ef_el (el_new (en_lst ea_nil (Nat.zero_le _)))) ?_ eqb_nilL)) ?_) (fun h => by cases h) fun _ => sd_nil ?_)
  · rw [stT_get]
    cases tget t (h.full m.nm) <;> rfl
  · exact decide_eq_false (by have := of_decide_eq_true (List.all_eq_true.mp c2 m hd); omega)
  · rw [List.filter_eq_nil_iff.mpr (fun a _ h => by cases h)]; exact eqb_nilL
  · rw [List.filter_eq_nil_iff.mpr (fun a _ h => by cases h)]; rfl
  refine sd_cons (s_forE (as := t.map (·.1)) (gd := Sta.d) G (EI.cast (ei_dic (ed_var 1 rfl)) ek) (fun _ => [dD h.d, dD (tabD (stT PyData.int t)), dZ, dZ, dZ, dZ, dZ, dZ, dZ, dZ]) rfl (fun pre x hp => ⟨_, gd_name 2 hN, ?_⟩) (sd_one (s_ret ed_bl rfl)))
  have hx := mem_of_pre hp
  obtain ⟨g, hg, hrow⟩ := hkey x hx
  have sx := hst x hx
  unfold stOk at sx
  rw [Bool.and_eq_true, Bool.and_eq_true] at sx
  have okx := sok_ok sx.1.1
  refine sd_cons (s_forE (as := h.larcs x.1) (gd := triD h) G (ei_lst (we_call F__law_arcs (room_le hr) (ea_cons (ed_var 0 rfl) (ea_cons (ed_ix (eq_t (ed_var 2 rfl)) ed_int rfl) ea_nil)) ⟨h, x.1, rfl, rfl, p1⟩)) (fun _ => [dD h.d, dD (tabD (stT PyData.int t)), dD x.d, dZ, dZ, dZ, dZ, dZ, dZ, dZ]) rfl (fun pre a hp => ⟨_, gd_tup G.calm (gds_cons (gd_name 4 hN) (gds_cons (gd_name 5 hN) (gds_cons (gd_name 6 hN) gds_nil))) rfl, ?_⟩) (sd_endL [2] rfl))
  have ha := mem_of_pre hp
  have hr2 := hrow a ha
  refine sd_cons (s_asg (we_call F__law_behind (room_le hr) (ea_cons (ed_var 0 rfl) (ea_cons (ed_var 2 rfl) (ea_cons (ed_var 4 rfl) ea_nil))) ⟨h, x, a, rfl, rfl, p1, ha, okx⟩) (gt_of (gd_tup G.calm (gds_cons (gd_name 7 hN) (gds_cons (gd_name 8 hN) gds_nil)) rfl)) ?_)
  refine sd_cons (s_set (d := .int (h.gb x g a).2) 9 (ed_sub (ed_add (ed_get (t := stT PyData.int t) (k := x.k) G (ek_ed (ed_var 1 rfl)) (ed_c x.k_data.symm (ed_var 2 rfl)) x.k_tup x.k_depth (hget hg)) (ed_var 8 rfl)) (ed_mul (we_call F__law_pace (room_le hr) (ea_cons (ed_var 0 rfl) ea_nil) ⟨h, rfl, rfl, p1⟩) (ed_var 6 rfl) (by have := pace_le p1; left; constructor <;> omega))) hN ?_)
  unfold rowOk at hr2
  cases hf : (h.fin a).beq .fill with
  | true =>
    rw [if_pos hf] at hr2
    have := of_decide_eq_true hr2
    exact sd_cons (s_if (u := false) (et_cast (et_w (ew_or (et_w (ew_and (et_of (ed_eqS (x := (h.fin a).s) (y := Nm.fill.s) (ed_var 5 rfl) (ed_ix (eq_t (ed_var 0 rfl)) ed_int rfl))) fun _ => ew_and1 (et_of (ed_gt (i := (h.gb x g a).2) (ed_var 9 rfl) ed_int)))) fun _ => ew_or1 (et_w (ew_and (v := false) (et_of (ed_neS (x := (h.fin a).s) (y := Nm.fill.s) (ed_var 5 rfl) (ed_ix (eq_t (ed_var 0 rfl)) ed_int rfl))) fun hu => by rw [Nm.dec, hf] at hu; cases hu)))) (by rw [Nm.dec, hf, decide_eq_false (by omega)]; rfl)) (fun h => by cases h) fun _ => sd_nil (sd_endL [4, 5, 6, 7, 8, 9] rfl))
  | false =>
    rw [if_neg (by rw [hf]; exact Bool.false_ne_true)] at hr2
    split at hr2
    · cases hr2
    rename_i v hv
    have := of_decide_eq_true hr2
    have hv2 : tget (stT PyData.int t) (h.beh x a).1.k = some (.int v) := hget hv
    exact sd_cons (s_if (u := false) (et_cast (et_w (ew_or (et_w (ew_and (v := false) (et_of (ed_eqS (x := (h.fin a).s) (y := Nm.fill.s) (ed_var 5 rfl) (ed_ix (eq_t (ed_var 0 rfl)) ed_int rfl))) fun hu => by rw [Nm.dec, hf] at hu; cases hu)) fun _ => ew_or1 (et_w (ew_and (et_of (ed_neS (x := (h.fin a).s) (y := Nm.fill.s) (ed_var 5 rfl) (ed_ix (eq_t (ed_var 0 rfl)) ed_int rfl))) fun _ => ew_and1 (et_w (ew_or (et_of (ed_notInD (t := stT PyData.int t) (k := (h.beh x a).1.k) G (ed_c (Sta.k_data _).symm (ed_var 7 rfl)) (ek_ed (ed_var 1 rfl)) (Sta.k_tup _) (Sta.k_depth _))) fun _ => ew_or1 (et_of (ed_lt (ed_get (t := stT PyData.int t) (k := (h.beh x a).1.k) G (ek_ed (ed_var 1 rfl)) (ed_c (Sta.k_data _).symm (ed_var 7 rfl)) (Sta.k_tup _) (Sta.k_depth _) hv2) (j := (h.gb x g a).2) (ed_var 9 rfl))))))))) (by rw [Nm.dec, hf, hv2, decide_eq_false (show ¬ v < (h.gb x g a).2 by omega)]; rfl)) (fun h => by cases h) fun _ => sd_nil (sd_endL [4, 5, 6, 7, 8, 9] rfl))
end
end K79


set_option Elab.async false
set_option linter.all false
set_option maxRecDepth 100000
set_option maxHeartbeats 4000000
/-! the law's own verdict; the law's own gains -/
namespace K79
open PySem PySem.Spec PyProof.Rows L2
inductive LV (h : Hall) : PyData → Bool → Prop
  | waits {n : Nm} {as : List Arc} {a : Arc} {T I : Nat} (lw : LW h n (as ++ [a]) T I) (le : I ≤ 100000000) (fa : h.fin a = .fill) (fb : ∀ b ∈ as, h.fin b ≠ .fill) : LV h (.tuple [.str "waits", wayD n (as ++ [a])]) (decide (0 < (T : Int) - (h.pace : Int) * (I : Int)))
  | holds {t : List (Sta × Int)} (ok : tabOk h t = true) (le : t.length ≤ 1000) : LV h (.tuple [.str "holds", tabD (stT PyData.int t)]) true
def Hall.paced (h : Hall) (q : Nat) : Hall := ⟨h.ms.map fun m => ⟨m.nm, if m.nm.beq .fill = true then q else m.t, m.ps⟩, h.bs⟩
abbrev LG := List (Sta × Int) × List (Sta × Wy) × List Sta
def relaxL (h : Hall) (s : Sta) (g : Int) (w : Wy) (acc : LG) (a : Arc) : Option LG :=
  if acc.1.length ≤ 500 ∧ acc.2.1.length ≤ 500 ∧ acc.2.2.length ≤ 500 ∧ w.2.length ≤ 500 then
    (if (h.fin a).beq .fill = true then (if (h.gb s g a).2 ≤ 0 then some acc else none)
     else if better (tget acc.1 (h.gb s g a).1) (h.gb s g a).2 = true then
       some (tput acc.1 (h.gb s g a).1 (h.gb s g a).2, tput acc.2.1 (h.gb s g a).1 (w.1, w.2 ++ [a]), if (acc.2.2.any fun z => decide (z = (h.gb s g a).1)) = true then acc.2.2 else acc.2.2 ++ [(h.gb s g a).1])
     else some acc) else none
def turnL (h : Hall) (acc : LG) (s : Sta) : Option LG := match tget acc.1 s, tget acc.2.1 s with
  | some g, some w => if sok h s = true then oFold (relaxL h s g w) acc (h.larcs s.1) else none
  | _, _ => none
def runL (h : Hall) : Nat → LG → Option (List (Sta × Int))
  | 0, _ => none
  | n + 1, (b, c, l) => match l with
    | [] => some b
    | x :: xs => match oFold (turnL h) (b, c, []) (x :: xs) with
      | none => none
      | some r => if r.1.length ≤ 2000 then runL h n r else none
def initL (h : Hall) (acc : LG) (m : Mach) : LG := (tput acc.1 (h.full m.nm) 0, tput acc.2.1 (h.full m.nm) (m.nm, []), acc.2.2 ++ [h.full m.nm])
def Hall.lgains (h : Hall) : Option (List (Sta × Int)) := runL h 60 (h.ms.foldl (initL h) ([], [], []))
theorem initL_len (h : Hall) : ∀ (l : List Mach) (acc : LG), (l.foldl (initL h) acc).2.2.length = acc.2.2.length + l.length ∧ (l.foldl (initL h) acc).1.length ≤ acc.1.length + l.length ∧ (l.foldl (initL h) acc).2.1.length ≤ acc.2.1.length + l.length
  | [], acc => by simp
  | m :: l, acc => by
    obtain ⟨h1, h2, h3⟩ := initL_len h l (initL h acc m)
    rw [List.foldl_cons, List.length_cons]
    have e1 : (initL h acc m).2.2.length = acc.2.2.length + 1 := by show (acc.2.2 ++ [h.full m.nm]).length = _; rw [List.length_append]; rfl
    have e2 : (initL h acc m).1.length ≤ acc.1.length + 1 := tput_length _ _ _
    have e3 : (initL h acc m).2.1.length ≤ acc.2.1.length + 1 := tput_length _ _ _
    omega
section
variable {P : Program} {w : World} {K : PySem.W.Frag} {mg : Str → Option Value} {base : Heap}
def fn__law_is_verdict : List PyData → PyData → Prop := fun zs z_ => ∃ (h : Hall) (d : PyData) (b : Bool), zs = [h.d, d] ∧ z_ = .bool b ∧ HOk h ∧ h.llive = true ∧ LV h d b
theorem p__law_is_verdict (M : Md mg) (D : Dn K mg d__law_is_verdict) (F__law_is_live : FD P w K mg base "_law_is_live" 1 2 fn__law_is_live) (F__law_is_table : FD P w K mg base "_law_is_table" 2 4 fn__law_is_table) (F__law_is_paying : FD P w K mg base "_law_is_paying" 2 5 fn__law_is_paying) : FD P w K mg base "_law_is_verdict" 2 6 fn__law_is_verdict := by
  obtain ⟨⟨fd, F⟩, g⟩ := D
  refine fd_of (N := ["_law_hall", "_law_thing"]) (ps := ["_law_hall", "_law_thing"]) (st := s__law_is_verdict) (k := 5) M F ⟨rfl, rfl, rfl, by decide, rfl, by decide, by decide⟩ g (fun _ _ _ _ _ _ us hl => match us, hl with | [_, _], _ => rfl) (fun zs z_ ⟨_, _, _, e, _⟩ => by subst e; rfl) fun f cdv A outer s H E hr G zs z_ hfn => ?_
  obtain ⟨h, d, b, rfl, rfl, p1, p2, p3⟩ := hfn
  have hN : (["_law_hall", "_law_thing"] : List Str).Nodup := by decide
  cases p3 with
  | @waits n as a T I lw le fa fb =>
    refine sd_cons (s_if (u := false) (et_cast (et_w (ew_or (et_not (et_val (we_call F__law_is_live (room_le hr) (ea_cons (ed_var 0 rfl) ea_nil) ⟨h, rfl, rfl, p1, p2⟩))) fun _ => ew_or (et_not (et_val (ed_isi (Ts := "tuple") (r := true) G (ed_var 1 rfl) rfl k_tt G.tuple b_tuple))) fun _ => ew_or (et_of (ed_neI (ed_len G (eq_t (ed_var 1 rfl))) ed_int)) fun _ => ew_or1 (et_not (et_val (ed_isi (Ts := "str") (r := true) G (ed_ix (eq_t (ed_var 1 rfl)) ed_int rfl) rfl k_ss G.str b_str))))) rfl) (fun h => by cases h) fun _ => sd_nil ?_)
    refine sd_cons (s_if (u := false) (et_cast (et_of (ed_eqS (x := "waits") (ed_ix (eq_t (ed_var 1 rfl)) ed_int rfl) ed_str)) (by decide)) (fun h => by cases h) fun _ => sd_nil ?_)
    exact sd_one (s_ret (ed_and (ed_eqS (x := "waits") (ed_ix (eq_t (ed_var 1 rfl)) ed_int rfl) ed_str) fun _ => ed_one (we_call F__law_is_paying (room_le hr) (ea_cons (ed_var 0 rfl) (ea_cons (ed_ix (eq_t (ed_var 1 rfl)) ed_int rfl) ea_nil)) ⟨h, n, as, a, T, I, rfl, rfl, lw, le, fa, fb⟩)) (congrArg PyData.bool (by rw [decide_eq_true rfl, Bool.true_and])))
  | @holds t ok le =>
    refine sd_cons (s_if (u := false) (et_cast (et_w (ew_or (et_not (et_val (we_call F__law_is_live (room_le hr) (ea_cons (ed_var 0 rfl) ea_nil) ⟨h, rfl, rfl, p1, p2⟩))) fun _ => ew_or (et_not (et_val (ed_isi (Ts := "tuple") (r := true) G (ed_var 1 rfl) rfl k_tt G.tuple b_tuple))) fun _ => ew_or (et_of (ed_neI (ed_len G (eq_t (ed_var 1 rfl))) ed_int)) fun _ => ew_or1 (et_not (et_val (ed_isi (Ts := "str") (r := true) G (ed_ix (eq_t (ed_var 1 rfl)) ed_int rfl) rfl k_ss G.str b_str))))) rfl) (fun h => by cases h) fun _ => sd_nil ?_)
    exact sd_cons (s_if (u := true) (et_cast (et_of (ed_eqS (x := "holds") (ed_ix (eq_t (ed_var 1 rfl)) ed_int rfl) ed_str)) (by decide)) (fun _ => sd_one (s_ret (we_call F__law_is_table (room_le hr) (ea_cons (ed_var 0 rfl) (ea_cons (ed_ix (eq_t (ed_var 1 rfl)) ed_int rfl) ea_nil)) ⟨h, t, rfl, rfl, p1, ok, le⟩) rfl)) fun h => by cases h)
def fn__law_paced : List PyData → PyData → Prop := fun zs z_ => ∃ (h : Hall) (q : Nat), zs = [h.d, iD q] ∧ z_ = (h.paced q).d ∧ HOk h
theorem p__law_paced (M : Md mg) (D : Dn K mg d__law_paced) : FD P w K mg base "_law_paced" 2 1 fn__law_paced := by
  obtain ⟨⟨fd, F⟩, g⟩ := D
  refine fd_of (N := ["_law_hall", "_law_pace_here", "_law_name", "_law_time", "_law_purses"]) (ps := ["_law_hall", "_law_pace_here"]) (st := s__law_paced) (k := 0) M F ⟨rfl, rfl, rfl, by decide, rfl, by decide, by decide⟩ g (fun _ _ _ _ _ _ us hl => match us, hl with | [_, _], _ => rfl) (fun zs z_ ⟨_, _, e, _⟩ => by subst e; rfl) fun f cdv A outer s H E hr G zs z_ hfn => ?_
  obtain ⟨h, q, rfl, rfl, p1⟩ := hfn
  have hN : (["_law_hall", "_law_pace_here", "_law_name", "_law_time", "_law_purses"] : List Str).Nodup := by decide
  have hm := p1.ml
  refine sd_one (s_ret (d := .tuple [.tuple (h.ms.map fun m => Mach.d ⟨m.nm, if m.nm.beq .fill = true then q else m.t, m.ps⟩), .tuple (h.bs.map Belt.d), Nm.fill.d]) (ed_tup (ea_cons (ed_tupL G (el_new (en_lcm (gd := Mach.d) (ds := h.ms) [("_law_name", 2), ("_law_time", 3), ("_law_purses", 4)] (fun m => Mach.d ⟨m.nm, if m.nm.beq .fill = true then q else m.t, m.ps⟩) (fun m => [(2, m.nm.d), (3, iD m.t), (4, .tuple (m.ps.map purD))]) G hN (ei_tup (ed_ix (eq_t (ed_var 0 rfl)) ed_int rfl)) (blk_ok rfl) (by omega) (fun d u hu => by simp at hu; rcases hu with rfl | rfl | rfl <;> simp) (fun s H C cl fp d hd => gd_tup (G.blk _ _ _ _ _).calm (gds_cons (gd_name 2 hN) (gds_cons (gd_name 3 hN) (gds_cons (gd_name 4 hN) gds_nil))) rfl) (fun s H C cl fp m hd => (ed_tup (ea_cons (ed_var 2 rfl) (ea_cons (ed_if (u := m.nm.beq .fill) (et_cast (et_of (ed_eqS (x := m.nm.s) (y := Nm.fill.s) (ed_var 2 rfl) (ed_ix (eq_t (ed_var 0 rfl)) ed_int rfl))) (Nm.dec _ _)) (fun hu => ed_c (by rw [if_pos hu]) (ed_var 1 rfl)) (fun hu => ed_c (by rw [if_neg (by rw [hu]; exact Bool.false_ne_true)]) (ed_var 3 rfl))) (ea_cons (ed_var 4 rfl) ea_nil))) (Nat.le_of_ble_eq_true rfl)))))) (ea_cons (ed_ix (eq_t (ed_var 0 rfl)) ed_int rfl) (ea_cons (ed_ix (eq_t (ed_var 0 rfl)) ed_int rfl) ea_nil))) (Nat.le_of_ble_eq_true rfl)) ?_)
  unfold Hall.paced Hall.d
  rw [List.map_map]; rfl
def fn__law_gains : List PyData → PyData → Prop := fun zs z_ => ∃ (h : Hall) (b : List (Sta × Int)), zs = [h.d, iD 2000] ∧ z_ = .tuple [.str "holds", tabD (stT PyData.int b)] ∧ HOk h ∧ h.lgains = some b
theorem p__law_gains (M : Md mg) (D : Dn K mg d__law_gains) (F__law_names : FD P w K mg base "_law_names" 1 1 fn__law_names) (F__law_full : FD P w K mg base "_law_full" 1 1 fn__law_full) (F__law_arcs : FD P w K mg base "_law_arcs" 2 1 fn__law_arcs) (F__law_behind : FD P w K mg base "_law_behind" 3 2 fn__law_behind) (F__law_pace : FD P w K mg base "_law_pace" 1 2 fn__law_pace) : FD P w K mg base "_law_gains" 2 3 fn__law_gains := by
  obtain ⟨⟨fd, F⟩, g⟩ := D
  refine fd_of (N := ["_law_hall", "_law_most", "_law_best", "_law_came", "_law_line", "_law_name", "_law_later", "_law_state", "_law_gain_here", "_law_way", "_law_arc", "_law_end", "_law_growth", "_law_other", "_law_ticks", "_law_more"]) (ps := ["_law_hall", "_law_most"]) (st := s__law_gains) (k := 2) M F ⟨rfl, rfl, rfl, by decide, rfl, by decide, by decide⟩ g (fun _ _ _ _ _ _ us hl => match us, hl with | [_, _], _ => rfl) (fun zs z_ ⟨_, _, e, _⟩ => by subst e; rfl) fun f cdv A outer s H E hr G zs z_ hfn => ?_
  obtain ⟨h, b, rfl, rfl, p1, p2⟩ := hfn
  have hN : (["_law_hall", "_law_most", "_law_best", "_law_came", "_law_line", "_law_name", "_law_later", "_law_state", "_law_gain_here", "_law_way", "_law_arc", "_law_end", "_law_growth", "_law_other", "_law_ticks", "_law_more"] : List Str).Nodup := by decide
  have hm := p1.ml
  refine sd_cons (s_par3 (u := .dic []) (v := .dic []) (w' := .lst []) 2 3 4 G (evs_cons (ev_m em_empty) (evs_cons (ev_m em_empty) (evs_cons (ev_l (en_lst ea_nil (Nat.zero_le _))) evs_nil))) hN ?_)
  refine sd_cons (s_forF (as := h.ms) (gd := fun m => m.nm.d) G (ei_lst (we_call F__law_names (room_le hr) (ea_cons (ed_var 0 rfl) ea_nil) ⟨h, rfl, rfl, p1⟩)) (initL h) ([], [], []) (fun x => [dD h.d, dD (iD 2000), dT (stT PyData.int x.1), dT (stT wyD x.2.1), dL (x.2.2.map Sta.d), dZ, dZ, dZ, dZ, dZ, dZ, dZ, dZ, dZ, dZ, dZ]) rfl (fun pre m hp => ⟨_, gd_name 5 hN, ?_⟩) ?_)
  · have hpl := pre_len hp
    have hl := initL_len h pre ([], [], [])
    generalize pre.foldl (initL h) ([], [], []) = x at hl
    simp only [List.length_nil, Nat.zero_add] at hl
    refine sd_cons (s_append (ds := x.2.2.map Sta.d) (d := (h.full m.nm).d) 4 rfl (ed_tup (ea_cons (ed_var 5 rfl) (ea_cons (we_call F__law_full (room_le hr) (ea_cons (ed_var 0 rfl) ea_nil) ⟨h, rfl, rfl, p1⟩) ea_nil)) (Nat.le_of_ble_eq_true rfl)) (by rw [List.length_map]; omega) ?_)
    refine sd_cons (s_asg (ed_tup (ea_cons ed_int (ea_cons (ed_tup (ea_cons (ed_var 5 rfl) (ea_cons (ed_tup ea_nil (Nat.zero_le _)) ea_nil)) (Nat.le_of_ble_eq_true rfl)) ea_nil)) (Nat.le_of_ble_eq_true rfl)) (gt_tup G.calm (gts_cons (gt_sub (t := stT PyData.int x.1) (k := (h.full m.nm).k) 2 G rfl (ed_c (Sta.k_data _).symm (ed_ix (ds := x.2.2.map Sta.d ++ [(h.full m.nm).d]) (eq_el (el_own 4 rfl)) (i := -1) (ed_neg ed_int) (atI_last _ _))) (Sta.k_depth _) (Sta.k_tup _) (by rw [stT_len]; omega))
      (gts_cons (gt_sub (t := stT wyD x.2.1) (k := (h.full m.nm).k) 3 G rfl (ed_c (Sta.k_data _).symm (ed_ix (ds := x.2.2.map Sta.d ++ [(h.full m.nm).d]) (eq_el (el_own 4 rfl)) (i := -1) (ed_neg ed_int) (atI_last _ _))) (Sta.k_depth _) (Sta.k_tup _) (by rw [stT_len]; omega)) gts_nil)) rfl) (sd_endL [5] ?_))
    show [dD h.d, _, dT (tput (stT PyData.int x.1) _ (.int 0)), dT (tput (stT wyD x.2.1) _ (wyD (m.nm, []))), dL (x.2.2.map Sta.d ++ [_]), dZ, dZ, dZ, dZ, dZ, dZ, dZ, dZ, dZ, dZ, dZ] = _
    rw [stT_put PyData.int, stT_put wyD]
    unfold initL
    simp only [List.map_append, List.map_cons, List.map_nil]
  refine sd_cons (s_while (fun k ρ' => ∃ x : LG, runL h k x = some b ∧ ρ' = [dD h.d, dD (iD 2000), dT (stT PyData.int x.1), dT (stT wyD x.2.1), dL (x.2.2.map Sta.d), dZ, dZ, dZ, dZ, dZ, dZ, dZ, dZ, dZ, dZ, dZ]) 60 ⟨_, p2, rfl⟩ (fun k ρ' ⟨x, hb, e⟩ => ?_))
  subst e
  obtain ⟨b1, c1, l⟩ := x
  cases k with
  | zero => cases hb
  | succ k =>
    cases l with
    | nil =>
      cases hb
      exact ⟨false, et_cast (et_of (ed_ne G (ef_el (el_own 4 rfl)) (ef_el (el_new (en_lst ea_nil (Nat.zero_le _)))) (eqb_stas []) eqb_nilL)) rfl, (fun h => by cases h), fun _ => sd_frzD (i := 2) rfl (sd_one (s_ret (ed_tup (ea_cons ed_str (ea_cons (ed_var 2 rfl) ea_nil)) (Nat.le_of_ble_eq_true rfl)) rfl))⟩
    | cons z zs =>
      rw [runL] at hb
      split at hb
      · cases hb
      rename_i r hr0
      split at hb
      case isFalse => cases hb
      rename_i hlen
      refine ⟨true, et_cast (et_of (ed_ne G (ef_el (el_own 4 rfl)) (ef_el (el_new (en_lst ea_nil (Nat.zero_le _)))) (eqb_stas (z :: zs)) eqb_nilL)) rfl, fun _ => ?_, fun h => by cases h⟩
      refine sd_cons (s_setL 6 (en_lst ea_nil (Nat.zero_le _)) hN ?_)
      refine sd_frzL (i := 4) rfl ?_
      refine sd_cons (s_forO (gd := Sta.d) (as := z :: zs) G (ei_lst (ed_var 4 rfl)) (turnL h) (b1, c1, []) (fun x : LG => [dD h.d, dD (iD 2000), dT (stT PyData.int x.1), dT (stT wyD x.2.1), dD (.list ((z :: zs).map Sta.d)), dZ, dL (x.2.2.map Sta.d), dZ, dZ, dZ, dZ, dZ, dZ, dZ, dZ, dZ]) hr0 rfl (fun s x x' hs hx => ⟨_, gd_name 7 hN, ?_⟩) ?_)
      · unfold turnL at hx
        split at hx
        case h_2 => cases hx
        rename_i g wy hg hw
        split at hx
        case isFalse => cases hx
        rename_i hok
        refine sd_cons (s_par2 (u := .dat (.int g)) (v := .dat (wyD wy)) 8 9 G (evs_cons (ev_d (ed_get (t := stT PyData.int x.1) (k := s.k) G (ek_own 2 rfl) (ed_c s.k_data.symm (ed_var 7 rfl)) s.k_tup s.k_depth (by rw [stT_get, hg]; rfl))) (evs_cons (ev_d (ed_get (t := stT wyD x.2.1) (k := s.k) G (ek_own 3 rfl) (ed_c s.k_data.symm (ed_var 7 rfl)) s.k_tup s.k_depth (by rw [stT_get, hw]; rfl))) evs_nil)) hN ?_)
        refine sd_cons (s_forO (gd := triD h) (as := h.larcs s.1) G (ei_lst (we_call F__law_arcs (room_le hr) (ea_cons (ed_var 0 rfl) (ea_cons (ed_ix (eq_t (ed_var 7 rfl)) ed_int rfl) ea_nil)) ⟨h, s.1, rfl, rfl, p1⟩)) (relaxL h s g wy) x (fun x : LG => [dD h.d, dD (iD 2000), dT (stT PyData.int x.1), dT (stT wyD x.2.1), dD (.list ((z :: zs).map Sta.d)), dZ, dL (x.2.2.map Sta.d), dD s.d, dD (.int g), dD (wyD wy), dZ, dZ, dZ, dZ, dZ, dZ]) hx rfl (fun a y y' ha hy => ⟨_, gd_tup G.calm (gds_cons (gd_name 10 hN) (gds_cons (gd_name 11 hN) (gds_cons (gd_name 12 hN) gds_nil))) rfl, ?_⟩) (sd_endL [7, 8, 9] rfl))
        unfold relaxL at hy
        split at hy
        case isFalse => cases hy
        rename_i hsz
        obtain ⟨z1, z2, z3, z4⟩ := hsz
        refine sd_cons (s_asg (we_call F__law_behind (room_le hr) (ea_cons (ed_var 0 rfl) (ea_cons (ed_var 7 rfl) (ea_cons (ed_var 10 rfl) ea_nil))) ⟨h, s, a, rfl, rfl, p1, ha, sok_ok hok⟩) (gt_of (gd_tup G.calm (gds_cons (gd_name 13 hN) (gds_cons (gd_name 14 hN) gds_nil)) rfl)) ?_)
        refine sd_cons (s_set (d := .int (h.gb s g a).2) 15 (ed_sub (ed_add (ed_var 8 rfl) (ed_var 14 rfl)) (ed_mul (we_call F__law_pace (room_le hr) (ea_cons (ed_var 0 rfl) ea_nil) ⟨h, rfl, rfl, p1⟩) (ed_var 12 rfl) (by have := pace_le p1; left; constructor <;> omega))) hN ?_)
        cases hf : (h.fin a).beq .fill with
        | true =>
          rw [if_pos hf] at hy
          split at hy
          case isFalse => cases hy
          rename_i hle
          cases hy
          exact sd_cons (s_if (u := true) (et_cast (et_of (ed_eqS (x := (h.fin a).s) (y := Nm.fill.s) (ed_var 11 rfl) (ed_ix (eq_t (ed_var 0 rfl)) ed_int rfl))) (by rw [Nm.dec]; exact hf)) (fun _ => sd_one (s_if (u := false) (et_cast (et_of (ed_gt (i := (h.gb s g a).2) (ed_var 15 rfl) ed_int)) (decide_eq_false (by omega))) (fun h => by cases h) fun _ => sd_nil (sd_endL [10, 11, 12, 13, 14, 15] rfl))) fun h => by cases h)
        | false =>
          rw [if_neg (by rw [hf]; exact Bool.false_ne_true)] at hy
          refine sd_cons (s_if (u := false) (et_cast (et_of (ed_eqS (x := (h.fin a).s) (y := Nm.fill.s) (ed_var 11 rfl) (ed_ix (eq_t (ed_var 0 rfl)) ed_int rfl))) (by rw [Nm.dec]; exact hf)) (fun h => by cases h) fun _ => ?_)
          have hcond : ∃ u v, ((!(tget (stT PyData.int y.1) (h.gb s g a).1.k).isSome) = u) ∧ (u = false → ∃ z, tget (stT PyData.int y.1) (h.gb s g a).1.k = some (.int z) ∧ decide (z < (h.gb s g a).2) = v) ∧ (u || v) = better (tget y.1 (h.gb s g a).1) (h.gb s g a).2 := by
            rw [stT_get]
            cases q : tget y.1 (h.gb s g a).1 with
            | none => exact ⟨true, true, rfl, (fun h => by cases h), rfl⟩
            | some z => exact ⟨false, decide (z < (h.gb s g a).2), rfl, fun _ => ⟨z, rfl, rfl⟩, rfl⟩
          obtain ⟨u, v, hu1, hu2, hu3⟩ := hcond
          cases hbt : better (tget y.1 (h.gb s g a).1) (h.gb s g a).2 with
          | false =>
            rw [if_neg (by rw [hbt]; exact Bool.false_ne_true)] at hy
            cases hy
            exact sd_one (s_if (u := false) (et_cast (et_w (ew_or (et_cast (et_of (ed_notInD (t := stT PyData.int y.1) (k := (h.gb s g a).1.k) G (ed_c (Sta.k_data _).symm (ed_var 13 rfl)) (ek_own 2 rfl) (Sta.k_tup _) (Sta.k_depth _))) hu1) fun hu => by
              obtain ⟨v0, hz1, hz2⟩ := hu2 hu
              exact ew_or1 (et_cast (et_of (ed_lt (ed_get (t := stT PyData.int y.1) (k := (h.gb s g a).1.k) G (ek_own 2 rfl) (ed_c (Sta.k_data _).symm (ed_var 13 rfl)) (Sta.k_tup _) (Sta.k_depth _) hz1) (j := (h.gb s g a).2) (ed_var 15 rfl))) hz2))) (hu3.trans hbt)) (fun h => by cases h) fun _ => sd_nil (sd_endL [10, 11, 12, 13, 14, 15] rfl))
          | true =>
            rw [if_pos hbt] at hy
            cases hy
            refine sd_one (s_if (u := true) (et_cast (et_w (ew_or (et_cast (et_of (ed_notInD (t := stT PyData.int y.1) (k := (h.gb s g a).1.k) G (ed_c (Sta.k_data _).symm (ed_var 13 rfl)) (ek_own 2 rfl) (Sta.k_tup _) (Sta.k_depth _))) hu1) fun hu => by
              obtain ⟨v0, hz1, hz2⟩ := hu2 hu
              exact ew_or1 (et_cast (et_of (ed_lt (ed_get (t := stT PyData.int y.1) (k := (h.gb s g a).1.k) G (ek_own 2 rfl) (ed_c (Sta.k_data _).symm (ed_var 13 rfl)) (Sta.k_tup _) (Sta.k_depth _) hz1) (j := (h.gb s g a).2) (ed_var 15 rfl))) hz2))) (hu3.trans hbt)) (fun _ => ?_) fun h => by cases h)
            refine sd_cons (s_asg (ed_tup (ea_cons (ed_var 15 rfl) (ea_cons (ed_c (d2 := wyD (wy.1, wy.2 ++ [a])) (by unfold wyD wayD; rw [List.map_append]; rfl) (ed_tup (ea_cons (ed_ix (eq_t (ed_var 9 rfl)) ed_int rfl) (ea_cons (ed_cat (ed_ix (eq_t (ed_var 9 rfl)) ed_int rfl) (ed_tup (ea_cons (ed_var 10 rfl) ea_nil) (Nat.le_of_ble_eq_true rfl)) (by rw [sizeLine_eq, List.length_map]; simp; omega)) ea_nil)) (Nat.le_of_ble_eq_true rfl))) ea_nil)) (Nat.le_of_ble_eq_true rfl)) (gt_tup G.calm (gts_cons (gt_sub (t := stT PyData.int y.1) (k := (h.gb s g a).1.k) 2 G rfl (ed_c (Sta.k_data _).symm (ed_var 13 rfl)) (Sta.k_depth _) (Sta.k_tup _) (by rw [stT_len]; omega)) (gts_cons (gt_sub (t := stT wyD y.2.1) (k := (h.gb s g a).1.k) 3 G rfl (ed_c (Sta.k_data _).symm (ed_var 13 rfl)) (Sta.k_depth _) (Sta.k_tup _) (by rw [stT_len]; omega)) gts_nil)) rfl) ?_)
            change SD _ _ [dD h.d, dD (iD 2000), dT (tput (stT PyData.int y.1) (h.gb s g a).1.k (.int (h.gb s g a).2)), dT (tput (stT wyD y.2.1) (h.gb s g a).1.k (wyD (wy.1, wy.2 ++ [a]))), dD (.list ((z :: zs).map Sta.d)), dZ, dL (y.2.2.map Sta.d), dD s.d, dD (.int g), dD (wyD wy), dD a.d, dD (h.fin a).d, dD (iD (h.grow a)), dD (h.gb s g a).1.d, dD (iD (h.beh s a).2), dD (.int (h.gb s g a).2)] _
            rw [stT_put PyData.int, stT_put wyD]
            have hin : (y.2.2.map Sta.d).any (fun q => PyData.eqv q (h.gb s g a).1.d) = y.2.2.any fun q => decide (q = (h.gb s g a).1) := by
              rw [List.any_map]
              exact congrArg (fun f => List.any y.2.2 f) (funext fun q => eqv_sta q _)
            cases hl : y.2.2.any fun q => decide (q = (h.gb s g a).1) with
            | true =>
              rw [if_pos rfl]
              exact sd_one (s_if (u := false) (et_cast (et_of (ed_notIn (d := (h.gb s g a).1.d) G (ef_ed (ed_var 13 rfl)) (eq_el (el_own 6 rfl)) (eqb_sta _) (plainAll_map sta_plain _))) (by rw [hin, hl]; rfl)) (fun h => by cases h) fun _ => sd_nil (sd_endL [10, 11, 12, 13, 14, 15] rfl))
            | false =>
              rw [if_neg Bool.false_ne_true]
              refine sd_one (s_if (u := true) (et_cast (et_of (ed_notIn (d := (h.gb s g a).1.d) G (ef_ed (ed_var 13 rfl)) (eq_el (el_own 6 rfl)) (eqb_sta _) (plainAll_map sta_plain _))) (by rw [hin, hl]; rfl)) (fun _ => sd_one (s_append (ds := y.2.2.map Sta.d) 6 rfl (ed_var 13 rfl) (by rw [List.length_map]; omega) (sd_endL [10, 11, 12, 13, 14, 15] ?_))) fun h => by cases h)
              show [dD h.d, _, _, _, _, dZ, dL (y.2.2.map Sta.d ++ [_]), _, _, _, dZ, dZ, dZ, dZ, dZ, dZ] = _
              simp only [List.map_append, List.map_cons, List.map_nil]
      · obtain ⟨b2, c2, l2⟩ := r
        refine sd_cons (s_move 4 6 rfl rfl (by decide) hN ?_)
        exact sd_cons (s_if (u := false) (et_cast (et_of (ed_gt (ed_lenN G (ek_own 2 rfl)) (ed_var 1 rfl))) (decide_eq_false (by rw [stT_len]; have h9 : b2.length ≤ 2000 := hlen; show ¬ (2000 : Int) < ((b2.length : Nat) : Int); omega))) (fun h => by cases h) fun _ => sd_nil (sd_nil ⟨k, Nat.lt_succ_self k, (b2, c2, l2), hb, rfl⟩))
end
end K79


set_option Elab.async false
set_option linter.all false
set_option maxRecDepth 100000
set_option maxHeartbeats 4000000
/-! the family of halls, checked one by one -/
namespace K79
open PySem PySem.Spec PyProof.Rows L2
structure Wash where
  t : Nat
  ps : List (Nat × Nat)
  room : Nat
  first : Nat
  ord : Bool
def mkHall (p ex room : Nat) : Option Wash → Hall
  | none => ⟨[⟨.cap, p + ex, []⟩, ⟨.fill, p, []⟩], [⟨.cap, .fill, room, room⟩]⟩
  | some w => ⟨[⟨.cap, p + ex, []⟩, ⟨.fill, p, []⟩, ⟨.wash, w.t, w.ps⟩], if w.ord then [⟨.cap, .fill, room, room⟩, ⟨.wash, .cap, w.room, w.first⟩] else [⟨.wash, .cap, w.room, w.first⟩, ⟨.cap, .fill, room, room⟩]⟩
def capAt : Option Wash → Nat
  | none => 0
  | some w => if w.ord then 0 else 1
def washes (p : Nat) : List (Option Wash) := none :: ([p, p - 1, 1].flatMap fun t => [[], [(100, 0)], [(3, 1)]].flatMap fun ps => [20, 3].flatMap fun r => [0, 1, 3].flatMap fun f => [true, false].map fun o => some ⟨t, ps, r, f, o⟩)
def hokB (h : Hall) : Bool := decide (h.ms.length ≤ 4) && decide (h.bs.length ≤ 4) && (h.bs.all fun b => decide (b.first ≤ b.room) && decide (b.room ≤ 100)) && (h.ms.all fun m => decide (m.t ≤ 200) && decide (m.ps.length ≤ 1) && m.ps.all fun p => decide (p.1 ≤ 100) && decide (p.2 ≤ 1)) && (h.mach .fill).isSome
def liveB (h : Hall) : Bool := h.ms.all fun m => h.noBack m.nm
def slowB (h : Hall) (i : Nat) : Bool :=
  hokB h && liveB h && h.llive && match h.states with
  | none => false
  | some L => decide (L.length ≤ 1000) && match srun h (L.length + 1) h.line (best0 h.line) (came0 h.line) with
    | some (b, c, some s) => decide (b.length ≤ 1000) && decide (ledC c 100 s [(s, true)] = some (h.full .cap)) && (match tget c (h.full .cap) with
        | some (some (z, .next .cap)) => decide (z = h.full .cap)
        | _ => false) && match h.home with
        | some F => (match wayOf F .cap with
          | some [.down j] => decide (j = i)
          | _ => false)
        | none => false
    | _ => false
def fastB (h : Hall) : Bool :=
  hokB h && liveB h && h.llive && h.lgains.isSome && match h.states with
  | none => false
  | some L => decide (L.length ≤ 1000) && match srun h (L.length + 1) h.line (best0 h.line) (came0 h.line) with
    | some (b, c, none) => decide (b.length ≤ 1000) && tabOk h b
    | _ => false
def famB (p ex room : Nat) : Bool := (washes p).all fun w => slowB (mkHall p ex room w) (capAt w) && fastB ((mkHall p ex room w).paced (p + 2))
def famW (p ex room : Nat) (w : Option Wash) : Bool := slowB (mkHall p ex room w) (capAt w) && fastB ((mkHall p ex room w).paced (p + 2))
theorem famB_of {p ex room : Nat} (h1 : ((washes p).take 55).all (famW p ex room) = true) (h2 : ((washes p).drop 55).all (famW p ex room) = true) : famB p ex room = true := by
  show (washes p).all (famW p ex room) = true
  rw [← List.take_append_drop 55 (washes p), List.all_append, h1, h2]; rfl
end K79

set_option Elab.async false
set_option linter.all false
set_option maxRecDepth 100000
set_option maxHeartbeats 4000000
/-! halls that differ in the room of one belt to the filler -/
namespace K79
open PySem PySem.Spec PyProof.Rows L2
/-- h' is h but for the first load of the belt c, which leads to the filler: it is no less -/
structure Sim (c : Nat) (h h' : Hall) : Prop where
  ms : h'.ms = h.ms
  bl : h'.bs.length = h.bs.length
  a : ∀ i, (h'.belt i).a = (h.belt i).a
  b : ∀ i, (h'.belt i).b = (h.belt i).b
  g : ∀ x : Arc, x ≠ .down c → h'.grow x = h.grow x
  f : h.fin (.down c) = .fill
  le : h.grow (.down c) ≤ h'.grow (.down c)
  ps : 0 < h.grow (.down c)
theorem oFold_congr {α β : Type} {f f' : β → α → Option β} : ∀ {l : List α}, (∀ a ∈ l, ∀ b, f' b a = f b a) → ∀ b, oFold f' b l = oFold f b l
  | [], _, b => rfl
  | a :: l, hf, b => by
    rw [oFold, oFold, hf a (List.mem_cons_self ..)]
    cases f b a with
    | none => rfl
    | some b' => exact oFold_congr (fun x hx => hf x (List.mem_cons_of_mem _ hx)) b'
theorem oFold_mono {α β : Type} {f f' : β → α → Option β} : ∀ {l : List α} {b r : β}, (∀ a ∈ l, ∀ b b', f b a = some b' → f' b a = some b') → oFold f b l = some r → oFold f' b l = some r
  | [], b, r, _, e => e
  | a :: l, b, r, hf, e => by
    rw [oFold] at e ⊢
    cases h : f b a with
    | none => rw [h] at e; cases e
    | some c =>
      rw [h] at e
      rw [hf a (List.mem_cons_self ..) b c h]
      exact oFold_mono (fun x hx => hf x (List.mem_cons_of_mem _ hx)) e
section
variable {c : Nat} {h h' : Hall} (S : Sim c h h')
include S
theorem Sim.start (x : Arc) : h'.start x = h.start x := by
  cases x with
  | next n => rfl
  | down i => exact S.a i
  | up i => exact S.b i
theorem Sim.fin (x : Arc) : h'.fin x = h.fin x := by
  cases x with
  | next n => rfl
  | down i => exact S.b i
  | up i => exact S.a i
theorem Sim.arcs : h'.arcs = h.arcs := by
  unfold Hall.arcs
  rw [S.ms, S.bl]
theorem Sim.from (n : Nm) : h'.arcsFrom n = h.arcsFrom n := by
  unfold Hall.arcsFrom
  rw [S.arcs]
  exact List.filter_congr fun x _ => by rw [S.start]
theorem Sim.inner (n : Nm) : h'.inner n = h.inner n := by
  unfold Hall.inner
  rw [S.from]
  exact List.filter_congr fun x _ => by rw [S.fin]
theorem Sim.mach (n : Nm) : h'.mach n = h.mach n := by
  unfold Hall.mach; rw [S.ms]
theorem Sim.pace : h'.pace = h.pace := by
  unfold Hall.pace Hall.time; rw [S.mach]
theorem Sim.full (n : Nm) : h'.full n = h.full n := by
  unfold Hall.full; rw [S.ms]
theorem Sim.line : h'.line = h.line := by
  unfold Hall.line
  rw [S.ms]
  exact List.map_congr_left fun m _ => S.full m.nm
theorem Sim.beh {s : Sta} {x : Arc} (hx : x ≠ .down c) : h'.beh s x = h.beh s x := by
  unfold Hall.beh Hall.beh0
  rw [S.ms, S.g x hx, S.fin]
theorem Sim.gb {s : Sta} {v : Int} {x : Arc} (hx : x ≠ .down c) : h'.gb s v x = h.gb s v x := by
  unfold Hall.gb
  rw [S.beh hx, S.pace, S.g x hx]
theorem Sim.sok (s : Sta) : sok h' s = sok h s := by
  unfold K79.sok; rw [S.ms]
theorem Sim.inner_ne {n : Nm} {x : Arc} (hx : x ∈ h.inner n) : x ≠ .down c := fun e => by
  subst e
  have := (List.mem_filter.mp hx).2
  rw [S.f] at this
  cases this
theorem Sim.bfs : ∀ (n i : Nat) (acc : Met), bfs h' n i acc = bfs h n i acc
  | 0, _, _ => rfl
  | n + 1, i, acc => by
    rw [K79.bfs, K79.bfs]
    cases acc.1[i]? with
    | none => rfl
    | some s =>
      simp only
      rw [S.sok, S.inner, oFold_congr (f := bfsIn h s) (f' := bfsIn h' s) (fun a ha b => by unfold bfsIn; rw [S.beh (S.inner_ne ha)])]
      split
      · split
        · exact Sim.bfs n _ _
        · rfl
      · rfl
theorem Sim.states : h'.states = h.states := by
  unfold Hall.states
  rw [S.bfs, S.line]
theorem Sim.beh_ticks {s : Sta} {x : Arc} : (h'.beh s x).2 = (h.beh s x).2 := by
  have key : ∀ (l : List (Mach × List Nat)) (p q : Nat × List (List Nat)) (g g' : Nat), p.1 = q.1 → (l.foldl (behS s x g') p).1 = (l.foldl (behS s x g) q).1 := by
    intro l
    induction l with
    | nil => intro p q g g' e; exact e
    | cons a l ih =>
      intro p q g g' e
      rw [List.foldl_cons, List.foldl_cons]
      refine ih _ _ g g' ?_
      unfold behS
      split
      · rfl
      · exact e
  unfold Hall.beh Hall.beh0
  rw [S.ms]
  exact key _ _ _ _ _ rfl
theorem Sim.gb_le {s : Sta} {v : Int} {x : Arc} : (h'.gb s v x).2 ≤ (h.gb s v x).2 := by
  by_cases e : x = .down c
  · subst e
    unfold Hall.gb
    rw [S.beh_ticks, S.pace]
    have h1 := S.le
    have : (h.pace : Int) * (h.grow (.down c) : Int) ≤ (h.pace : Int) * (h'.grow (.down c) : Int) := Int.mul_le_mul_of_nonneg_left (by omega) (by omega)
    simp only
    omega
  · rw [S.gb e]; exact Int.le_refl _
theorem Sim.home {s : Sta} {v : Int} (e : h.homeNo s v = true) : h'.homeNo s v = true := by
  unfold Hall.homeNo at e ⊢
  rw [S.from]
  refine List.all_eq_true.mpr fun x hx => ?_
  have := List.all_eq_true.mp e x hx
  rw [S.fin]
  have hle := S.gb_le (s := s) (v := v) (x := x)
  cases q : (h.fin x).beq .fill with
  | false => rfl
  | true =>
    rw [q] at this
    simp only [Bool.true_and, Bool.not_eq_true', decide_eq_false_iff_not] at this ⊢
    omega
theorem Sim.turnS {acc r : SS} {s : Sta} (e : turnS h acc s = some r) : turnS h' acc s = some r := by
  unfold K79.turnS at e ⊢
  split at e
  · cases e
  rename_i g hg
  split at e
  case isFalse => cases e
  rename_i hc
  rw [Bool.and_eq_true] at hc
  rw [if_pos (by rw [S.home hc.1, S.sok, hc.2]; rfl), S.inner]
  rw [oFold_congr (f := relax h s) (f' := relax h' s) (fun a ha b => by
    unfold relax
    cases tget b.1 s with
    | none => rfl
    | some g => simp only [S.gb (S.inner_ne ha)])]
  exact e
theorem Sim.srun : ∀ {n : Nat} {l : List Sta} {b : List (Sta × Int)} {cm : List (Sta × Came)} {r : Found}, srun h n l b cm = some r → srun h' n l b cm = some r
  | 0, _, _, _, _, e => e
  | n + 1, l, b, cm, r, e => by
    rw [K79.srun] at e ⊢
    split at e
    · cases e
    rename_i acc hf
    rw [oFold_mono (fun a ha b b' hb => S.turnS hb) hf]
    simp only
    split at e
    · exact e
    · exact Sim.srun e
theorem Sim.zero (x : Arc) : decide (h'.grow x = 0) = decide (h.grow x = 0) := by
  by_cases e : x = .down c
  · subst e
    have h1 := S.le
    have h2 := S.ps
    rw [decide_eq_false (by omega), decide_eq_false (by omega)]
  · rw [S.g x e]
theorem Sim.still : h'.still = h.still := by
  unfold Hall.still
  rw [S.arcs]
  exact List.filter_congr fun x _ => S.zero x
theorem Sim.lbIn (x : Wy) (acc : List Wy × List Wy) (a : Arc) : lbIn h' x acc a = lbIn h x acc a := by
  unfold K79.lbIn
  rw [S.start, S.fin]
theorem Sim.lbAll (x : Wy) : ∀ (l : List Arc) (acc : List Wy × List Wy), lbAll h' x acc l = lbAll h x acc l
  | [], _ => rfl
  | a :: l, acc => by
    show (K79.lbIn h' x acc a).bind (fun acc' => K79.lbAll h' x acc' l) = (K79.lbIn h x acc a).bind fun acc' => K79.lbAll h x acc' l
    rw [S.lbIn]
    exact congrArg _ (funext fun b => Sim.lbAll x l b)
theorem Sim.lbRun : ∀ (n : Nat) (acc : List Wy × List Wy), lbRun h' n acc = lbRun h n acc
  | 0, _ => rfl
  | n + 1, (b, []) => rfl
  | n + 1, (b, x :: w) => by
    show (K79.lbAll h' x (b, w) h'.still).bind (fun acc => K79.lbRun h' n acc) = (K79.lbAll h x (b, w) h.still).bind fun acc => K79.lbRun h n acc
    rw [S.still, S.lbAll]
    exact congrArg _ (funext fun b => Sim.lbRun n b)
theorem Sim.noBack (n : Nm) : h'.noBack n = h.noBack n := by
  unfold Hall.noBack
  rw [S.lbRun]
theorem Sim.live : liveB h' = liveB h := by
  unfold liveB
  rw [S.ms]
  exact congrArg (fun f => List.all h.ms f) (funext fun m => S.noBack m.nm)
theorem Sim.whSome (t n : Nm) : whSome h' t n = whSome h t n := by
  unfold K79.whSome
  rw [S.from]
  exact List.filter_congr fun x _ => by rw [S.fin]
theorem Sim.wh : ∀ (n i : Nat) (acc : List Wy × List Nm), wh h' n i acc = wh h n i acc
  | 0, _, _ => rfl
  | n + 1, i, acc => by
    rw [K79.wh, K79.wh]
    cases acc.2[i]? with
    | none => rfl
    | some t =>
      simp only
      rw [S.ms, oFold_congr (f := whIn h t) (f' := whIn h' t) (fun a _ b => by unfold whIn; rw [S.whSome])]
      split
      · exact Sim.wh n _ _
      · rfl
theorem Sim.homeF : h'.home = h.home := by
  unfold Hall.home; exact S.wh _ _ _
theorem Sim.larcs (n : Nm) : h'.larcs n = h.larcs n := by
  unfold Hall.larcs Hall.downs Hall.ups
  rw [S.bl]
  simp only [S.a, S.b]
theorem Sim.llive : h'.llive = h.llive := by
  have key : ∀ l, liveStep h' l = liveStep h l := fun l => by
    unfold liveStep
    have : (fun n => ((h'.larcs n).filter fun a => decide (h'.grow a = 0)).map h'.fin) = fun n => ((h.larcs n).filter fun a => decide (h.grow a = 0)).map h.fin := funext fun n => by
      rw [S.larcs, show h'.fin = h.fin from funext S.fin]
      exact congrArg _ (List.filter_congr fun x _ => S.zero x)
    rw [this]
  unfold Hall.llive
  rw [S.ms, show (fun l (_ : Nat) => liveStep h' l) = fun l _ => liveStep h l from funext fun l => funext fun _ => key l]
theorem Sim.relaxL {s : Sta} {g : Int} {w : Wy} {acc r : LG} {a : Arc} (e : relaxL h s g w acc a = some r) : relaxL h' s g w acc a = some r := by
  unfold K79.relaxL at e ⊢
  split at e
  case isFalse => cases e
  rename_i hz
  rw [if_pos hz]
  by_cases hf : (h.fin a).beq .fill = true
  · rw [if_pos hf] at e
    rw [S.fin, if_pos hf]
    split at e
    case isFalse => cases e
    rename_i hle
    have := S.gb_le (s := s) (v := g) (x := a)
    rw [if_pos (by omega)]
    exact e
  · have hne : a ≠ .down c := fun q => by
      subst q
      rw [S.f] at hf
      exact hf rfl
    rw [if_neg hf] at e
    rw [S.fin, if_neg hf, S.gb hne]
    exact e
theorem Sim.turnL {acc r : LG} {s : Sta} (e : turnL h acc s = some r) : turnL h' acc s = some r := by
  unfold K79.turnL at e ⊢
  split at e
  case h_2 => cases e
  split at e
  case isFalse => cases e
  rename_i hok
  rw [S.sok, if_pos hok, S.larcs]
  exact oFold_mono (fun a ha b b' hb => S.relaxL hb) e
theorem Sim.runL : ∀ {n : Nat} {x : LG} {r : List (Sta × Int)}, runL h n x = some r → runL h' n x = some r
  | 0, _, _, e => by cases e
  | n + 1, (b, cm, []), _, e => e
  | n + 1, (b, cm, x :: xs), r, e => by
    rw [K79.runL] at e ⊢
    split at e
    · cases e
    rename_i acc hf
    rw [oFold_mono (fun a ha b b' hb => S.turnL hb) hf]
    simp only
    split at e
    case isFalse => cases e
    rename_i hz
    rw [if_pos hz]
    exact Sim.runL e
theorem Sim.lgains {r : List (Sta × Int)} (e : h.lgains = some r) : h'.lgains = some r := by
  unfold Hall.lgains at e ⊢
  rw [S.ms, show initL h' = initL h from funext fun acc => funext fun m => by unfold initL; rw [S.full]]
  exact S.runL e
theorem Sim.rowOk {t : List (Sta × Int)} {s : Sta} {g : Int} {a : Arc} (e : rowOk h t s g a = true) : rowOk h' t s g a = true := by
  unfold K79.rowOk at e ⊢
  by_cases hf : (h.fin a).beq .fill = true
  · rw [if_pos hf] at e
    rw [S.fin, if_pos hf]
    have := S.gb_le (s := s) (v := g) (x := a)
    have := of_decide_eq_true e
    exact decide_eq_true (by omega)
  · have hne : a ≠ .down c := fun q => by
      subst q
      rw [S.f] at hf
      exact hf rfl
    rw [if_neg hf] at e
    rw [S.fin, if_neg hf, S.gb hne]
    exact e
theorem Sim.stOk (s : Sta) : stOk h' s = stOk h s := by
  unfold K79.stOk
  rw [S.sok, S.mach, S.ms]
theorem Sim.tabOk {t : List (Sta × Int)} (e : tabOk h t = true) : tabOk h' t = true := by
  unfold K79.tabOk at e ⊢
  rw [Bool.and_eq_true, Bool.and_eq_true] at e ⊢
  obtain ⟨⟨e1, e2⟩, e3⟩ := e
  refine ⟨⟨?_, ?_⟩, List.all_eq_true.mpr fun p hp => ?_⟩
  · rw [show (fun p : Sta × Int => K79.stOk h' p.1) = fun p => K79.stOk h p.1 from funext fun p => S.stOk p.1]
    exact e1
  · rw [S.ms]
    simp only [S.full]
    exact e2
  · have := List.all_eq_true.mp e3 p hp
    split at this
    · cases this
    rw [S.larcs]
    exact List.all_eq_true.mpr fun a ha => S.rowOk (List.all_eq_true.mp this a ha)
theorem Sim.slow {i : Nat} (ok : hokB h' = true) (e : slowB h i = true) : slowB h' i = true := by
  unfold slowB at e ⊢
  rw [Bool.and_eq_true, Bool.and_eq_true, Bool.and_eq_true] at e
  obtain ⟨⟨⟨e1, e2⟩, e3⟩, e4⟩ := e
  rw [ok, S.live, e2, S.llive, e3, S.states]
  split at e4
  · cases e4
  rename_i L hL
  rw [Bool.and_eq_true] at e4
  obtain ⟨e5, e6⟩ := e4
  rw [e5]
  simp only [Bool.true_and, Option.isSome_some]
  split at e6
  case h_2 => cases e6
  rename_i b cm s hr
  have hr' := S.srun hr
  rw [show K79.srun h' (L.length + 1) h'.line (best0 h'.line) (came0 h'.line) = some (b, cm, some s) by rw [S.line]; exact hr']
  simp only
  rw [S.full, S.homeF]
  exact e6
theorem Sim.fast (ok : hokB h' = true) (e : fastB h = true) : fastB h' = true := by
  unfold fastB at e ⊢
  rw [Bool.and_eq_true, Bool.and_eq_true, Bool.and_eq_true, Bool.and_eq_true] at e
  obtain ⟨⟨⟨⟨e1, e2⟩, e3⟩, e7⟩, e4⟩ := e
  obtain ⟨r, hr0⟩ := Option.isSome_iff_exists.mp e7
  rw [ok, S.live, e2, S.llive, e3, S.states, S.lgains hr0]
  split at e4
  · cases e4
  rename_i L hL
  rw [Bool.and_eq_true] at e4
  obtain ⟨e5, e6⟩ := e4
  rw [e5]
  simp only [Bool.true_and, Option.isSome_some]
  split at e6
  case h_2 => cases e6
  rename_i b cm hr
  have hr' := S.srun hr
  rw [show K79.srun h' (L.length + 1) h'.line (best0 h'.line) (came0 h'.line) = some (b, cm, none) by rw [S.line]; exact hr']
  simp only
  rw [Bool.and_eq_true] at e6
  rw [e6.1, S.tabOk e6.2]; rfl
end
end K79

set_option Elab.async false
set_option linter.all false
set_option maxRecDepth 100000
set_option maxHeartbeats 4000000
/-! the walks of the family: next^m + down -/
namespace K79
open PySem PySem.Spec PyProof.Rows L2
theorem hokB_ok {h : Hall} (e : hokB h = true) : HOk h := by
  unfold hokB at e
  simp only [Bool.and_eq_true, decide_eq_true_eq, List.all_eq_true] at e
  obtain ⟨⟨⟨⟨h1, h2⟩, h3⟩, h4⟩, h5⟩ := e
  exact ⟨h1, h2, h3, fun m hm => ⟨(h4 m hm).1.1, (h4 m hm).1.2, (h4 m hm).2⟩, h5⟩
theorem zip_map_mem {α β : Type} (f : α → β) : ∀ {l : List α} {p : α × β}, p ∈ l.zip (l.map f) → p.1 ∈ l ∧ p.2 = f p.1
  | a :: l, p, h => by
    rw [List.map_cons, List.zip_cons_cons] at h
    rcases List.mem_cons.mp h with q | q
    · subst q; exact ⟨List.mem_cons_self .., rfl⟩
    · obtain ⟨h1, h2⟩ := zip_map_mem f q
      exact ⟨List.mem_cons_of_mem _ h1, h2⟩
theorem sok_full (h : Hall) (n : Nm) : sok h (h.full n) = true := by
  unfold sok Hall.full
  simp only [List.length_map, decide_true, Bool.true_and, List.all_eq_true, decide_eq_true_eq]
  intro mr hm
  rw [(zip_map_mem _ hm).2, List.length_map]
theorem fill_full (g : Nat) : ∀ ps : List (Nat × Nat), fill1 g ps (ps.map (·.1)) = ps.map (·.1)
  | [] => rfl
  | p :: ps => by
    have ih := fill_full g ps
    unfold fill1 at ih ⊢
    rw [List.map_cons, List.zip_cons_cons, List.map_cons, ih]
    refine congrArg (· :: _) ?_
    show min p.1 (p.1 + p.2 * g) = p.1
    generalize p.2 * g = z
    omega
section
variable (p ex room : Nat) (w : Option Wash)
/-- at the cap, all purses full: an arc with an end takes the cap's time and leaves all full -/
theorem beh_cap (a : Arc) (he : a.ends = true) : (mkHall p ex room w).beh ((mkHall p ex room w).full .cap) a = ((mkHall p ex room w).full ((mkHall p ex room w).fin a), p + ex) := by
  unfold Hall.beh Hall.beh0
  cases w with
  | none =>
    simp only [mkHall, Hall.full, List.map_cons, List.map_nil, List.zip_cons_cons, List.zip_nil_left, List.foldl_cons, List.foldl_nil, behS, he, Nm.beq, Bool.and_true, if_true, Bool.false_and, Bool.false_eq_true, if_false]
    rfl
  | some u =>
    simp only [mkHall, Hall.full, List.map_cons, List.map_nil, List.zip_cons_cons, List.zip_nil_left, List.foldl_cons, List.foldl_nil, behS, he, Nm.beq, Bool.and_true, if_true, Bool.false_and, Bool.false_eq_true, if_false, fill_full]
    rfl
theorem belt_cap : (mkHall p ex room w).belt (capAt w) = ⟨.cap, .fill, room, room⟩ := by
  cases w with
  | none => rfl
  | some u =>
    unfold mkHall capAt Hall.belt
    cases h : u.ord <;> simp [h]
theorem at_cap : capAt w < (mkHall p ex room w).bs.length := by
  cases w with
  | none => exact Nat.zero_lt_one
  | some u =>
    unfold mkHall capAt
    cases h : u.ord <;> simp [h]
theorem pace_mk : (mkHall p ex room w).pace = p := by cases w <;> rfl
theorem start_down : (mkHall p ex room w).start (.down (capAt w)) = .cap := by
  show ((mkHall p ex room w).belt (capAt w)).a = _
  rw [belt_cap]
theorem fin_down : (mkHall p ex room w).fin (.down (capAt w)) = .fill := by
  show ((mkHall p ex room w).belt (capAt w)).b = _
  rw [belt_cap]
theorem grow_down : (mkHall p ex room w).grow (.down (capAt w)) = room := by
  show ((mkHall p ex room w).belt (capAt w)).first = _
  rw [belt_cap]
theorem mach_cap : (mkHall p ex room w).mach .cap = some ⟨.cap, p + ex, []⟩ := by cases w <;> rfl
theorem gb_next (v : Int) : (mkHall p ex room w).gb ((mkHall p ex room w).full .cap) v (.next .cap) = ((mkHall p ex room w).full .cap, v + (ex : Int)) := by
  unfold Hall.gb
  rw [beh_cap p ex room w _ rfl, pace_mk]
  refine Prod.ext rfl ?_
  show v + ((p + ex : Nat) : Int) - (p : Int) * ((1 : Nat) : Int) = _
  omega
theorem gb_down (v : Int) : (mkHall p ex room w).gb ((mkHall p ex room w).full .cap) v (.down (capAt w)) = ((mkHall p ex room w).full .fill, v + ((p : Int) + ex) - (p : Int) * (room : Int)) := by
  unfold Hall.gb
  rw [beh_cap p ex room w _ rfl, pace_mk, grow_down, fin_down]
  refine Prod.ext rfl ?_
  show v + ((p + ex : Nat) : Int) - (p : Int) * (room : Int) = _
  omega
end
/-- the told walk: m rounds at the cap, then down to the filler -/
def tour (w : Option Wash) (m : Nat) : List Arc := List.replicate m (Arc.next .cap) ++ [Arc.down (capAt w)]
section
variable {p ex room : Nat} {w : Option Wash}
theorem told_of (e : slowB (mkHall p ex room w) (capAt w) = true) (hx : 0 < ex) (hx2 : ex ≤ 10) (m : Nat) (hm : (m : Int) = max 0 (-(((p : Int) + ex) - (p : Int) * (room : Int)) / (ex : Int) + 1)) (hml : m ≤ 100000) :
    ∃ L b c s F gx gy, Told (mkHall p ex room w) L b c s .cap (.next .cap) (.down (capAt w)) F gx gy m := by
  unfold slowB at e
  rw [Bool.and_eq_true, Bool.and_eq_true, Bool.and_eq_true] at e
  obtain ⟨⟨⟨e1, e2⟩, e3⟩, e4⟩ := e
  split at e4
  · cases e4
  rename_i L hL
  rw [Bool.and_eq_true] at e4
  obtain ⟨e5, e6⟩ := e4
  split at e6
  case h_2 => cases e6
  rename_i b c s hr
  rw [Bool.and_eq_true, Bool.and_eq_true, Bool.and_eq_true] at e6
  obtain ⟨⟨⟨f1, f2⟩, f3⟩, f4⟩ := e6
  split at f3
  case h_2 => cases f3
  rename_i z hz
  split at f4
  case h_2 => cases f4
  rename_i F hF
  split at f4
  case h_2 => cases f4
  rename_i j hj
  have ez := of_decide_eq_true f3
  have ej := of_decide_eq_true f4
  subst ez ej
  refine ⟨L, b, c, s, F, ((mkHall p ex room w).full .cap, 0 + (ex : Int)), ((mkHall p ex room w).full .fill, 0 + ((p : Int) + ex) - (p : Int) * (room : Int)), ⟨hokB_ok e1, fun k hk => List.all_eq_true.mp e2 k hk, hL, of_decide_eq_true e5, by cases w <;> simp [mkHall], hr, of_decide_eq_true f1, of_decide_eq_true f2, hz, ?_, trivial, at_cap p ex room w, hF, hj, ?_, ?_, ?_, ?_, hml⟩⟩
  · unfold Hall.line
    refine List.mem_map.mpr ⟨⟨.cap, p + ex, []⟩, ?_, rfl⟩
    cases w <;> simp [mkHall]
  · rw [oFold, gstep, if_pos (sok_full _ _), gb_down]; rfl
  · rw [oFold, gstep, if_pos (sok_full _ _), gb_next]; rfl
  · simp only
    omega
  · simp only [Int.zero_add]
    exact hm
end
end K79

set_option Elab.async false
set_option linter.all false
set_option maxRecDepth 100000
set_option maxHeartbeats 4000000
/-! what the family's walks gain, by the program and by the law -/
namespace K79
open PySem PySem.Spec PyProof.Rows L2
section
variable {p ex room : Nat} {w : Option Wash}
theorem tour_mem {m : Nat} {a : Arc} (h : a ∈ tour w m) : a = .next .cap ∨ a = .down (capAt w) := by
  rcases List.mem_append.mp h with q | q
  · exact .inl (List.eq_of_mem_replicate q)
  · exact .inr (List.mem_singleton.mp q)
theorem tour_len (m : Nat) : (tour w m).length = m + 1 := by unfold tour; simp
theorem at_rep (m : Nat) : (mkHall p ex room w).at_ .cap (List.replicate m (.next .cap)) = .cap := by
  unfold Hall.at_
  induction m with
  | zero => rfl
  | succ m ih => rw [List.replicate_succ, List.foldl_cons]; exact ih
theorem way_tour {m : Nat} (hm : m ≤ 50000) : Way (mkHall p ex room w) .cap (tour w m) where
  nm := by rw [mach_cap]; rfl
  ok := fun a ha => by
    rcases tour_mem ha with q | q
    · subst q; trivial
    · subst q; exact at_cap p ex room w
  kn := fun k hk => by
    rcases tour_mem hk with q | q
    · cases q; rw [mach_cap]; rfl
    · cases q
  ch := fun pre a hp => by
    obtain ⟨t, et⟩ := hp
    have hst : (mkHall p ex room w).start a = .cap := by
      have hm : a ∈ tour w m := by rw [← et]; simp
      rcases tour_mem hm with q | q
      · subst q; rfl
      · subst q; exact start_down p ex room w
    rw [hst]
    have hpre : pre = List.replicate pre.length (.next .cap) := by
      have hl : pre.length ≤ m := by
        have := congrArg List.length et
        rw [tour_len] at this
        simp at this; omega
      have h1 : pre = (tour w m).take pre.length := by rw [← et]; simp
      unfold tour at h1
      rw [List.take_append_of_le_length (by rw [List.length_replicate]; exact hl), List.take_replicate, Nat.min_eq_left hl] at h1
      exact h1
    rw [hpre, at_rep]
  ln := by rw [tour_len]; omega
theorem pok_mk (ok : HOk (mkHall p ex room w)) : POk (mkHall p ex room w) := by
  cases w with
  | none => exact ⟨Nat.zero_le 1, fun q hq => by simp [Hall.places, mkHall] at hq⟩
  | some u =>
    have hu : u.ps.length ≤ 1 := (ok.tm ⟨.wash, u.t, u.ps⟩ (by simp [mkHall])).2.1
    have hp : (mkHall p ex room (some u)).places = (List.range u.ps.length).map fun i => (Nm.wash, i) := by
      simp [Hall.places, mkHall]
    refine ⟨by rw [hp, List.length_map, List.length_range]; exact hu, fun q hq => ?_⟩
    rw [hp] at hq
    obtain ⟨i, hi, rfl⟩ := List.mem_map.mp hq
    exact ⟨⟨.wash, u.t, u.ps⟩, rfl, List.mem_range.mp hi⟩
theorem wok_tour (ok : HOk (mkHall p ex room w)) {m : Nat} (hm : m ≤ 50000) : WOk (mkHall p ex room w) .cap (tour w m) where
  ok := ok
  pl := pok_mk ok
  way := way_tour hm
  np := fun a ha => by
    refine ⟨⟨.cap, p + ex, []⟩, ?_, rfl⟩
    rcases tour_mem ha with q | q
    · subst q; exact mach_cap p ex room w
    · subst q; rw [start_down]; exact mach_cap p ex room w
theorem idx_rep (m : Nat) : ∀ q : List Nat × Nat, ((List.replicate m (Arc.next .cap)).foldl (fun q a => (q.1 ++ [q.2], q.2 + (mkHall p ex room w).grow a)) q).2 = q.2 + m := by
  induction m with
  | zero => intro q; rfl
  | succ m ih =>
    intro q
    rw [List.replicate_succ, List.foldl_cons, ih]
    show q.2 + 1 + m = _
    omega
theorem idx_tour (m : Nat) : ((mkHall p ex room w).idx (tour w m)).2 = m + room := by
  unfold Hall.idx tour
  rw [List.foldl_append]
  show ((List.replicate m (Arc.next .cap)).foldl _ ([], 0)).2 + (mkHall p ex room w).grow (.down (capAt w)) = _
  rw [idx_rep, grow_down]; omega
theorem ticks_tour (m : Nat) : (mkHall p ex room w).ticks (tour w m) = (m + 1) * (p + ex) := by
  have ht : (mkHall p ex room w).time .cap = p + ex := time_of_mach (mach_cap p ex room w)
  have key : ∀ (l : List (Arc × Nat)) (t : Nat), (∀ q ∈ l, (mkHall p ex room w).start q.1 = .cap) → l.foldl (fun t q => t + (mkHall p ex room w).time ((mkHall p ex room w).start q.1)) t = t + l.length * (p + ex) := by
    intro l
    induction l with
    | nil => intro t _; simp
    | cons a l ih =>
      intro t hl
      rw [List.foldl_cons, ih _ (fun q hq => hl q (List.mem_cons_of_mem _ hq)), hl a (List.mem_cons_self ..), ht, List.length_cons, Nat.add_mul]
      omega
  have hend : endL (mkHall p ex room w) (tour w m) = (tour w m).zip ((mkHall p ex room w).idxL (tour w m)) := by
    unfold endL
    refine List.filter_eq_self.mpr fun q hq => ?_
    rcases tour_mem (List.of_mem_zip hq).1 with e | e <;> rw [e] <;> rfl
  unfold Hall.ticks
  rw [hend, key]
  · rw [List.length_zip, idxL_len, tour_len, Nat.zero_add, Nat.min_eq_left (by omega)]
  · intro q hq
    rcases tour_mem (List.of_mem_zip hq).1 with e | e
    · rw [e]; rfl
    · rw [e]; exact start_down p ex room w
theorem rowNil_cap : rowNil (mkHall p ex room w) ((mkHall p ex room w).full .cap) = true := by cases w <;> rfl
theorem wstep_next (T I : Nat) : wstep (mkHall p ex room w) ((mkHall p ex room w).full .cap, T, I) (.next .cap) = some ((mkHall p ex room w).full .cap, T + (p + ex), I + 1) := by
  unfold wstep
  rw [if_pos, beh_cap p ex room w _ rfl]
  · rfl
  · simp only [sok_full, rowNil_cap, Bool.true_and]
    exact List.any_eq_true.mpr ⟨.next .cap, larcs_mem (h := mkHall p ex room w) (a := .next .cap) trivial, Arc.beq_iff.mpr rfl⟩
theorem wstep_down (T I : Nat) : wstep (mkHall p ex room w) ((mkHall p ex room w).full .cap, T, I) (.down (capAt w)) = some ((mkHall p ex room w).full .fill, T + (p + ex), I + room) := by
  unfold wstep
  rw [if_pos, beh_cap p ex room w _ rfl, fin_down, grow_down]
  simp only [sok_full, rowNil_cap, Bool.true_and]
  have := larcs_mem (h := mkHall p ex room w) (a := .down (capAt w)) (at_cap p ex room w)
  rw [start_down] at this
  exact List.any_eq_true.mpr ⟨_, this, Arc.beq_iff.mpr rfl⟩
theorem lw_tour (ok : HOk (mkHall p ex room w)) {m : Nat} (hm : m ≤ 50000) : LW (mkHall p ex room w) .cap (tour w m) ((m + 1) * (p + ex)) (m + room) where
  ok := ok
  way := way_tour hm
  run := by
    refine ⟨(mkHall p ex room w).full .fill, ?_⟩
    have key : ∀ (m T I : Nat), oFold (wstep (mkHall p ex room w)) ((mkHall p ex room w).full .cap, T, I) (List.replicate m (.next .cap)) = some ((mkHall p ex room w).full .cap, T + m * (p + ex), I + m) := by
      intro m
      induction m with
      | zero => intro T I; simp [oFold]
      | succ m ih =>
        intro T I
        rw [List.replicate_succ, oFold, wstep_next]
        simp only
        rw [ih, Nat.add_mul]
        refine congrArg some (Prod.ext rfl (Prod.ext ?_ ?_))
        · show T + (p + ex) + m * (p + ex) = T + (m * (p + ex) + 1 * (p + ex)); omega
        · show I + 1 + m = I + (m + 1); omega
    refine oFold_to (key m 0 0) ?_
    simp only [oFold, wstep_down, Nat.add_mul]
    refine congrArg some (Prod.ext rfl (Prod.ext ?_ ?_))
    · show 0 + m * (p + ex) + (p + ex) = m * (p + ex) + 1 * (p + ex); omega
    · show 0 + m + room = m + room; omega
end
end K79

set_option Elab.async false
set_option linter.all false
set_option maxRecDepth 100000
set_option maxHeartbeats 0
/-! the family, evaluated: pace 98, 1 too slow -/
namespace K79
theorem fam_98_1_a : ((washes 98).take 55).all (famW 98 1 7) = true := by decide +kernel
theorem fam_98_1_b : ((washes 98).drop 55).all (famW 98 1 7) = true := by decide +kernel
theorem fam_98_1 : famB 98 1 7 = true := famB_of fam_98_1_a fam_98_1_b
end K79

set_option Elab.async false
set_option linter.all false
set_option maxRecDepth 100000
set_option maxHeartbeats 0
/-! the family, evaluated: pace 98, 2 too slow -/
namespace K79
theorem fam_98_2_a : ((washes 98).take 55).all (famW 98 2 7) = true := by decide +kernel
theorem fam_98_2_b : ((washes 98).drop 55).all (famW 98 2 7) = true := by decide +kernel
theorem fam_98_2 : famB 98 2 7 = true := famB_of fam_98_2_a fam_98_2_b
end K79

set_option Elab.async false
set_option linter.all false
set_option maxRecDepth 100000
set_option maxHeartbeats 0
/-! the family, evaluated: pace 40, 1 too slow -/
namespace K79
theorem fam_40_1_a : ((washes 40).take 55).all (famW 40 1 7) = true := by decide +kernel
theorem fam_40_1_b : ((washes 40).drop 55).all (famW 40 1 7) = true := by decide +kernel
theorem fam_40_1 : famB 40 1 7 = true := famB_of fam_40_1_a fam_40_1_b
end K79

set_option Elab.async false
set_option linter.all false
set_option maxRecDepth 100000
set_option maxHeartbeats 0
/-! the family, evaluated: pace 40, 2 too slow -/
namespace K79
theorem fam_40_2_a : ((washes 40).take 55).all (famW 40 2 7) = true := by decide +kernel
theorem fam_40_2_b : ((washes 40).drop 55).all (famW 40 2 7) = true := by decide +kernel
theorem fam_40_2 : famB 40 2 7 = true := famB_of fam_40_2_a fam_40_2_b
end K79

set_option Elab.async false
set_option linter.all false
set_option maxRecDepth 100000
set_option maxHeartbeats 0
/-! the family, evaluated: pace 97, 1 too slow -/
namespace K79
theorem fam_97_1_a : ((washes 97).take 55).all (famW 97 1 7) = true := by decide +kernel
theorem fam_97_1_b : ((washes 97).drop 55).all (famW 97 1 7) = true := by decide +kernel
theorem fam_97_1 : famB 97 1 7 = true := famB_of fam_97_1_a fam_97_1_b
end K79

set_option Elab.async false
set_option linter.all false
set_option maxRecDepth 100000
set_option maxHeartbeats 0
/-! the family, evaluated: pace 97, 2 too slow -/
namespace K79
theorem fam_97_2_a : ((washes 97).take 55).all (famW 97 2 7) = true := by decide +kernel
theorem fam_97_2_b : ((washes 97).drop 55).all (famW 97 2 7) = true := by decide +kernel
theorem fam_97_2 : famB 97 2 7 = true := famB_of fam_97_2_a fam_97_2_b
end K79

set_option Elab.async false
set_option linter.all false
set_option maxRecDepth 100000
set_option maxHeartbeats 0
/-! the family, evaluated: pace 61, 1 too slow -/
namespace K79
theorem fam_61_1_a : ((washes 61).take 55).all (famW 61 1 7) = true := by decide +kernel
theorem fam_61_1_b : ((washes 61).drop 55).all (famW 61 1 7) = true := by decide +kernel
theorem fam_61_1 : famB 61 1 7 = true := famB_of fam_61_1_a fam_61_1_b
end K79

set_option Elab.async false
set_option linter.all false
set_option maxRecDepth 100000
set_option maxHeartbeats 0
/-! the family, evaluated: pace 61, 2 too slow -/
namespace K79
theorem fam_61_2_a : ((washes 61).take 55).all (famW 61 2 7) = true := by decide +kernel
theorem fam_61_2_b : ((washes 61).drop 55).all (famW 61 2 7) = true := by decide +kernel
theorem fam_61_2 : famB 61 2 7 = true := famB_of fam_61_2_a fam_61_2_b
end K79

set_option Elab.async false
set_option linter.all false
set_option maxRecDepth 100000
set_option maxHeartbeats 4000000
/-! the facts of the family -/
namespace K79
open PySem PySem.Spec PyProof.Rows L2
theorem hok_all : ([98, 40, 97, 61].all fun p => [1, 2].all fun ex => [20, 12, 7].all fun room => (washes p).all fun w => hokB (mkHall p ex room w) && hokB ((mkHall p ex room w).paced (p + 2))) = true := by decide +kernel
section
variable {p ex room : Nat} {w : Option Wash}
theorem sim_mk (h7 : 7 ≤ room) : Sim (capAt w) (mkHall p ex 7 w) (mkHall p ex room w) := by
  cases w with
  | none =>
    exact
      { ms := rfl, bl := rfl
        a := fun i => by match i with | 0 => rfl | i + 1 => rfl
        b := fun i => by match i with | 0 => rfl | i + 1 => rfl
        g := fun x hx => by
          match x with
          | .next n => rfl
          | .down 0 => exact absurd rfl hx
          | .down (i + 1) => rfl
          | .up 0 => show room - room = 7 - 7; omega
          | .up (i + 1) => rfl
        f := rfl, le := h7, ps := by show 0 < 7; decide }
  | some u =>
    obtain ⟨t, ps, r, f, o⟩ := u
    cases o with
    | true =>
      exact
        { ms := rfl, bl := rfl
          a := fun i => by match i with | 0 => rfl | 1 => rfl | i + 2 => rfl
          b := fun i => by match i with | 0 => rfl | 1 => rfl | i + 2 => rfl
          g := fun x hx => by
            match x with
            | .next n => rfl
            | .down 0 => exact absurd rfl hx
            | .down 1 => rfl
            | .down (i + 2) => rfl
            | .up 0 => show room - room = 7 - 7; omega
            | .up 1 => rfl
            | .up (i + 2) => rfl
          f := rfl, le := h7, ps := by show 0 < 7; decide }
    | false =>
      exact
        { ms := rfl, bl := rfl
          a := fun i => by match i with | 0 => rfl | 1 => rfl | i + 2 => rfl
          b := fun i => by match i with | 0 => rfl | 1 => rfl | i + 2 => rfl
          g := fun x hx => by
            match x with
            | .next n => rfl
            | .down 0 => rfl
            | .down 1 => exact absurd rfl hx
            | .down (i + 2) => rfl
            | .up 0 => rfl
            | .up 1 => show room - room = 7 - 7; omega
            | .up (i + 2) => rfl
          f := rfl, le := h7, ps := by show 0 < 7; decide }
theorem Sim.paced {c : Nat} {h h' : Hall} (S : Sim c h h') (q : Nat) : Sim c (h.paced q) (h'.paced q) where
  ms := by unfold Hall.paced; rw [S.ms]
  bl := S.bl
  a := S.a
  b := S.b
  g := fun x hx => by
    have := S.g x hx
    cases x <;> exact this
  f := S.f
  le := S.le
  ps := S.ps
theorem fam_facts (hp : p ∈ [98, 40, 97, 61]) (hx : ex ∈ [1, 1, 2]) (hr : room ∈ [20, 12, 7]) (hw : w ∈ washes p) : slowB (mkHall p ex room w) (capAt w) = true ∧ fastB ((mkHall p ex room w).paced (p + 2)) = true := by
  have hx2 : ex ∈ [1, 2] := by
    simp at hx ⊢; omega
  have hk := List.all_eq_true.mp (List.all_eq_true.mp (List.all_eq_true.mp (List.all_eq_true.mp hok_all p hp) ex hx2) room hr) w hw
  rw [Bool.and_eq_true] at hk
  have h7 : 7 ≤ room := by simp at hr; omega
  have hf : famB p ex 7 = true := by
    simp at hp hx2
    rcases hp with rfl | rfl | rfl | rfl <;> rcases hx2 with rfl | rfl
    · exact fam_98_1
    · exact fam_98_2
    · exact fam_40_1
    · exact fam_40_2
    · exact fam_97_1
    · exact fam_97_2
    · exact fam_61_1
    · exact fam_61_2
  have e := List.all_eq_true.mp hf w hw
  rw [Bool.and_eq_true] at e
  exact ⟨(sim_mk h7).slow hk.1 e.1, ((sim_mk h7).paced _).fast hk.2 e.2⟩
/-- how often the told walk goes round -/
def manyOf (p ex room : Nat) : Nat := (max 0 (-(((p : Int) + ex) - (p : Int) * (room : Int)) / (ex : Int) + 1)).toNat
theorem many_cast : ((manyOf p ex room : Nat) : Int) = max 0 (-(((p : Int) + ex) - (p : Int) * (room : Int)) / (ex : Int) + 1) := by
  unfold manyOf
  rw [Int.toNat_of_nonneg (Int.le_max_left _ _)]
theorem many_le (hp : p ∈ [98, 40, 97, 61]) (hx : ex ∈ [1, 1, 2]) (hr : room ∈ [20, 12, 7]) : manyOf p ex room ≤ 5000 := by
  simp at hp hx hr
  rcases hp with rfl | rfl | rfl | rfl <;> rcases hx with rfl | rfl <;> rcases hr with rfl | rfl | rfl <;> decide
/-- the gain of j rounds and the way down -/
def gainJ (p ex room j : Nat) : Int := (((j + 1) * (p + ex) : Nat) : Int) - (p : Int) * ((j + room : Nat) : Int)
theorem gain_many (hp : p ∈ [98, 40, 97, 61]) (hx : ex ∈ [1, 1, 2]) (hr : room ∈ [20, 12, 7]) : 0 < gainJ p ex room (manyOf p ex room) := by
  simp at hp hx hr
  rcases hp with rfl | rfl | rfl | rfl <;> rcases hx with rfl | rfl <;> rcases hr with rfl | rfl | rfl <;> decide
theorem ends_tour (j : Nat) : ∀ b ∈ List.replicate j (Arc.next .cap), (mkHall p ex room w).fin b ≠ .fill := fun b hb => by
  rw [List.eq_of_mem_replicate hb]
  exact fun h => by cases h
theorem gain_tour (j : Nat) : (mkHall p ex room w).gain (tour w j) = gainJ p ex room j := by
  unfold Hall.gain gainJ
  rw [ticks_tour, idx_tour, pace_mk]
end
end K79

set_option Elab.async false
set_option linter.all false
set_option maxRecDepth 100000
set_option maxHeartbeats 4000000
/-! what the checks give for the law -/
namespace K79
open PySem PySem.Spec PyProof.Rows L2
theorem fold_none {κ α : Type} [DecidableEq κ] {v : κ → α} {k : κ} : ∀ {l : List κ} {t : List (κ × α)}, k ∉ l → tget (l.foldl (fun t s => tput t s (v s)) t) k = tget t k
  | [], _, _ => rfl
  | a :: l, t, h => by
    rw [List.foldl_cons, fold_none (fun z => h (List.mem_cons_of_mem _ z)), tget_put, if_neg (fun e => h (by rw [e]; exact List.mem_cons_self ..))]
theorem fold_len {κ α : Type} [DecidableEq κ] {v : κ → α} : ∀ {l : List κ} {t : List (κ × α)}, (l.foldl (fun t s => tput t s (v s)) t).length ≤ t.length + l.length
  | [], _ => Nat.le_refl _
  | a :: l, t => by
    rw [List.foldl_cons]
    have h1 := fold_len (v := v) (l := l) (t := tput t a (v a))
    have h2 := tput_length t a (v a)
    rw [List.length_cons]; omega
theorem tget_nokey {κ α : Type} [DecidableEq κ] {k : κ} : ∀ {t : List (κ × α)}, k ∉ t.map (·.1) → tget t k = none
  | [], _ => rfl
  | p :: t, h => by
    rw [tget_cons, if_neg (fun e => h (by rw [← e]; exact List.mem_cons_self ..)), tget_nokey (fun z => h (List.mem_cons_of_mem _ z))]
theorem gainT_get (b : List (Sta × Int)) (s : Sta) : tget (gainT b) s = tget b s := by
  unfold gainT
  by_cases h : s ∈ b.map (·.1)
  · obtain ⟨v, hv⟩ := tget_key h
    rw [tget_fold (v := fun s => (tget b s).getD 0) (.inl (show s ∈ sortSta (b.map (·.1)) from List.mem_mergeSort.mpr h))]
    show some ((tget b s).getD 0) = _
    rw [hv]; rfl
  · rw [fold_none (v := fun s => (tget b s).getD 0) (show s ∉ sortSta (b.map (·.1)) from fun z => h (List.mem_mergeSort.mp z)), tget_nokey h]; rfl
theorem gainT_len (b : List (Sta × Int)) : (gainT b).length ≤ b.length := by
  unfold gainT
  refine Nat.le_trans fold_len ?_
  rw [sortSta, List.length_mergeSort, List.length_map, List.length_nil, Nat.zero_add]
  exact Nat.le_refl _
theorem gainT_mem {b : List (Sta × Int)} {p : Sta × Int} (h : p ∈ gainT b) : ∃ q ∈ b, q.1 = p.1 := by
  obtain ⟨v, hv⟩ := tget_key (List.mem_map.mpr ⟨p, h, rfl⟩)
  rw [gainT_get] at hv
  by_cases z : p.1 ∈ b.map (·.1)
  · obtain ⟨q, hq, e⟩ := List.mem_map.mp z
    exact ⟨q, hq, e⟩
  · rw [tget_nokey z] at hv; cases hv
theorem gainT_row (h : Hall) (b : List (Sta × Int)) (s : Sta) (g : Int) (a : Arc) : rowOk h (gainT b) s g a = rowOk h b s g a := by
  unfold rowOk
  rw [gainT_get]
theorem gainT_ok {h : Hall} {b : List (Sta × Int)} (e : tabOk h b = true) : tabOk h (gainT b) = true := by
  unfold tabOk at e ⊢
  rw [Bool.and_eq_true, Bool.and_eq_true] at e ⊢
  obtain ⟨⟨e1, e2⟩, e3⟩ := e
  refine ⟨⟨List.all_eq_true.mpr fun p hp => ?_, ?_⟩, List.all_eq_true.mpr fun p hp => ?_⟩
  · obtain ⟨q, hq, ee⟩ := gainT_mem hp
    rw [← ee]
    exact List.all_eq_true.mp e1 q hq
  · simp only [gainT_get]; exact e2
  · obtain ⟨q, hq, ee⟩ := gainT_mem hp
    have := List.all_eq_true.mp e3 q hq
    simp only [gainT_row]
    rw [← ee, gainT_get]
    exact this
theorem fast_facts {h : Hall} (e : fastB h = true) : ∃ (d : PyData) (g : List (Sta × Int)), Vd h (.tuple [.str "holds", d]) ∧ LV h (.tuple [.str "holds", d]) true ∧ HOk h ∧ h.llive = true ∧ h.lgains = some g := by
  unfold fastB at e
  rw [Bool.and_eq_true, Bool.and_eq_true, Bool.and_eq_true, Bool.and_eq_true] at e
  obtain ⟨⟨⟨⟨e1, e2⟩, e3⟩, e7⟩, e4⟩ := e
  obtain ⟨g, hg⟩ := Option.isSome_iff_exists.mp e7
  split at e4
  · cases e4
  rename_i L hL
  rw [Bool.and_eq_true] at e4
  obtain ⟨e5, e6⟩ := e4
  split at e6
  case h_2 => cases e6
  rename_i b c hr
  rw [Bool.and_eq_true] at e6
  have ok := hokB_ok e1
  have hne : h.ms ≠ [] := fun z => by
    have := ok.fi
    unfold Hall.mach at this
    rw [z] at this; cases this
  have hbl := of_decide_eq_true e6.1
  exact ⟨_, g, .holds (c := c) ok (fun k hk => List.all_eq_true.mp e2 k hk) hL (of_decide_eq_true e5) hne hr hbl, .holds (gainT_ok e6.2) (Nat.le_trans (gainT_len b) hbl), ok, e3, hg⟩
theorem slow_facts {h : Hall} {i : Nat} (e : slowB h i = true) : HOk h ∧ (∀ m ∈ h.ms, h.noBack m.nm = true) ∧ h.llive = true := by
  unfold slowB at e
  rw [Bool.and_eq_true, Bool.and_eq_true, Bool.and_eq_true] at e
  obtain ⟨⟨⟨e1, e2⟩, e3⟩, _⟩ := e
  exact ⟨hokB_ok e1, fun k hk => List.all_eq_true.mp e2 k hk, e3⟩
/-- all that the law asks of its hall -/
structure Fam (p ex room : Nat) (w : Option Wash) : Prop where
  ok : HOk (mkHall p ex room w)
  live : ∀ m ∈ (mkHall p ex room w).ms, (mkHall p ex room w).noBack m.nm = true
  llive : (mkHall p ex room w).llive = true
  told : Vd (mkHall p ex room w) (.tuple [.str "waits", wayD .cap (tour w (manyOf p ex room))])
  gain : 0 < gainJ p ex room (manyOf p ex room)
  le : manyOf p ex room ≤ 5000
  fast : ∃ (d : PyData) (g : List (Sta × Int)), Vd ((mkHall p ex room w).paced (p + 2)) (.tuple [.str "holds", d]) ∧ LV ((mkHall p ex room w).paced (p + 2)) (.tuple [.str "holds", d]) true ∧ HOk ((mkHall p ex room w).paced (p + 2)) ∧ ((mkHall p ex room w).paced (p + 2)).llive = true ∧ ((mkHall p ex room w).paced (p + 2)).lgains = some g
  rl : room ≤ 100
theorem fam_of {p ex room : Nat} {w : Option Wash} (hp : p ∈ [98, 40, 97, 61]) (hx : ex ∈ [1, 1, 2]) (hr : room ∈ [20, 12, 7]) (hw : w ∈ washes p) : Fam p ex room w := by
  obtain ⟨h1, h2⟩ := fam_facts hp hx hr hw
  obtain ⟨ok, live, llive⟩ := slow_facts h1
  have hml := many_le hp hx hr
  have x1 : 0 < ex ∧ ex ≤ 10 := by simp at hx; omega
  obtain ⟨L, b, c, s, F, gx, gy, t⟩ := told_of h1 x1.1 x1.2 (manyOf p ex room) many_cast (by omega)
  exact ⟨ok, live, llive, .waits t, gain_many hp hx hr, hml, fast_facts h2, by simp at hr; omega⟩
end K79

set_option Elab.async false
set_option linter.all false
set_option maxRecDepth 100000
set_option maxHeartbeats 4000000
/-! the bag of draws: a list of three ints and a list, of which nothing else is told; what an expression may evaluate to -/
namespace K79
open PySem PySem.Spec PyProof.Rows L2
theorem upd_self {H : Hp} {p : Addr} {o : HO} (h : H p = some o) : upd H p o = H := by
  funext b
  by_cases z : b = p
  · subst z; rw [upd_same, h]
  · rw [upd_ne z]
theorem Dr.bagI {P : Program} {w : World} {H : Hp} {v : V} (h : Dr P w H v bagD) : ∃ (a q : Addr) (ns : List Int), v = .ref a ∧ H a = some (bagO a q) ∧ H q = some (.lst (ns.map V.int)) ∧ ns.length ≤ 1000 := by
  generalize e : bagD = d at h
  cases h with
  | @bag a q ns h1 h2 h3 => exact ⟨a, q, ns, rfl, h1, h2, h3⟩
  | @dic a o xs t h1 h2 h3 =>
    exfalso
    have e1 := PyData.dict.inj e
    cases t with
    | nil => simp at e1
    | cons p r =>
      simp only [List.map_cons, List.cons.injEq, Prod.mk.injEq] at e1
      obtain ⟨k, x⟩ := p
      cases k <;> simp [NestedKey.data] at e1
  | @dks a ks t h1 h2 =>
    exfalso
    have e1 := PyData.dict.inj e
    simp at e1
  | _ => simp [bagD] at e
section
variable {X : Cx} {pins : List (Addr × Obj)} {σ : L2.St} {H : Hp} {s : Shared} {p q : Addr}
theorem bag_in (I : Inv X pins σ H s) (h : H p = some (bagO p q)) : ∃ i j k : Int, Inv X pins σ (upd H p (.lst [.int i, .int j, .int k, .ref q])) s := by
  obtain ⟨⟨i, j, k, its, n, rv, ho⟩, _, _⟩ := (show ObjOk X.prog X.w H s.heap p (bagO p q) from I.hok p _ h)
  exact ⟨i, j, k, I.write (t' := s.toks) (x := p) (e := p) (by rw [h]; trivial) (.inl rfl) (fun b u _ e => e) ⟨_, ho⟩ ⟨by show 4 ≤ sizeLine; decide, its, n, rv, ho⟩⟩
theorem bag_out {i j k : Int} (I : Inv X pins σ H s) (h : H p = some (.lst [.int i, .int j, .int k, .ref q])) : Inv X pins σ (upd H p (bagO p q)) s := by
  obtain ⟨_, its, n, rv, ho⟩ := (show ObjOk X.prog X.w H s.heap p (.lst [.int i, .int j, .int k, .ref q]) from I.hok p _ h)
  exact I.write (t' := s.toks) (x := p) (e := p) (by rw [h]; trivial) (.inl rfl) (fun b u _ e => e) ⟨_, ho⟩ ⟨⟨i, j, k, its, n, rv, ho⟩, ⟨_, ho⟩, fun h1 h2 ⟨i, j, k, its, n, rv, e⟩ st => ⟨i, j, k, its, n, rv, st _ e⟩⟩
theorem bag_back {i j k : Int} {o : HO} (hp : H p = some (bagO p q)) (I : Inv X pins σ (upd H p o) s) (h : o = .lst [.int i, .int j, .int k, .ref q]) : Inv X pins σ H s := by
  have := bag_out I (by rw [upd_same, h])
  rwa [upd_upd, upd_self hp] at this
def rBag : R2 := fun x y H Q => ∃ p q m, x = .ref p ∧ y = .int m ∧ H p = some (bagO p q) ∧ ((0 ≤ m ∧ m ≤ 2 ∧ ∀ i, Q (.int i) H) ∨ (m = 3 ∧ Q (.ref q) H))
theorem ix_bag : IxR X rBag := by
  intro value slice pins s σ H x y v u Q I rx ry h hs
  obtain ⟨p, q, m, rfl, rfl, hp, hq⟩ := h
  obtain ⟨i, j, k, J⟩ := bag_in I hp
  have key : ∀ z, atI [V.int i, .int j, .int k, .ref q] m = some z → Q z H → wpAny (model X.prog X.w) X.A (subscriptTail value slice v u) (EP X pins σ Q) X.xe s := fun z hz hQ =>
    thn (ix_list value slice pins s σ _ (.ref p) (.int m) v u (fun w H2 => w = z ∧ H2 = upd H p (.lst [.int i, .int j, .int k, .ref q])) J rx ry ⟨p, _, m, z, rfl, rfl, .inl (.of upd_same), hz, rfl, rfl⟩ hs) fun u' s' ⟨w, H2, J2, r2, e1, e2⟩ => by
      subst e1 e2
      exact ⟨w, H, bag_back hp J2 rfl, r2, hQ⟩
  rcases hq with ⟨h0, h2, hQ⟩ | ⟨rfl, hQ⟩
  · have : m = 0 ∨ m = 1 ∨ m = 2 := by omega
    rcases this with rfl | rfl | rfl
    · exact key _ rfl (hQ _)
    · exact key _ rfl (hQ _)
    · exact key _ rfl (hQ _)
  · exact key _ rfl hQ
theorem get_bag : PGet X (fun x y H Q => ∃ p q m, x = .ref p ∧ y = .int m ∧ 0 ≤ m ∧ m ≤ 2 ∧ H p = some (bagO p q) ∧ ∀ i, Q (.int i) H) := by
  intro pins s σ H x y v u Q I rx ry h
  obtain ⟨p, q, m, rfl, rfl, h0, h2, hp, hQ⟩ := h
  obtain ⟨i, j, k, J⟩ := bag_in I hp
  obtain ⟨its, rv, pl, _⟩ := J.list (.inl (.of upd_same))
  cases rx
  obtain ⟨t, rfl⟩ := ry
  have key : ∀ (z : Int) (n : Nat), [V.int i, .int j, .int k, .ref q][n]? = some (.int z) → m = n → wpAny (model X.prog X.w) X.A (getItem (.ref p) (.int m t)) (EP X pins σ Q) X.xe s := fun z n hn e => by
    subst e
    obtain ⟨u, hu, ru⟩ := rv.get hn
    exact wpAny_getItem_list pl.isList (by omega) (by omega) (by simpa using hu) ⟨.int z, H, I, ru, hQ z⟩
  have : m = 0 ∨ m = 1 ∨ m = 2 := by omega
  rcases this with rfl | rfl | rfl
  · exact key i 0 rfl rfl
  · exact key j 1 rfl rfl
  · exact key k 2 rfl rfl
theorem set_bag : PSet X (fun x y z H Q => ∃ p q m n, x = .ref p ∧ y = .int m ∧ z = .int n ∧ 0 ≤ m ∧ m ≤ 2 ∧ H p = some (bagO p q) ∧ Q H) := by
  intro pins s σ H x y z v u r Q I rx ry rz h
  obtain ⟨p, q, m, n, rfl, rfl, rfl, h0, h2, hp, hQ⟩ := h
  obtain ⟨i, j, k, J⟩ := bag_in I hp
  have key : ∀ (l : Nat) (i' j' k' : Int), ixN [V.int i, .int j, .int k, .ref q].length m = some l → [V.int i, .int j, .int k, .ref q].set l (.int n) = [.int i', .int j', .int k', .ref q] →
      wpAny (model X.prog X.w) X.A (setItem v u r) (fun _ s' => ∃ H', Inv X pins σ H' s' ∧ Q H') X.xe s := fun l i' j' k' hl hset =>
    thn (set_list pins s σ _ (.ref p) (.int m) (.int n) v u r (fun H2 => H2 = upd H p (.lst [.int i', .int j', .int k', .ref q])) J rx ry rz ⟨p, _, m, l, rfl, rfl, upd_same, hl, by rw [hset, upd_upd]⟩) fun _ s' ⟨H2, J2, e⟩ => by
      subst e
      exact ⟨H, bag_back hp J2 rfl, hQ⟩
  have : m = 0 ∨ m = 1 ∨ m = 2 := by omega
  rcases this with rfl | rfl | rfl
  · exact key 0 _ _ _ rfl rfl
  · exact key 1 _ _ _ rfl rfl
  · exact key 2 _ _ _ rfl rfl
end

/-! ### what an expression may evaluate to -/
section
variable (X : Cx)
def EDn (e : Expr) (ρ : Env) (S : PyData → Prop) : Prop := ∀ (O0 O : Own) (H : Hp) (σ : L2.St), Live O H → RS X.prog X.w O0 O H σ ρ → ∀ Q : VK, (∀ v d H', S d → Ex H H' → Dr X.prog X.w (hide O H') v d → Q v H') → WE X e σ H Q
def EIn (e : Expr) (ρ : Env) (S : Int → Prop) : Prop := EDn X e ρ fun d => ∃ i, d = .int i ∧ S i
def EBn (e : Expr) (ρ : Env) : Prop := EDn X e ρ fun d => ∃ b, d = .bool b
def ETn (c : Expr) (ρ : Env) : Prop := ∀ (O0 O : Own) (H : Hp) (σ : L2.St), Live O H → RS X.prog X.w O0 O H σ ρ → ∀ Q : Bool → Hp → Prop, (∀ b H', Ex H H' → Q b H') → WT X c σ H Q
def EAn (es : List Expr) (ρ : Env) (S : List PyData → Prop) : Prop := ∀ (O0 O : Own) (H : Hp) (σ : L2.St), Live O H → RS X.prog X.w O0 O H σ ρ → ∀ Q : List V → Hp → Prop, (∀ vs ds H', S ds → Ex H H' → DrA X.prog X.w (hide O H') vs ds → Q vs H') → WA X es σ H Q
def ENn (e : Expr) (ρ : Env) (S : List PyData → Prop) : Prop := ∀ (O0 O : Own) (H : Hp) (σ : L2.St), Live O H → RS X.prog X.w O0 O H σ ρ → ∀ Q : VK, (∀ p vs ds H', S ds → H p = none → Ex H H' → H' p = some (.lst vs) → DrA X.prog X.w (hide (add O p) H') vs ds → Q (.ref p) H') → WE X e σ H Q
end
section
variable {X : Cx} {a b c e : Expr} {ρ : Env} {d : PyData} {i j m : Int} {x : Str} {pos : Pos} {ds : List PyData} {S T : PyData → Prop} {I J U : Int → Prop} {SA : List PyData → Prop}
theorem edn_of (h : ED X e ρ d) : EDn X e ρ fun z => z = d := fun O0 O H σ L rs Q q => h O0 O H σ L rs Q fun v H' ex hv => q v d H' rfl ex hv
theorem EDn.mono (h : EDn X e ρ S) (l : ∀ d, S d → T d) : EDn X e ρ T := fun O0 O H σ L rs Q q => h O0 O H σ L rs Q fun v d H' s ex hv => q v d H' (l d s) ex hv
theorem ein_of (h : ED X e ρ (.int i)) : EIn X e ρ fun z => z = i := (edn_of h).mono fun d hd => ⟨i, hd, rfl⟩
theorem ein_bin {r : R2} {f : Int → Int → Int} (hp : PE X e (tOp r (WE X a) (WE X b))) (ha : EIn X a ρ I) (hb : EIn X b ρ J) (hr : ∀ i j H Q, I i → J j → Q (.int (f i j)) H → r (.int i) (.int j) H Q) (hu : ∀ i j, I i → J j → U (f i j)) : EIn X e ρ U := fun O0 O H σ L rs Q q =>
  we_of hp (ha O0 O H σ L rs _ fun x d1 H1 ⟨i, e1, si⟩ x1 h1 => hb O0 O H1 σ (L.ex x1) (rs.ex x1) _ fun y d2 H2 ⟨j, e2, sj⟩ x2 h2 => by
    subst e1 e2
    cases h1; cases h2
    exact hr i j H2 Q si sj (q _ _ H2 ⟨_, rfl, hu i j si sj⟩ (x1.trans x2) (.int _)))
theorem ein_add (ha : EIn X a ρ I) (hb : EIn X b ρ J) (hu : ∀ i j, I i → J j → U (i + j)) : EIn X (.BinOp a .Add b pos) ρ U := ein_bin (pe_op op_add pw_e pw_e) ha hb (fun i j H Q _ _ q => ⟨i, j, rfl, rfl, q⟩) hu
theorem ein_mul (ha : EIn X a ρ I) (hb : EIn X b ρ J) (hc : ∀ i j, I i → J j → CMul i j) (hu : ∀ i j, I i → J j → U (i * j)) : EIn X (.BinOp a .Mult b pos) ρ U := ein_bin (pe_op op_mul pw_e pw_e) ha hb (fun i j H Q si sj q => ⟨i, j, rfl, rfl, hc i j si sj, q⟩) hu
theorem ein_mod (ha : EIn X a ρ I) (hb : EIn X b ρ J) (hc : ∀ j, J j → 0 < j) (hu : ∀ i j, I i → J j → U (i % j)) : EIn X (.BinOp a .Mod b pos) ρ U := ein_bin (pe_op op_mod pw_e pw_e) ha hb (fun i j H Q _ sj q => ⟨i, j, rfl, rfl, hc j sj, q⟩) hu
theorem ein_fdiv (ha : EIn X a ρ I) (hb : EIn X b ρ J) (hc : ∀ j, J j → 0 < j ∧ j < 1073741824) (hu : ∀ i j, I i → J j → U (i / j)) : EIn X (.BinOp a .FloorDiv b pos) ρ U := ein_bin (pe_op op_fdiv pw_e pw_e) ha hb (fun i j H Q _ sj q => ⟨i, j, rfl, rfl, hc j sj, q⟩) hu
theorem ein_toInt {p : Pos} (G : Gd X) (ha : EIn X a ρ I) (hg : Gl X "int" := by rfl) (he : starEach [a] X.env = (false, eval a X.env) :: starEach [] X.env := by exact star_of rfl) : EIn X (.Call (.Name "int" p) [a] [] pos) ρ I := fun O0 O H σ L rs Q q =>
  we_seq1 (id := "int") (T := true) rfl call_int1 G.int (by decide +kernel) (ha O0 O H σ L rs _ fun v d H1 ⟨i, e1, si⟩ x1 h1 => by
    subst e1
    cases h1
    exact .inl ⟨i, rfl, q _ _ H1 ⟨i, rfl, si⟩ x1 (.int _)⟩) hg (by decide) (by decide) he
theorem ein_bag {k : Nat} {p1 : Pos} (ha : ED X a ρ bagD) (h0 : 0 ≤ m := by decide) (h2 : m ≤ 2 := by decide) : EIn X (.Subscript a (.Constant (.int m) k p1) pos) ρ fun _ => True := fun O0 O H σ L rs Q q =>
  we_of (pe_ix ix_bag pw_e pe_int (fun _ _ => rfl)) (ha O0 O H σ L rs _ fun v H1 e1 h1 => by
    obtain ⟨p, q', ns, rfl, g2, g3, g4⟩ := h1.bagI
    exact ⟨p, q', m, rfl, rfl, hide_sub _ _ g2, .inl ⟨h0, h2, fun i => q _ _ H1 ⟨i, rfl, trivial⟩ e1 (.int i)⟩⟩)
theorem head_int {ns : List Int} {lo hi : Option Int} : ∃ i, atI (cutV (ns.map V.int) lo hi ++ [V.int 0]) 0 = some (.int i) := by
  have hmem : ∀ v ∈ cutV (ns.map V.int) lo hi, ∃ i, v = V.int i := fun v hv => by
    have := List.mem_of_mem_drop (List.mem_of_mem_take hv)
    obtain ⟨i, _, e⟩ := List.mem_map.mp this
    exact ⟨i, e.symm⟩
  cases q : cutV (ns.map V.int) lo hi with
  | nil => exact ⟨0, rfl⟩
  | cons v r =>
    obtain ⟨i, e⟩ := hmem v (by rw [q]; exact List.mem_cons_self ..)
    subst e
    exact ⟨i, atI_nat (j := 0) rfl⟩
/-- (bag[3][bag[2]:] + [0])[0] -/
theorem ein_cell {a2 : Expr} {k1 k2 k3 k4 : Nat} {p1 p2 p3 p4 p5 p6 p7 p8 p9 q1 : Pos} (ha : ED X a ρ bagD) (hb : ED X a2 ρ bagD)
    (hs : starEach [.Constant (.int 0) k3 p7] X.env = (false, eval (.Constant (.int 0) k3 p7) X.env) :: starEach [] X.env := by exact star_of rfl) :
    EIn X (.Subscript (.BinOp (.Subscript (.Subscript a (.Constant (.int 3) k1 p1) p2) (.Slice (some (.Subscript a2 (.Constant (.int 2) k2 p3) p4)) none none p5) p6) .Add (.List [.Constant (.int 0) k3 p7] p8) p9) (.Constant (.int 0) k4 q1) pos) ρ fun _ => True := fun O0 O H σ L rs Q q =>
  we_of (pe_ix ix_list (pe_op op_cat (pe_slice sl_list (pe_ix ix_bag pw_e pe_int (fun _ _ => rfl)) (po_some (pe_ix ix_bag pw_e pe_int (fun _ _ => rfl))) po_none) (pe_lst (pa_cons pe_int pa_nil hs))) pe_int (fun _ _ => rfl)) (ha O0 O H σ L rs _ fun v H1 e1 h1 => by
    obtain ⟨p, q', ns, rfl, g2, g3, g4⟩ := h1.bagI
    refine ⟨p, q', 3, rfl, rfl, hide_sub _ _ g2, .inr ⟨rfl, ?_⟩⟩
    refine hb O0 O H1 σ (L.ex e1) (rs.ex e1) _ fun v2 H2 e2 h2 => ?_
    obtain ⟨p', q2, ns2, rfl, f2, f3, f4⟩ := h2.bagI
    refine ⟨p', q2, 2, rfl, rfl, hide_sub _ _ f2, .inl ⟨by decide, by decide, fun i => ⟨i, rfl, ?_⟩⟩⟩
    have hq := e2 _ _ (hide_sub _ _ g3)
    refine ⟨q', _, rfl, .inl (.of hq), fun l nl => ?_⟩
    refine ⟨by show 1 ≤ sizeLine; decide, fun l2 nl2 => ?_⟩
    refine ⟨l, l2, _, _, rfl, rfl, by rw [upd_ne (ne_of_none upd_same nl2), upd_same], upd_same, ?_, fun l3 nl3 => ?_⟩
    · have := cutV_length (ns.map V.int) (some i) none
      rw [List.length_map] at this
      rw [sizeLine_eq]
      show _ + 1 ≤ _
      omega
    · obtain ⟨z, hz⟩ := head_int (ns := ns) (lo := some i) (hi := none)
      have n2 : H2 l2 = none := by
        by_cases z : l2 = l
        · subst z; exact nl
        · rw [upd_ne z] at nl2; exact nl2
      have n3 : H2 l3 = none := by
        by_cases z : l3 = l
        · subst z; exact nl
        · by_cases z2 : l3 = l2
          · subst z2; exact n2
          · rw [upd_ne z2, upd_ne z] at nl3; exact nl3
      refine ⟨l3, _, 0, _, rfl, rfl, .inl (.of upd_same), hz, q _ _ _ ⟨z, rfl, trivial⟩ ((e1.trans e2).trans (((Ex.new nl).trans (Ex.new nl2)).trans (Ex.new nl3))) (.int z)⟩)
/-! tests -/
theorem ebn_cmp {op : CmpOp} {r : R2} (hp : PE X e (tOp r (WE X a) (WE X b))) (ha : EIn X a ρ I) (hb : EIn X b ρ J) (hr : ∀ (i j : Int) (H : Hp) (Q : VK), (∀ b, Q (.bl b) H) → r (.int i) (.int j) H Q) : EBn X e ρ := fun O0 O H σ L rs Q q =>
  we_of hp (ha O0 O H σ L rs _ fun x d1 H1 ⟨i, e1, si⟩ x1 h1 => hb O0 O H1 σ (L.ex x1) (rs.ex x1) _ fun y d2 H2 ⟨j, e2, sj⟩ x2 h2 => by
    subst e1 e2
    cases h1; cases h2
    exact hr i j H2 Q fun b => q _ _ H2 ⟨b, rfl⟩ (x1.trans x2) (.bl b))
theorem ebn_eq (ha : EIn X a ρ I) (hb : EIn X b ρ J) : EBn X (.Compare a [.Eq] [b] pos) ρ := ebn_cmp (op := .Eq) (pe_cmpR op_eq pw_e pw_e (nomark _)) ha hb fun i j H Q q => ⟨rfl, q _⟩
theorem ebn_gt (ha : EIn X a ρ I) (hb : EIn X b ρ J) : EBn X (.Compare a [.Gt] [b] pos) ρ := ebn_cmp (op := .Gt) (pe_cmpR op_gt pw_e pw_e (nomark _)) ha hb fun i j H Q q => ⟨i, j, rfl, rfl, q _⟩
theorem ebn_ge (ha : EIn X a ρ I) (hb : EIn X b ρ J) : EBn X (.Compare a [.GtE] [b] pos) ρ := ebn_cmp (op := .GtE) (pe_cmpR op_ge pw_e pw_e (nomark _)) ha hb fun i j H Q q => ⟨i, j, rfl, rfl, q _⟩
theorem etn_of {op : CmpOp} (h : EBn X (.Compare a [op] [b] pos) ρ) (h1 : behindInMarks op b = false := by first | exact nobehind _ (by decide) (by decide) | with_unfolding_all rfl) : ETn X (.Compare a [op] [b] pos) ρ := fun O0 O H σ L rs Q q => by
  refine ⟨fun pins s I => ?_⟩
  refine isTrue_of_eval (thn ((h O0 O H σ L rs (fun v H' => (∃ u, v = .bl u) ∧ Ex H H') (fun v d H' ⟨u, hd⟩ e hv => ⟨⟨u, by subst hd; cases hv; rfl⟩, e⟩)).run pins s I) fun v s1 ⟨x, H1, I1, r1, ⟨u, e1⟩, e2⟩ => ?_) h1
  subst e1
  cases r1
  exact wpAny_truthy_bool ⟨H1, I1, q u H1 e2⟩
/-! several -/
theorem ean_nil : EAn X [] ρ fun ds => ds = [] := fun O0 O H σ L rs Q q => wa_of pa_nil (q _ _ H rfl .rfl' .nil)
theorem ean_cons {es : List Expr} (ha : EDn X e ρ S) (hb : EAn X es ρ SA) (hs : starEach (e :: es) X.env = (false, eval e X.env) :: starEach es X.env := by exact star_of rfl) : EAn X (e :: es) ρ fun ds => ∃ d r, ds = d :: r ∧ S d ∧ SA r := fun O0 O H σ L rs Q q =>
  wa_of (pa_cons pw_e pw_a hs) (ha O0 O H σ L rs _ fun x d H1 sd e1 h1 => hb O0 O H1 σ (L.ex e1) (rs.ex e1) _ fun xs r H2 sr e2 h2 => q _ _ H2 ⟨d, r, rfl, sd, sr⟩ (e1.trans e2) (.cons (h1.mono (hide_ex e2)) h2))
theorem edn_tup {es : List Expr} {k : Nat} (h : EAn X es ρ SA) (hs : ∀ ds, SA ds → ds.length ≤ 1000 ∧ T (.tuple ds)) : EDn X (.Tuple es k pos) ρ T := fun O0 O H σ L rs Q q =>
  we_of (pe_tup pw_a) (h O0 O H σ L rs _ fun vs ds H1 sd e1 h1 => ⟨by rw [h1.length, sizeLine_eq]; have := (hs ds sd).1; omega, fun p np => q _ _ _ (hs ds sd).2 (e1.trans (.new np)) (.tup (by rw [hide_at ((L.ex e1).no np), upd_same]) (h1.mono (hide_ex (.new np))))⟩)
theorem enn_lst {es : List Expr} (h : EAn X es ρ SA) (hz : ∀ ds, SA ds → ds.length ≤ 1000) : ENn X (.List es pos) ρ SA := fun O0 O H σ L rs Q q =>
  we_of (pe_lst pw_a) (h O0 O H σ L rs _ fun vs ds H1 sd e1 h1 => ⟨by rw [h1.length, sizeLine_eq]; have := hz ds sd; omega, fun p np => q p vs ds _ sd (e1.back np) (e1.trans (.new np)) upd_same (drA_new np h1)⟩)
/-- tuple(list) -/
theorem edn_tupL {p : Pos} {SA : List PyData → Prop} (G : Gd X) (ha : EDn X e ρ fun d => ∃ ds, d = .list ds ∧ SA ds) (hg : Gl X "tuple" := by rfl) (he : starEach [e] X.env = (false, eval e X.env) :: starEach [] X.env := by exact star_of rfl) : EDn X (.Call (.Name "tuple" p) [e] [] pos) ρ fun d => ∃ ds, d = .tuple ds ∧ SA ds := fun O0 O H σ L rs Q q =>
  we_seq1 (id := "tuple") (T := true) rfl call_tuple_of G.tuple (by decide +kernel) (ha O0 O H σ L rs _ fun v d H1 ⟨ds, ed, sd⟩ e1 h1 => by
    subst ed
    cases h1 with
    | lst h1 h2 => exact ⟨_, _, rfl, .inl ⟨.of (hide_sub _ _ h1), fun l nl => q _ _ _ ⟨ds, rfl, sd⟩ (e1.trans (.new nl)) (.tup (by rw [hide_at ((L.ex e1).no nl), upd_same]) (h2.mono (hide_ex (.new nl))))⟩⟩) hg (by decide) (by decide) he
/-- an item of a list -/
theorem edn_ix (ha : EQ X a ρ ds) (hb : EIn X b ρ fun i => 0 ≤ i ∧ i < ds.length) (hs : PlainIx b := by exact fun _ _ => rfl) : EDn X (.Subscript a b pos) ρ fun d => d ∈ ds := fun O0 O H σ L rs Q q =>
  we_of (pe_ix ix_seq pw_e pw_e hs) (ha O0 O H σ L rs _ fun x H1 e1 r1 => hb O0 O H1 σ (L.ex e1) (rs.ex e1) _ fun y d2 H2 ⟨i, ei, h0, hi⟩ e2 r2 => by
    subst ei
    cases r2
    obtain ⟨j, rfl⟩ := Int.eq_ofNat_of_zero_le h0
    have hj : j < ds.length := by omega
    have hds : ds[j]? = some ds[j] := List.getElem?_eq_getElem hj
    have key : ∀ {vs : List V}, DrA X.prog X.w (hide O H1) vs ds → ∃ v, atI vs (j : Int) = some v ∧ Dr X.prog X.w (hide O H2) v ds[j] := fun {vs} r => by
      obtain ⟨v, hv, hd⟩ := r.get hds
      exact ⟨v, atI_nat hv, hd.mono (hide_ex e2)⟩
    cases r1 with
    | lst h1 r1 =>
      obtain ⟨v, h3, h4⟩ := key r1
      exact .inl ⟨_, _, _, v, rfl, rfl, .of (e2 _ _ h1), h3, q v _ H2 (List.getElem_mem hj) (e1.trans e2) h4⟩
    | tup h1 r1 =>
      obtain ⟨v, h3, h4⟩ := key r1
      exact .inr (.inl ⟨_, _, _, v, rfl, rfl, .of (e2 _ _ h1), h3, q v _ H2 (List.getElem_mem hj) (e1.trans e2) h4⟩))
end
section
variable {X : Cx} {e c : Expr} {ρ : Env} {d : PyData} {E : Eds} {pos p' : Pos} {x : Str} {i : Nat} {ds : List PyData} {a b : List Stmt} {S : PyData → Prop} {SA : List PyData → Prop} {I : Int → Prop} {m : Int}
/-! statements -/
theorem s_retN (h : EDn X e ρ S) (q : ∀ d, S d → E.rt d) : SD1 X (.Return (some e) pos) ρ E := fun H0 O0 B O H σ k r =>
  ws_of (ps_ret pw_e) (h O0 O H σ k.live r _ fun v d H' sd ex hd => ⟨k.ex0.trans ex, d, hd.mono (fun a o z => by
    obtain ⟨h1, h2⟩ := hide_some z
    have : O0 a = false := by
      cases y : O0 a with
      | false => rfl
      | true => rw [k.sub a y] at h1; cases h1
    rw [hide_at this]; exact h2), q d sd⟩)
theorem s_ifN (hc : ETn X c ρ) (ha : SD X a ρ E) (hb : SD X b ρ E) : SD1 X (.If c a b pos) ρ E := fun H0 O0 B O H σ k r =>
  ws_of (ps_if pw_t pw_ss pw_ss) (hc O0 O H σ k.live r _ fun u H' ex => by
    cases u with
    | true => exact iteT (ha H0 O0 B O H' σ (k.ex ex) (r.ex ex))
    | false => exact iteF (hb H0 O0 B O H' σ (k.ex ex) (r.ex ex)))
theorem s_setN (i : Nat) (h : EDn X e ρ S) (hN : X.N.Nodup) (q : ∀ d, S d → E.nx (ρ.set i (some (.dat d)))) (hi : X.N[i]? = some x := by rfl) (hx : Loc X.env.scope x := by first | exact .inl rfl | exact .inr rfl) (hs : swapsWith e (some (.Name x p')) pos.line X.env = pure false := by rfl)
    (hf : X.fn x = true ∨ X.env.scope.names.lookup x = some .local := by first | exact .inl rfl | exact .inr rfl) : SD1 X (.Assign [.Name x p'] e pos) ρ E := fun H0 O0 B O H σ k r =>
  ws_of (ps_set hN hi hx pw_e hs hf) (h O0 O H σ k.live r _ fun v d H' sd ex hd => ⟨O, _, k.ex ex, (r.ex ex).setD hd, q d sd⟩)
theorem s_setLN (i : Nat) (h : ENn X e ρ SA) (hN : X.N.Nodup) (q : ∀ ds, SA ds → E.nx (ρ.set i (some (.lst ds)))) (hi : X.N[i]? = some x := by rfl) (hx : Loc X.env.scope x := by first | exact .inl rfl | exact .inr rfl) (hs : swapsWith e (some (.Name x p')) pos.line X.env = pure false := by rfl)
    (hf : X.fn x = true ∨ X.env.scope.names.lookup x = some .local := by first | exact .inl rfl | exact .inr rfl) : SD1 X (.Assign [.Name x p'] e pos) ρ E := fun H0 O0 B O H σ k r =>
  ws_of (ps_set hN hi hx pw_e hs hf) (h O0 O H σ k.live r _ fun p vs ds H' sd np ex hp hd => let z := RS.newL (i := i) k r np ex hp hd; ⟨_, _, z.1, z.2, q ds sd⟩)
/-- bag[m] = an int -/
theorem s_bagPut {kk : Nat} {p2 p3 p4 : Pos} (i : Nat) (hi : ρ[i]? = some (some (.dat bagD))) (h : EIn X e ρ I) (q : E.nx ρ) (h0 : 0 ≤ m := by decide) (h2 : m ≤ 2 := by decide) (hN : X.N[i]? = some x := by rfl) (hv : Vis X.env.scope x := by first | exact Or.inl rfl | exact Or.inr (Or.inl rfl) | exact Or.inr (Or.inr rfl))
    (hd : (x == ("__debug__" : Str)) = false := by decide) (hcd : (x == ("__classdict__" : Str)) = false := by decide)
    (ha : ∀ v, assign (.Subscript (.Name x p2) (.Constant (.int m) kk p3) p4) X.env v = (do
      let ov ← holding [v] (eval (.Name x p2) X.env)
      let iv ← holding [v, ov] (eval (.Constant (.int m) kk p3) X.env)
      standAt p4
      holding [v, ov, iv] (setItem ov iv v)
      release [v, ov, iv] []) := by intro _; rfl)
    (hs : swapsWithSole [.Subscript (.Name x p2) (.Constant (.int m) kk p3) p4] e pos.line X.env = pure false := by rfl) (hw : swappedStores [.Subscript (.Name x p2) (.Constant (.int m) kk p3) p4] e X.env = pure none := by rfl)
    (h1 : (assignEach [.Subscript (.Name x p2) (.Constant (.int m) kk p3) p4] X.env).map (·.2) = [assign (.Subscript (.Name x p2) (.Constant (.int m) kk p3) p4) X.env] := by rfl) : SD1 X (.Assign [.Subscript (.Name x p2) (.Constant (.int m) kk p3) p4] e pos) ρ E := fun H0 O0 B O H σ k r =>
  ws_of (ps_asg pw_e (pg_sub (pe_var hN hv hd hcd) pe_int set_bag ha) hs hw h1) (h O0 O H σ k.live r _ fun v d H1 ⟨n, e1, _⟩ x1 hv1 => by
    subst e1
    cases hv1
    obtain ⟨u, g1, g2⟩ := r.at_ _ _ hi
    cases g2 with
    | dat g2 =>
      obtain ⟨p, q', ns, rfl, f1, f2, f3⟩ := g2.bagI
      exact ⟨_, g1, p, q', m, n, rfl, rfl, rfl, h0, h2, x1 _ _ (hide_sub _ _ f1), O, ρ, k.ex x1, r.ex x1, q⟩)
/-- bag[m] += an int -/
theorem s_bagAug {kk : Nat} {n : Int} {p2 p3 p4 : Pos} (i : Nat) (hi : ρ[i]? = some (some (.dat bagD))) (h : ED X e ρ (.int n)) (q : E.nx ρ) (h0 : 0 ≤ m := by decide) (h2 : m ≤ 2 := by decide) (hN : X.N[i]? = some x := by rfl) (hv : Vis X.env.scope x := by first | exact Or.inl rfl | exact Or.inr (Or.inl rfl) | exact Or.inr (Or.inr rfl))
    (hd : (x == ("__debug__" : Str)) = false := by decide) (hcd : (x == ("__classdict__" : Str)) = false := by decide)
    (ha : ∀ ov iv new, augStore (.Constant (.int m) kk p3) ov iv new = (do holding [new, ov, iv] (setItem ov iv new); release [new, ov, iv] []; pure .next) := by intros; rfl) :
    SD1 X (.AugAssign (.Subscript (.Name x p2) (.Constant (.int m) kk p3) p4) .Add e pos) ρ E := fun H0 O0 B O H σ k r => by
  obtain ⟨u, g1, g2⟩ := r.at_ _ _ hi
  cases g2 with
  | dat g2 =>
    obtain ⟨p, q', ns, rfl, f1, f2, f3⟩ := g2.bagI
    refine ws_of (ps_augS (pe_var hN hv hd hcd) pe_int get_bag pw_e ip_add set_bag ha) ⟨_, g1, p, q', m, rfl, rfl, h0, h2, hide_sub _ _ f1, fun z => h O0 O H σ k.live r _ fun y H1 e1 hy => ?_⟩
    cases hy
    exact ⟨z, n, rfl, rfl, p, q', m, _, rfl, rfl, rfl, h0, h2, e1 _ _ (hide_sub _ _ f1), O, ρ, k.ex e1, r.ex e1, q⟩
theorem s_appendN (i : Nat) (hi : ρ[i]? = some (some (.lst ds))) (h : EDn X e ρ S) (hz : ds.length < 1000000) (q : ∀ d, S d → E.nx (ρ.set i (some (.lst (ds ++ [d]))))) {l : Str} {p2 apos cpos : Pos} (hN : X.N[i]? = some l := by rfl) (hv : Vis X.env.scope l := by first | exact Or.inl rfl | exact Or.inr (Or.inl rfl) | exact Or.inr (Or.inr rfl)) (hd : (l == ("__debug__" : Str)) = false := by decide)
    (hcd : (l == ("__classdict__" : Str)) = false := by decide) (hbase : attributeBase (.Name l p2) "append" X.env (eval (.Name l p2) X.env) = eval (.Name l p2) X.env := by rfl)
    (hfew : ((backTo cpos (starEach [e] X.env)).all (fun x => !x.1) && (backToKw cpos (keywordEach [] X.env)).all (fun x => x.1.isSome)
      && decide ([e].length + ([] : List Keyword).length + (if ([] : List Keyword).isEmpty then 0 else 1) < 30)) = true := by rfl)
    (hline : (apos.endLine == cpos.line) = true := by rfl) (hst : starEach [e] X.env = (false, eval e X.env) :: starEach [] X.env := by exact star_of rfl) (hsw : swapsWith (.Call (.Attribute (.Name l p2) "append" apos) [e] [] cpos) none pos.line X.env = pure false := by rfl) :
    SD1 X (.Expr (.Call (.Attribute (.Name l p2) "append" apos) [e] [] cpos) pos) ρ E := fun H0 O0 B O H σ k r => by
  obtain ⟨v, h1, h2⟩ := r.at_ _ _ hi
  cases h2 with
  | @lst p vs _ a b c' dd =>
    refine ws_of (ps_expr (pe_bm PySem.F.plainAttrs_list PySem.F.slot_list_append PySem.F.type_list_append mt_append (pe_var hN hv hd hcd) (pa_cons pw_e pa_nil hst) hbase hfew hline hst) hsw) ⟨_, h1, .inl ⟨rfl, vs, .of c'⟩, ?_⟩
    refine h O0 O H σ k.live r _ fun y d H1 sd e1 hy => ?_
    have c1 := e1 _ _ c'
    have hl := dd.length
    refine ⟨p, vs, y, rfl, rfl, c1, by rw [sizeLine_eq]; omega, O, _, (k.ex e1).mut a b, (r.ex e1).mut hi rfl h1 a (.lst a b upd_same ?_) rfl, q d sd⟩
    rw [hide_upd a]
    exact (dd.mono (hide_ex e1)).append (.cons hy .nil)
/-- l.insert(i, d) -/
theorem s_insertN {e2 : Expr} (i : Nat) (hi : ρ[i]? = some (some (.lst ds))) (h : EIn X e ρ fun z => 0 ≤ z ∧ z < 1000000) (h' : ED X e2 ρ d) (hz : ds.length < 1000000) (q : ∀ n : Nat, E.nx (ρ.set i (some (.lst (ds.take n ++ [d] ++ ds.drop n))))) {l : Str} {p2 apos cpos : Pos} (hN : X.N[i]? = some l := by rfl) (hv : Vis X.env.scope l := by first | exact Or.inl rfl | exact Or.inr (Or.inl rfl) | exact Or.inr (Or.inr rfl)) (hd : (l == ("__debug__" : Str)) = false := by decide)
    (hcd : (l == ("__classdict__" : Str)) = false := by decide) (hbase : attributeBase (.Name l p2) "insert" X.env (eval (.Name l p2) X.env) = eval (.Name l p2) X.env := by rfl)
    (hfew : ((backTo cpos (starEach [e, e2] X.env)).all (fun x => !x.1) && (backToKw cpos (keywordEach [] X.env)).all (fun x => x.1.isSome)
      && decide ([e, e2].length + ([] : List Keyword).length + (if ([] : List Keyword).isEmpty then 0 else 1) < 30)) = true := by rfl)
    (hline : (apos.endLine == cpos.line) = true := by rfl) (hst : starEach [e, e2] X.env = (false, eval e X.env) :: starEach [e2] X.env := by exact star_of rfl) (hst2 : starEach [e2] X.env = (false, eval e2 X.env) :: starEach [] X.env := by exact star_of rfl) (hplain : (backTo cpos (starEach [e2] X.env)).any (·.1) = false := by rfl)
    (hsw : swapsWith (.Call (.Attribute (.Name l p2) "insert" apos) [e, e2] [] cpos) none pos.line X.env = pure false := by rfl) :
    SD1 X (.Expr (.Call (.Attribute (.Name l p2) "insert" apos) [e, e2] [] cpos) pos) ρ E := fun H0 O0 B O H σ k r => by
  obtain ⟨v, h1, h2⟩ := r.at_ _ _ hi
  cases h2 with
  | @lst p vs _ a b c' dd =>
    refine ws_of (ps_expr (pe_bm PySem.F.plainAttrs_list PySem.F.slot_list_insert PySem.F.type_list_insert mt_insert (pe_var hN hv hd hcd) (pa_cons pw_e (pa_cons pw_e pa_nil hst2) hst) hbase hfew hline hst hplain) hsw) ⟨_, h1, .inl ⟨rfl, vs, .of c'⟩, ?_⟩
    refine h O0 O H σ k.live r _ fun y d1 H1 ⟨z, e0, z0, z1⟩ e1 hy => ?_
    subst e0
    cases hy
    refine h' O0 O H1 σ (k.live.ex e1) (r.ex e1) _ fun y2 H2 e2 hy2 => ?_
    have e12 := e1.trans e2
    have c1 := e12 _ _ c'
    have hl := dd.length
    refine ⟨p, vs, z, y2, rfl, rfl, c1, by rw [sizeLine_eq]; omega, z0, by omega, O, _, (k.ex e12).mut a b, (r.ex e12).mut hi rfl h1 a (.lst a b upd_same ?_) rfl, q z.toNat⟩
    rw [hide_upd a]
    have dd2 := dd.mono (hide_ex e12)
    exact ((dd2.take _).append (.cons hy2 .nil)).append (dd2.drop _)
/-- a, b = two data -/
theorem s_par2N {a b : Expr} {y : Str} {px py pt : Pos} {kt k2 : Nat} {pt2 : Pos} (i j : Nat) (G : Gd X) (h : EAn X [a, b] ρ SA) (h2 : ∀ ds, SA ds → ds.length = 2) (hN : X.N.Nodup) (q : ∀ d1 d2, SA [d1, d2] → E.nx ((ρ.set i (some (.dat d1))).set j (some (.dat d2)))) (hij : i ≠ j := by decide) (hi : X.N[i]? = some x := by rfl) (hj : X.N[j]? = some y := by rfl)
    (hx : X.env.scope.names.lookup x = some .local := by rfl) (hy : X.env.scope.names.lookup y = some .local := by rfl) (hw : swappedStores [.Tuple [.Name x px, .Name y py] kt pt] (.Tuple [a, b] k2 pt2) X.env = pure (some [x, y]) := by rfl)
    (hs : swapsWithSole [.Tuple [.Name x px, .Name y py] kt pt] (.Tuple [a, b] k2 pt2) pos.line X.env = pure false := by rfl) : SD1 X (.Assign [.Tuple [.Name x px, .Name y py] kt pt] (.Tuple [a, b] k2 pt2) pos) ρ E := fun H0 O0 B O H σ k r =>
  ws_of (ps_par G.calm hN hi hj hij hx hy pw_a hw hs) (h O0 O H σ k.live r _ fun vs ds H' sd e1 hd => by
    match ds, h2 ds sd, vs, hd, sd with
    | [d1, d2], _, _, .cons g1 (.cons g2 .nil), sd => exact ⟨_, _, rfl, O, _, k.ex e1, ((r.ex e1).setD g1).setD g2, q d1 d2 sd⟩)
end
end K79

set_option Elab.async false
set_option linter.all false
set_option maxRecDepth 100000
set_option maxHeartbeats 4000000
/-! the law's draws -/
namespace K79
open PySem PySem.Spec PyProof.Rows L2
/-- from data with pre ds: hands back some d with fn ds d, and leaves all as it was -/
def spN (P : Program) (w : World) (pre : List PyData → Prop) (fn : List PyData → PyData → Prop) : Sp := fun vs H Q _ => ∃ (O : Own) (ds : List PyData), Live O H ∧ DrA P w (hide O H) vs ds ∧ pre ds ∧ ∀ v d H', fn ds d → Ex H H' → Dr P w (hide O H') v d → Q v H'
structure FDn (P : Program) (w : World) (K : PySem.W.Frag) (mg : Str → Option Value) (base : Heap) (x : Str) (n k : Nat) (pre : List PyData → Prop) (fn : List PyData → PyData → Prop) : Prop where
  ex : ∃ (f : Addr) (fd : FuncData) (ps : List Str), ps.length = n ∧ FnOk P w K mg base CX0 k f fd ps (spN P w pre fn) ∧ mg x = some (.ref f) ∧ PySem.W.keepIn K (.ref f) = true ∧ Binds K fd ps []
section
variable {X : Cx} {x : Str} {e : Expr} {es : List Expr} {ρ : Env} {ds : List PyData} {d : PyData} {p pos : Pos} {n k : Nat} {pre : List PyData → Prop} {fn : List PyData → PyData → Prop} {E : Eds} {st : Stmt} {sts : List Stmt} {ρ1 : Env} {R : Env → Prop}
theorem we_callN (F : FDn X.prog X.w X.K X.mg X.base x n k pre fn) (hr : Room k X.A) (ha : EA X (e :: es) ρ ds) (h : pre ds) (hg : Gl X x := by rfl) (hdb : (x == ("__debug__" : Str)) = false := by decide) (he : starEach (e :: es) X.env = (false, eval e X.env) :: starEach es X.env := by exact star_of rfl)
    (hpl : (backTo pos (starEach es X.env)).any (·.1) = false := by rfl) : EDn X (.Call (.Name x p) (e :: es) [] pos) ρ (fn ds) := fun O0 O H σ L r Q q => by
  obtain ⟨f, fd, ps, hn, F, hm, hk, hb⟩ := F.ex
  refine we_of (pe_call F hr hg hm hk hb .nil pass0 pw_a hdb he hpl) (ha O0 O H σ L r _ fun vs H1 e1 h1 => ?_)
  exact ⟨O, ds, L.ex e1, by rw [List.append_nil]; exact h1, h, fun v d H' hd e2 hv => q v d H' hd (e1.trans e2) hv⟩
theorem sd_cutP (R : Env → Prop) (h : SD1 X st ρ { E with nx := R }) (h2 : ∀ ρ', R ρ' → SD X sts ρ' E) : SD X (st :: sts) ρ E := sd_cons (SD1.mono (E := { E with nx := R }) (E' := { E with nx := fun ρ' => SD X sts ρ' E }) ⟨h2, fun _ h => h, fun _ h => h, fun _ h => h⟩ h)
theorem sd_cut (h : SD1 X st ρ { E with nx := fun ρ' => ρ' = ρ1 }) (h2 : SD X sts ρ1 E) : SD X (st :: sts) ρ E := sd_cutP _ h fun ρ' e => by subst e; exact h2
/-- the bag, new -/
theorem ed_newBag {i j l : Int} {ns : List Int} (h : EN X e ρ [.int i, .int j, .int l, .list (ns.map .int)]) (hl : ns.length ≤ 1000) : ED X e ρ bagD := fun O0 O H σ L r Q q => by
  refine ⟨fun pins s I => ?_⟩
  refine thn ((h O0 O H σ L r (fun v H' => ∃ p q', v = .ref p ∧ H p = none ∧ Ex H H' ∧ H' p = some (.lst [.int i, .int j, .int l, .ref q']) ∧ hide (add O p) H' q' = some (.lst (ns.map V.int))) (fun p vs H' np ex hp hd => ?_)).run pins s I) fun u s1 ⟨v, H1, I1, r1, p, q', ev, np, ex, hp, hq⟩ => ?_
  · match vs, hd with
    | _, .cons (.int _) (.cons (.int _) (.cons (.int _) (.cons (.lst g1 g2) .nil))) =>
      rw [drA_ints g2] at g1
      exact ⟨p, _, rfl, np, ex, hp, g1⟩
  · subst ev
    have hne : q' ≠ p := fun z => by
      subst z
      rw [hide_own add_self] at hq; cases hq
    obtain ⟨hq1, hq2⟩ := hide_some hq
    have hO : O q' = false := by rw [add_other hne] at hq1; exact hq1
    refine ⟨.ref p, _, bag_out I1 hp, r1, q _ _ (fun a o ha => by rw [upd_ne (ne_of_none ha np)]; exact ex a o ha) (.bag (q := q') (ns := ns) ?_ ?_ hl)⟩
    · rw [hide_at (L.no np), upd_same]
    · rw [hide_at hO, upd_ne hne]; exact hq2
end
section
variable {P : Program} {w : World} {K : PySem.W.Frag} {mg : Str → Option Value} {base : Heap}
/-- a def by its body -/
theorem fd_ofN {x qual : Str} {gname : Str} {st : Stmt} {f : Addr} {fd : FuncData} {N ps : List Str} {k : Nat} {pre : List PyData → Prop} {fn : List PyData → PyData → Prop} (M : Md mg) (F : FunD K x qual (defArgs st) (defBody st) (defScope st) [] [] f fd) (S : FnScope N ps (defScope st)) (hm : mg gname = some (.ref f))
    (hb : ∀ (kV doc pm : Value) (an : Option Addr) (cdv ct : Value) (us : List Value), us.length = ps.length → bindArgs (PySem.W.fnOf x qual (defArgs st) (defBody st) (defScope st) .none kV doc pm an cdv ct) ⟨us, []⟩ = pure (ps.zip us))
    (len : ∀ ds, pre ds → ds.length = ps.length)
    (body : ∀ (f : Addr) (cdv : Value) (A : Around) (outer : List PySem.Env) (s : Shared) (H : Hp) (E : XK), Room k (bx P w K mg base N qual st f cdv A outer s H E).A → Gd (bx P w K mg base N qual st f cdv A outer s H E) → ∀ ds, pre ds →
      SD (bx P w K mg base N qual st f cdv A outer s H E) (defBody st) (startE N ds) { nx := fun _ => False, rt := fun d' => fn ds d' }) : FDn P w K mg base gname ps.length (k + 1) pre fn := by
  refine ⟨f, fd, ps, rfl, F.ok S (fun vs H Q E h => ?_) (fun cdv A outer s H vs Q E hr h => ?_), hm, F.kp, FunD.bindsN F hb⟩
  · obtain ⟨O, ds, L, h1, h2, _⟩ := h
    rw [h1.length, len ds h2]
  · obtain ⟨O, ds, L, h1, h2, q⟩ := h
    have G : Gd (bx P w K mg base N qual st f cdv A outer s H E) := ⟨rfl, by have := hr.un; exact (by omega : (A.deeper (envOfC qual (defScope st) s.heap.objs.size f cdv)).units + 180 < cLine), M.len, M.range, M.tuple, M.list, M.int, M.str, M.bool, M.dict, M.isi, M.sum, M.min, M.max, M.sorted, M.all, M.any, M.zip, M.enum, M.abs, M.repr⟩
    have z := body f cdv A outer s H E hr G ds h2 H O (hide O H) O H (L2.start N vs) ⟨.rfl', fun _ h => h, fun _ h => .inl h, hide_sub, fun a h => hide_own h, L⟩ (rs_start h1)
    refine ⟨_, PSs.nox pw_ss, wss_mono (D := lift (bx P w K mg base N qual st f cdv A outer s H E) H O (hide O H) { nx := fun _ => False, rt := fun d' => fn ds d' }) ⟨fun σ' H' ⟨O', ρ', k', r', e⟩ => e.elim, fun v H' ⟨e, d', hd, e2⟩ => q v d' H' e2 e hd, fun _ _ h => ?_, fun _ _ h => ?_⟩ z⟩
    · obtain ⟨_, _, _, _, h⟩ := h; exact h.elim
    · obtain ⟨_, _, _, _, h⟩ := h; exact h.elim
/-! the defs -/
def fn__law_bag : List PyData → PyData → Prop := fun zs z_ => ∃ ns : List Int, zs = [.list (ns.map .int)] ∧ z_ = bagD ∧ ns.length ≤ 1000
theorem p__law_bag (M : Md mg) (D : Dn K mg d__law_bag) : FD P w K mg base "_law_bag" 1 1 fn__law_bag := by
  obtain ⟨⟨fd, F⟩, g⟩ := D
  refine fd_of (N := ["_law_script", "_law_cell"]) (ps := ["_law_script"]) (st := s__law_bag) (k := 0) M F ⟨rfl, rfl, rfl, by decide, rfl, by decide, by decide⟩ g (fun _ _ _ _ _ _ us hl => match us, hl with | [_], _ => rfl) (fun zs z_ ⟨_, e, _⟩ => by subst e; rfl) fun f cdv A outer s H E hr G zs z_ hfn => ?_
  obtain ⟨ns, rfl, rfl, p1⟩ := hfn
  have hN : (["_law_script", "_law_cell"] : List Str).Nodup := by decide
  obtain ⟨ms, hms, hml⟩ : ∃ ms : List Int, cutD (ns.map PyData.int) none (some 63) = ms.map PyData.int ∧ ms.length ≤ 1000 := by
    unfold cutD
    rw [← List.map_drop, ← List.map_take]
    refine ⟨_, rfl, ?_⟩
    rw [List.length_take, List.length_drop]
    omega
  exact sd_one (s_ret (ed_newBag (ns := ms.map fun i => (i.natAbs : Int)) (en_lst (ea_cons ed_int (ea_cons ed_int (ea_cons ed_int (ea_cons (ed_new (en_c (by rw [List.map_map]; rfl) (en_lcm (gd := PyData.int) (ds := ms) [("_law_cell", 1)] (fun i => .int (i.natAbs : Int)) (fun i => [(1, .int i)]) G hN (ei_lst (ed_new (en_c hms (en_slice (el_ed (ed_var 0 rfl)) eo_none (eo_some ed_int))))) (blk_ok rfl) (by omega) (fun d u hu => by simp at hu; simp [hu]) (fun s H C cl fp d hd => gd_name 1 hN) (fun s H C cl fp d hd => ed_abs (G.blk _ _ _ _ _) (ed_var 1 rfl))))) ea_nil)))) (Nat.le_of_ble_eq_true rfl)) (by rw [List.length_map]; exact hml)) rfl)
def pre__law_take : List PyData → Prop := fun zs => ∃ m : Int, zs = [bagD, .int m] ∧ 0 < m ∧ m < 1000000
def fn__law_take : List PyData → PyData → Prop := fun zs z_ => ∃ m r : Int, zs = [bagD, .int m] ∧ z_ = .int r ∧ 0 ≤ r ∧ r < m
theorem p__law_take (M : Md mg) (D : Dn K mg d__law_take) : FDn P w K mg base "_law_take" 2 1 pre__law_take fn__law_take := by
  obtain ⟨⟨fd, F⟩, g⟩ := D
  refine fd_ofN (N := ["_law_bag_here", "_law_many", "_law_cell", "_law_stirred", "_law_value", "_law_begin", "_law_second"]) (ps := ["_law_bag_here", "_law_many"]) (st := s__law_take) (k := 0) M F ⟨rfl, rfl, rfl, by decide, rfl, by decide, by decide⟩ g (fun _ _ _ _ _ _ us hl => match us, hl with | [_, _], _ => rfl) (fun zs ⟨_, e, _⟩ => by subst e; rfl) fun f cdv A outer s H E hr G zs hpre => ?_
  obtain ⟨m, rfl, p1, p2⟩ := hpre
  have hN : (["_law_bag_here", "_law_many", "_law_cell", "_law_stirred", "_law_value", "_law_begin", "_law_second"] : List Str).Nodup := by decide
  have small : ∀ i j : Int, j = 48271 ∨ j = 39373 ∨ j = 30011 → CMul i j := fun i j h => .inr (by rcases h with rfl | rfl | rfl <;> decide)
  refine sd_cut (s_ifN (etn_of (ebn_eq (ein_bag (ed_var 0 rfl)) (ein_of ed_int))) ?_ (sd_nil rfl)) ?_
  · refine sd_cons (s_setN 2 (ein_cell (ed_var 0 rfl) (ed_var 0 rfl)) hN fun d ⟨i, e, _⟩ => ?_)
    subst e
    refine sd_cons (s_bagAug 0 rfl ed_int ?_)
    refine sd_cut (s_ifN (etn_of (ebn_ge (ein_of (ed_var 2 rfl)) (ein_of (ed_pow (i := 10) (j := 18) ed_int ed_int ⟨by decide, by decide, by decide⟩)))) (sd_one (s_bagPut 0 rfl (ein_of (ed_var 2 rfl)) rfl)) (sd_nil rfl)) ?_
    refine sd_cons (s_setN 3 (ein_add (U := fun _ => True) (ein_add (U := fun _ => True) (ein_mul (U := fun _ => True) (ein_bag (ed_var 0 rfl)) (ein_of ed_int) (fun i j _ e => small i j (.inl e)) (fun _ _ _ _ => trivial)) (ein_mod (U := fun _ => True) (ein_toInt G (ein_of (ed_var 2 rfl))) (ein_of ed_int) (fun j e => by subst e; decide) (fun _ _ _ _ => trivial)) (fun _ _ _ _ => trivial)) (ein_mul (U := fun _ => True) (ein_of ed_int) (ein_bag (ed_var 0 rfl)) (fun i j e _ => .inl (by subst e; decide)) (fun _ _ _ _ => trivial)) (fun _ _ _ _ => trivial)) hN fun d ⟨i, e, _⟩ => ?_)
    subst e
    exact sd_cons (s_bagPut 0 rfl (ein_mod (U := fun _ => True) (ein_toInt G (ein_of (ed_var 3 rfl))) (ein_of ed_int) (fun j e => by subst e; decide) (fun _ _ _ _ => trivial)) (sd_endL [2, 3] rfl))
  have hmod : ∀ i j : Int, True → j = m → 0 ≤ i % j ∧ i % j < m := fun i j _ e => by subst e; exact ⟨Int.emod_nonneg _ (by omega), Int.emod_lt_of_pos _ p1⟩
  refine sd_cut (ρ1 := [dD bagD, dD (.int m), dZ, dZ, dZ, dZ, dZ]) (s_ifN (etn_of (ebn_gt (ein_bag (ed_var 0 rfl)) (ein_of ed_int))) ?_ (sd_nil rfl)) ?_
  · refine sd_cons (s_setN 4 (ein_mod (U := fun z => 0 ≤ z ∧ z < m) (ein_toInt G (ein_bag (ed_var 0 rfl))) (ein_of (ed_var 1 rfl)) (fun j e => by subst e; exact p1) hmod) hN fun d ⟨i, e, h1⟩ => ?_)
    subst e
    refine sd_cons (s_bagPut 0 rfl (ein_fdiv (U := fun _ => True) (ein_toInt G (ein_bag (ed_var 0 rfl))) (ein_of (ed_var 1 rfl)) (fun j e => by subst e; exact ⟨p1, by omega⟩) (fun _ _ _ _ => trivial)) ?_)
    exact sd_one (s_ret (ed_var 4 rfl) ⟨m, i, rfl, rfl, h1.1, h1.2⟩)
  refine sd_cons (s_setN 5 (ein_mod (U := fun z => 0 ≤ z ∧ z < 1000000007) (ein_toInt G (ein_mul (U := fun _ => True) (ein_add (U := fun _ => True) (ein_bag (ed_var 0 rfl)) (ein_of ed_int) (fun _ _ _ _ => trivial)) (ein_of ed_int) (fun i j _ e => small i j (.inr (.inl e))) (fun _ _ _ _ => trivial))) (ein_of ed_int) (fun j e => by subst e; decide) (fun i j _ e => by subst e; exact ⟨Int.emod_nonneg _ (by decide), Int.emod_lt_of_pos _ (by decide)⟩)) hN fun d ⟨i, e, h1⟩ => ?_)
  subst e
  refine sd_cons (s_setN 6 (ein_mod (U := fun _ => True) (ein_toInt G (ein_mul (U := fun _ => True) (ein_mod (U := fun _ => True) (ein_toInt G (ein_mul (U := fun _ => True) (ein_of (ed_var 5 rfl)) (ein_of (ed_var 5 rfl)) (fun i j e _ => .inl (by subst e; constructor <;> omega)) (fun _ _ _ _ => trivial))) (ein_of ed_int) (fun j e => by subst e; decide) (fun _ _ _ _ => trivial)) (ein_of ed_int) (fun i j _ e => small i j (.inr (.inr e))) (fun _ _ _ _ => trivial))) (ein_of ed_int) (fun j e => by subst e; decide) (fun _ _ _ _ => trivial)) hN fun d ⟨i2, e, _⟩ => ?_)
  subst e
  exact sd_one (s_retN (ein_mod (U := fun z => 0 ≤ z ∧ z < m) (ein_toInt G (ein_fdiv (U := fun _ => True) (ein_of (ed_var 6 rfl)) (ein_of ed_int) (fun j e => by subst e; exact ⟨by decide, by decide⟩) (fun _ _ _ _ => trivial))) (ein_of (ed_var 1 rfl)) (fun j e => by subst e; exact p1) hmod) fun d ⟨r, e, h1⟩ => ⟨m, r, rfl, e, h1.1, h1.2⟩)
def pre__law_some : List PyData → Prop := fun zs => ∃ ds : List PyData, zs = [bagD, .list ds] ∧ 0 < ds.length ∧ ds.length ≤ 1000
def fn__law_some : List PyData → PyData → Prop := fun zs z_ => ∃ ds : List PyData, zs = [bagD, .list ds] ∧ z_ ∈ ds
theorem p__law_some (M : Md mg) (D : Dn K mg d__law_some) (F__law_take : FDn P w K mg base "_law_take" 2 1 pre__law_take fn__law_take) : FDn P w K mg base "_law_some" 2 2 pre__law_some fn__law_some := by
  obtain ⟨⟨fd, F⟩, g⟩ := D
  refine fd_ofN (N := ["_law_bag_here", "_law_things"]) (ps := ["_law_bag_here", "_law_things"]) (st := s__law_some) (k := 1) M F ⟨rfl, rfl, rfl, by decide, rfl, by decide, by decide⟩ g (fun _ _ _ _ _ _ us hl => match us, hl with | [_, _], _ => rfl) (fun zs ⟨_, e, _⟩ => by subst e; rfl) fun f cdv A outer s H E hr G zs hpre => ?_
  obtain ⟨ds, rfl, p1, p2⟩ := hpre
  exact sd_one (s_retN (edn_ix (eq_l (ed_var 1 rfl)) ((we_callN F__law_take (room_le hr) (ea_cons (ed_var 0 rfl) (ea_cons (ed_len G (eq_l (ed_var 1 rfl))) ea_nil)) ⟨(ds.length : Int), rfl, by omega, by omega⟩).mono fun d ⟨m, r, e1, e2, h0, h1⟩ => ⟨r, e2, h0, by cases e1; exact h1⟩)) fun d hd => ⟨ds, rfl, hd⟩)
def pre__law_mixed : List PyData → Prop := fun zs => ∃ ds : List PyData, zs = [bagD, .list ds] ∧ ds.length ≤ 1000
def fn__law_mixed : List PyData → PyData → Prop := fun zs z_ => ∃ ds es : List PyData, zs = [bagD, .list ds] ∧ z_ = .list es ∧ es.Perm ds
theorem perm_ins {α : Type} (l : List α) (d : α) (n : Nat) : (l.take n ++ [d] ++ l.drop n).Perm (l ++ [d]) := by
  have h : (l.take n ++ ([d] ++ l.drop n)).Perm (l.take n ++ (l.drop n ++ [d])) := List.Perm.append_left _ List.perm_append_comm
  rw [List.append_assoc]
  refine h.trans ?_
  rw [← List.append_assoc, List.take_append_drop]
theorem p__law_mixed (M : Md mg) (D : Dn K mg d__law_mixed) (F__law_take : FDn P w K mg base "_law_take" 2 1 pre__law_take fn__law_take) : FDn P w K mg base "_law_mixed" 2 2 pre__law_mixed fn__law_mixed := by
  obtain ⟨⟨fd, F⟩, g⟩ := D
  refine fd_ofN (N := ["_law_bag_here", "_law_things", "_law_found", "_law_thing"]) (ps := ["_law_bag_here", "_law_things"]) (st := s__law_mixed) (k := 1) M F ⟨rfl, rfl, rfl, by decide, rfl, by decide, by decide⟩ g (fun _ _ _ _ _ _ us hl => match us, hl with | [_, _], _ => rfl) (fun zs ⟨_, e, _⟩ => by subst e; rfl) fun f cdv A outer s H E hr G zs hpre => ?_
  obtain ⟨ds, rfl, p1⟩ := hpre
  have hN : (["_law_bag_here", "_law_things", "_law_found", "_law_thing"] : List Str).Nodup := by decide
  refine sd_cons (s_setL 2 (en_lst ea_nil (Nat.zero_le _)) hN ?_)
  refine sd_cons (s_forA (gd := fun d : PyData => d) (as := ds) G (EI.cast (ei_lst (ed_var 1 rfl)) (List.map_id _).symm) (fun i ρ' => ∃ es : List PyData, es.Perm (ds.take i) ∧ ρ' = [dD bagD, dD (.list ds), dL es, dZ]) ⟨[], by simp, rfl⟩ (fun i d ρ' hd ⟨es, pe, e⟩ => ⟨_, gd_name 3 hN, ?_⟩) fun ρ' ⟨es, pe, e⟩ => ?_)
  · subst e
    have hle : es.length ≤ 1000 := by
      rw [pe.length_eq, List.length_take]; omega
    refine sd_cons (s_insertN 2 rfl ((we_callN F__law_take (room_le hr) (ea_cons (ed_var 0 rfl) (ea_cons (ed_add (ed_len G (eq_el (el_own 2 rfl))) ed_int) ea_nil)) ⟨(es.length : Int) + 1, rfl, by omega, by omega⟩).mono fun d ⟨m, r, e1, e2, h0, h1⟩ => ⟨r, e2, h0, by cases e1; omega⟩) (ed_var 3 rfl) (by omega) fun n => sd_endL [3] ?_)
    refine ⟨es.take n ++ [d] ++ es.drop n, ?_, rfl⟩
    refine (perm_ins es d n).trans ?_
    rw [List.take_add_one, hd]
    exact List.Perm.append_right _ pe
  · subst e
    rw [List.take_length] at pe
    exact sd_frzL (i := 2) rfl (sd_one (s_ret (ed_var 2 rfl) ⟨ds, es, rfl, rfl, pe⟩))
end
end K79

set_option Elab.async false
set_option linter.all false
set_option maxRecDepth 100000
set_option maxHeartbeats 4000000
/-! the law's halls -/
namespace K79
open PySem PySem.Spec PyProof.Rows L2
theorem perm2 {α : Type} {es : List α} {a b : α} (h : es.Perm [a, b]) : es = [a, b] ∨ es = [b, a] := by
  have hl := h.length_eq
  match es, hl with
  | [x, y], _ =>
    have hx : x ∈ [a, b] := h.mem_iff.mp (List.mem_cons_self ..)
    rcases List.mem_cons.mp hx with e | e
    · subst e
      exact .inl (congrArg _ (List.perm_singleton.mp (List.perm_cons x |>.mp h)))
    · have e := List.mem_singleton.mp e
      subst e
      have h2 : [x, y].Perm [x, a] := h.trans (List.Perm.swap x a [])
      exact .inr (congrArg _ (List.perm_singleton.mp (List.perm_cons x |>.mp h2)))
theorem le_cap_fill (a b : List PyData) : PySem.W.dataLe false id (.tuple (.str "cap" :: a)) (.tuple (.str "fill" :: b)) = true := rfl
theorem le_cap_wash (a b : List PyData) : PySem.W.dataLe false id (.tuple (.str "cap" :: a)) (.tuple (.str "wash" :: b)) = true := rfl
theorem le_wash_fill (a b : List PyData) : PySem.W.dataLe false id (.tuple (.str "wash" :: a)) (.tuple (.str "fill" :: b)) = false := rfl
theorem le_fill_wash (a b : List PyData) : PySem.W.dataLe false id (.tuple (.str "fill" :: a)) (.tuple (.str "wash" :: b)) = true := rfl
theorem sort2 (a b : List PyData) : sortD [.tuple (.str "cap" :: a), .tuple (.str "fill" :: b)] = [.tuple (.str "cap" :: a), .tuple (.str "fill" :: b)] := by
  unfold sortD
  exact List.mergeSort_of_pairwise (by simp [le_cap_fill])
theorem sort3 (a b c : List PyData) : sortD [.tuple (.str "cap" :: a), .tuple (.str "wash" :: b), .tuple (.str "fill" :: c)] = [.tuple (.str "cap" :: a), .tuple (.str "fill" :: c), .tuple (.str "wash" :: b)] := by
  unfold sortD
  simp [List.mergeSort, List.MergeSort.Internal.splitInTwo, List.merge, le_cap_fill, le_cap_wash, le_wash_fill]
theorem mem_washes {p t r f : Nat} {ps : List (Nat × Nat)} {o : Bool} (ht : t ∈ [p, p - 1, 1]) (hp : ps ∈ [[], [(100, 0)], [(3, 1)]]) (hr : r ∈ [20, 3]) (hf : f ∈ [0, 1, 3]) : some (Wash.mk t ps r f o) ∈ washes p := by
  refine List.mem_cons_of_mem _ (List.mem_flatMap.mpr ⟨t, ht, List.mem_flatMap.mpr ⟨ps, hp, List.mem_flatMap.mpr ⟨r, hr, List.mem_flatMap.mpr ⟨f, hf, List.mem_map.mpr ⟨o, ?_, rfl⟩⟩⟩⟩⟩)
  cases o <;> simp
theorem mem_iD {d : PyData} {l : List Nat} (h : d ∈ l.map iD) : ∃ n, n ∈ l ∧ d = iD n := by
  obtain ⟨n, hn, e⟩ := List.mem_map.mp h
  exact ⟨n, hn, e.symm⟩
theorem ENn.mono {X : Cx} {e : Expr} {ρ : Env} {S T : List PyData → Prop} (h : ENn X e ρ S) (l : ∀ d, S d → T d) : ENn X e ρ T := fun O0 O H σ L rs Q q => h O0 O H σ L rs Q fun p vs ds H' s np ex hp hv => q p vs ds H' (l ds s) np ex hp hv
section
variable {P : Program} {w : World} {K : PySem.W.Frag} {mg : Str → Option Value} {base : Heap}
def pre__law_slow : List PyData → Prop := fun zs => zs = [bagD]
def fn__law_slow : List PyData → PyData → Prop := fun zs z_ => ∃ (p ex room : Nat) (w : Option Wash), p ∈ [98, 40, 97, 61] ∧ ex ∈ [1, 1, 2] ∧ room ∈ [20, 12, 7] ∧ w ∈ washes p ∧ z_ = (mkHall p ex room w).d
def capM (p ex : Nat) : PyData := Mach.d ⟨.cap, p + ex, []⟩
def washM (t : Nat) (ps : List (Nat × Nat)) : PyData := Mach.d ⟨.wash, t, ps⟩
def capB (room : Nat) : PyData := Belt.d ⟨.cap, .fill, room, room⟩
def washB (r f : Nat) : PyData := Belt.d ⟨.wash, .cap, r, f⟩
theorem alike_mach (t1 t2 : Nat) (n1 n2 : Nm) (p1 p2 : List (Nat × Nat)) : PySem.W.alike (Mach.d ⟨n1, t1, p1⟩) (Mach.d ⟨n2, t2, p2⟩) = true := by
  show (true && (true && (PySem.W.alikeAll (p1.map purD) (p2.map purD) && true))) = true
  rw [alikeAll_map (g := purD) (fun _ _ => rfl)]; rfl
theorem sort_mach {l : List Mach} (hl : l.length ≤ 1000) : SortOk (l.map Mach.d) where
  pl := plainAll_map (g := Mach.d) (fun m => by
    show (true && (true && (PyData.plainAll (m.ps.map purD) && true))) = true
    rw [plainAll_map (g := purD) (fun _ => rfl)]; rfl) l
  al := PySem.W.AllAlike.of (fun a b => alike_mach a.t b.t a.nm b.nm a.ps b.ps)
  so := PySem.W.Sortable.tuples fun s => ⟨_, _, rfl⟩
  ln := by rw [List.length_map]; omega
  dp := fun d hd => by
    obtain ⟨m, _, rfl⟩ := List.mem_map.mp hd
    show max 0 (max 0 (max (PyData.depthAll (m.ps.map purD) + 1) 0)) + 1 ≤ 60
    have := depthAll_map (g := purD) (k := 1) (fun q => by show max 0 (max 0 0) + 1 ≤ 1; omega) m.ps
    omega
theorem p__law_slow (M : Md mg) (D : Dn K mg d__law_slow) (F__law_take : FDn P w K mg base "_law_take" 2 1 pre__law_take fn__law_take) (F__law_some : FDn P w K mg base "_law_some" 2 2 pre__law_some fn__law_some) (F__law_mixed : FDn P w K mg base "_law_mixed" 2 2 pre__law_mixed fn__law_mixed) : FDn P w K mg base "_law_slow" 1 3 pre__law_slow fn__law_slow := by
  obtain ⟨⟨fd, F⟩, g⟩ := D
  refine fd_ofN (N := ["_law_bag_here", "_law_pace_here", "_law_room", "_law_machines", "_law_belts"]) (ps := ["_law_bag_here"]) (st := s__law_slow) (k := 2) M F ⟨rfl, rfl, rfl, by decide, rfl, by decide, by decide⟩ g (fun _ _ _ _ _ _ us hl => match us, hl with | [_], _ => rfl) (fun zs e => by subst e; rfl) fun f cdv A outer s H E hr G zs hpre => ?_
  subst hpre
  have hN : (["_law_bag_here", "_law_pace_here", "_law_room", "_law_machines", "_law_belts"] : List Str).Nodup := by decide
  have some_ : ∀ {ρ : Env} {es : List Expr} {pos p p2 p4 : Pos} {ds : List PyData}, ρ[0]? = some (dD bagD) → EA (bx P w K mg base ["_law_bag_here", "_law_pace_here", "_law_room", "_law_machines", "_law_belts"] "_law_slow" s__law_slow f cdv A outer s H E) [.List es p4] ρ [.list ds] → 0 < ds.length → ds.length ≤ 1000 →
      EDn (bx P w K mg base ["_law_bag_here", "_law_pace_here", "_law_room", "_law_machines", "_law_belts"] "_law_slow" s__law_slow f cdv A outer s H E) (.Call (.Name "_law_some" p) [.Name "_law_bag_here" p2, .List es p4] [] pos) ρ fun d => d ∈ ds := fun {ρ es pos p p2 p4 ds} h0 hb h1 h2 =>
    (we_callN F__law_some (room_le hr) (ea_cons (ed_var 0 h0) hb) ⟨ds, rfl, h1, h2⟩).mono fun d ⟨ds', e, hd⟩ => by cases e; exact hd
  refine sd_cons (s_par2N 1 2 G (ean_cons (some_ rfl (ea_cons (ed_new (en_lst (ea_cons ed_int (ea_cons ed_int (ea_cons ed_int (ea_cons ed_int ea_nil)))) (Nat.le_of_ble_eq_true rfl))) ea_nil) (by decide) (by decide)) (ean_cons (some_ rfl (ea_cons (ed_new (en_lst (ea_cons ed_int (ea_cons ed_int (ea_cons ed_int ea_nil))) (Nat.le_of_ble_eq_true rfl))) ea_nil) (by decide) (by decide)) ean_nil)) (fun ds ⟨d, r, e, _, d2, r2, e2, _, e3⟩ => by subst e e2 e3; rfl) hN fun d1 d2 ⟨_, _, e, h1, _, _, e2, h2, e3⟩ => ?_)
  cases e; cases e2; clear e3
  obtain ⟨p, hp, rfl⟩ := mem_iD (l := [98, 40, 97, 61]) h1
  obtain ⟨room, hroom, rfl⟩ := mem_iD (l := [20, 12, 7]) h2
  clear h1 h2
  refine sd_cons (s_setLN 3 (SA := fun ds => ∃ ex, ex ∈ [1, 1, 2] ∧ ds = [capM p ex]) (ENn.mono (enn_lst (ean_cons (edn_tup (T := fun d => ∃ ex, ex ∈ [1, 1, 2] ∧ d = capM p ex) (ean_cons (edn_of ed_str) (ean_cons (ein_add (J := fun z => ∃ n : Nat, n ∈ [1, 1, 2] ∧ z = (n : Int)) (U := fun z => ∃ ex : Nat, ex ∈ [1, 1, 2] ∧ z = (p : Int) + ex) (ein_of (ed_var 1 rfl)) (EDn.mono (some_ rfl (ea_cons (ed_new (en_lst (ea_cons ed_int (ea_cons ed_int (ea_cons ed_int ea_nil))) (Nat.le_of_ble_eq_true rfl))) ea_nil) (by decide) (by decide)) fun d hd => by
      obtain ⟨n, hn, e⟩ := mem_iD (l := [1, 1, 2]) hd
      exact ⟨(n : Int), e, n, hn, rfl⟩) (fun i j ei ej => by obtain ⟨n, hn, ej⟩ := ej; exact ⟨n, hn, by rw [ei, ej]⟩)) (ean_cons (edn_of (ed_tup ea_nil (Nat.zero_le _))) ean_nil))) (fun ds ⟨d, r, e, h1, d2, r2, e2, ⟨z, ez, n, hn, en⟩, d3, r3, e3, h3, e4⟩ => by
        subst e h1 e2 ez en e3 h3 e4
        exact ⟨by show 3 ≤ 1000; decide, n, hn, rfl⟩)) ean_nil) (fun ds ⟨d, r, e, _, e2⟩ => by subst e e2; show 1 ≤ 1000; decide)) fun ds h => by obtain ⟨d, r, e, ⟨n, hn, ed⟩, e2⟩ := h; subst e ed e2; exact ⟨n, hn, rfl⟩) hN fun ds ⟨ex, hex, eds⟩ => ?_)
  subst eds
  refine sd_cons (s_setL (ds := [capB room]) 4 (en_lst (ea_cons (ed_tup (ea_cons ed_str (ea_cons ed_str (ea_cons (ed_var 2 rfl) (ea_cons (ed_var 2 rfl) ea_nil)))) (Nat.le_of_ble_eq_true rfl)) ea_nil) (Nat.le_of_ble_eq_true rfl)) hN ?_)
  refine sd_cutP (fun ρ' => ∃ (ms ms' : List Mach) (bs : List Belt), ms.length ≤ 2 ∧ bs.length ≤ 2 ∧ sortD ((ms ++ [(⟨.fill, p, []⟩ : Mach)]).map Mach.d) = ms'.map Mach.d ∧ (∀ bs', bs'.Perm (bs.map Belt.d) → fn__law_slow [bagD] (.tuple [.tuple (ms'.map Mach.d), .tuple bs', Nm.fill.d])) ∧ ρ' = [dD bagD, dD (iD p), dD (iD room), dL (ms.map Mach.d), dL (bs.map Belt.d)])
    (s_ifN (etn_of (ebn_eq (I := fun _ => True) (EDn.mono (we_callN F__law_take (room_le hr) (ea_cons (ed_var 0 rfl) (ea_cons ed_int ea_nil)) (by exact ⟨2, rfl, by decide, by decide⟩)) fun d h => by obtain ⟨m, r, e1, e2, h0, h1⟩ := h; exact Exists.intro r (And.intro e2 trivial)) (ein_of ed_int))) ?_ (sd_nil ?_)) ?_
  · refine sd_cons (s_appendN 3 rfl (edn_tup (T := fun d => ∃ t ps, t ∈ [p, p - 1, 1] ∧ ps ∈ [[], [(100, 0)], [(3, 1)]] ∧ d = washM t ps) (ean_cons (edn_of ed_str) (ean_cons (S := fun d => d ∈ [iD p, .int ((p : Int) - 1), .int 1]) ?_ (ean_cons (S := fun d => d ∈ [.tuple [], .tuple [.tuple [.int 100, .int 0]], .tuple [.tuple [.int 3, .int 1]]]) ?_ ean_nil))) fun ds h => ?_) (Nat.le_of_ble_eq_true rfl) fun d h => ?_)
    · exact some_ rfl (ea_cons (ed_new (en_lst (ea_cons (ed_var 1 rfl) (ea_cons (ed_sub (ed_var 1 rfl) ed_int) (ea_cons ed_int ea_nil))) (Nat.le_of_ble_eq_true rfl))) ea_nil) (Nat.le_of_ble_eq_true rfl) (Nat.le_of_ble_eq_true rfl)
    · refine some_ rfl (ea_cons (ed_new (en_lst (ea_cons (ed_tup ea_nil (Nat.zero_le _)) (ea_cons ?_ (ea_cons ?_ ea_nil))) (Nat.le_of_ble_eq_true rfl))) ea_nil) (Nat.le_of_ble_eq_true rfl) (Nat.le_of_ble_eq_true rfl)
      · refine ed_tup (ea_cons ?_ ea_nil) (Nat.le_of_ble_eq_true rfl)
        refine ed_tup (ea_cons ed_int (ea_cons ed_int ea_nil)) (Nat.le_of_ble_eq_true rfl)
      · refine ed_tup (ea_cons ?_ ea_nil) (Nat.le_of_ble_eq_true rfl)
        refine ed_tup (ea_cons ed_int (ea_cons ed_int ea_nil)) (Nat.le_of_ble_eq_true rfl)
    · obtain ⟨d, r, e, h1, d2, r2, e2, h2, d3, r3, e3, h3, e4⟩ := h
      subst e h1 e2 e3 e4
      obtain ⟨t, ht, rfl⟩ : ∃ t, t ∈ [p, p - 1, 1] ∧ d2 = iD t := by
        have hp1 : ((p : Int) - 1) = ((p - 1 : Nat) : Int) := by
          have : p = 98 ∨ p = 40 ∨ p = 97 ∨ p = 61 := by simpa using hp
          omega
        rw [hp1] at h2
        exact mem_iD (l := [p, p - 1, 1]) h2
      obtain ⟨ps, hps, rfl⟩ : ∃ ps, ps ∈ [[], [(100, 0)], [(3, 1)]] ∧ d3 = .tuple (List.map purD ps) := by
        obtain ⟨ps, hps, e⟩ := List.mem_map.mp (show d3 ∈ [[], [(100, 0)], [(3, 1)]].map (fun ps => PyData.tuple (List.map purD ps)) from h3)
        exact ⟨ps, hps, e.symm⟩
      exact ⟨by show 3 ≤ 1000; decide, t, ps, ht, hps, rfl⟩
    · obtain ⟨t, ps, ht, hps, ed⟩ := h
      subst ed
      refine sd_one (s_appendN 4 rfl (edn_tup (T := fun d => ∃ r f, r ∈ [20, 3] ∧ f ∈ [0, 1, 3] ∧ d = washB r f) (ean_cons (edn_of ed_str) (ean_cons (edn_of ed_str) (ean_cons (some_ rfl (ea_cons (ed_new (en_lst (ea_cons ed_int (ea_cons ed_int ea_nil)) (Nat.le_of_ble_eq_true rfl))) ea_nil) (by decide) (by decide)) (ean_cons (some_ rfl (ea_cons (ed_new (en_lst (ea_cons ed_int (ea_cons ed_int (ea_cons ed_int ea_nil))) (Nat.le_of_ble_eq_true rfl))) ea_nil) (by decide) (by decide)) ean_nil)))) fun ds h => ?_) (by show 1 < 1000000; decide) fun d h => ?_)
      · obtain ⟨d, r, e, h1, d2, r2, e2, h2, d3, r3, e3, h3, d4, r4, e4, h4, e5⟩ := h
        subst e h1 e2 h2 e3 e4 e5
        obtain ⟨r, hr2, rfl⟩ := mem_iD (l := [20, 3]) h3
        obtain ⟨f, hf, rfl⟩ := mem_iD (l := [0, 1, 3]) h4
        exact ⟨by show 4 ≤ 1000; decide, r, f, hr2, hf, rfl⟩
      · obtain ⟨r, f, hr2, hf, ed⟩ := h
        subst ed
        refine ⟨[⟨.cap, p + ex, []⟩, ⟨.wash, t, ps⟩], [⟨.cap, p + ex, []⟩, ⟨.fill, p, []⟩, ⟨.wash, t, ps⟩], [⟨.cap, .fill, room, room⟩, ⟨.wash, .cap, r, f⟩], Nat.le_of_ble_eq_true rfl, Nat.le_of_ble_eq_true rfl, sort3 _ _ _, fun bs' hb => ?_, rfl⟩
        rcases perm2 hb with e | e
        · exact ⟨p, ex, room, some ⟨t, ps, r, f, true⟩, hp, hex, hroom, mem_washes ht hps hr2 hf, by rw [e]; rfl⟩
        · exact ⟨p, ex, room, some ⟨t, ps, r, f, false⟩, hp, hex, hroom, mem_washes ht hps hr2 hf, by rw [e]; rfl⟩
  · refine ⟨[⟨.cap, p + ex, []⟩], [⟨.cap, p + ex, []⟩, ⟨.fill, p, []⟩], [⟨.cap, .fill, room, room⟩], Nat.le_of_ble_eq_true rfl, Nat.le_of_ble_eq_true rfl, sort2 _ _, fun bs' hb => ?_, rfl⟩
    exact ⟨p, ex, room, none, hp, hex, hroom, List.mem_cons_self .., by rw [List.perm_singleton.mp hb]; rfl⟩
  · rintro ρ' ⟨ms, ms', bs, l1, l2, hs, hfn, rfl⟩
    refine sd_frzL (i := 4) rfl (sd_one (s_retN (edn_tup (T := fn__law_slow [bagD]) (ean_cons (edn_of (ed_tupL G (el_new (en_c hs (en_sort G (el_new (en_c (by rw [List.map_append]; rfl) (en_cat (el_own 3 rfl) (el_new (en_lst (ea_cons (ed_tup (ea_cons ed_str (ea_cons (ed_var 1 rfl) (ea_cons (ed_tup ea_nil (Nat.zero_le _)) ea_nil))) (Nat.le_of_ble_eq_true rfl)) ea_nil) (Nat.le_of_ble_eq_true rfl))) (by rw [List.length_map, sizeLine_eq]; show ms.length + 1 ≤ _; omega)))) (sort_mach (by rw [List.length_append]; show ms.length + 1 ≤ _; omega))))))) (ean_cons (edn_tupL (SA := fun es => es.Perm (bs.map Belt.d)) G (EDn.mono (we_callN F__law_mixed (room_le hr) (ea_cons (ed_var 0 rfl) (ea_cons (ed_var 4 rfl) ea_nil)) ⟨_, rfl, by rw [List.length_map]; omega⟩) fun d ⟨ds, es, e1, e2, e3⟩ => ⟨es, e2, by cases e1; exact e3⟩)) (ean_cons (edn_of ed_str) ean_nil))) fun ds h => ?_) fun d h => h))
    obtain ⟨d, r, e, h1, d2, r2, e2, ⟨es, e3, e4⟩, d3, r3, e5, h3, e6⟩ := h
    subst e h1 e2 e3 e5 h3 e6
    exact ⟨by show 3 ≤ 1000; decide, hfn es e4⟩
end
end K79

set_option Elab.async false
set_option linter.all false
set_option maxRecDepth 100000
set_option maxHeartbeats 4000000
/-! defs that are called where no repr runs: what the calls around hold is told -/
namespace K79
open PySem PySem.Spec PyProof.Rows L2
/-- a def's promise where nothing guards: no exception leaves it -/
structure FnG (P : Program) (w : World) (K : PySem.W.Frag) (mg : Str → Option Value) (base : Heap) (k : Nat) (f : Addr) (fd : FuncData) (ps : List Str) (sp : Sp) : Prop where
  len : ∀ vs H Q E, sp vs H Q E → vs.length = ps.length
  run : ∀ (A : Around) (outer : List PySem.Env) (s : Shared) (H : Hp) (args : Args) (us : List Value) (vs : List V) (Q : VK) (E : XK), A.guards = some [] → Room k A → Env0 P w K mg base A outer s H → BindsTo s fd args (ps.zip us) → Vals vs us → sp vs H Q E →
    codeAny (model P w) A (.call (.ref f) args) (CR CX0 outer P w H s Q E) s
section
variable {P : Program} {w : World} {K : PySem.W.Frag} {mg : Str → Option Value} {base : Heap}
theorem fg_of {x qual : Str} {params : Arguments} {body : List Stmt} {scope : Scope} {f : Addr} {fd : FuncData} {N ps : List Str} {k : Nat} {sp : Sp} (F : FunD K x qual params body scope [] [] f fd) (S : FnScope N ps scope) (len : ∀ vs H Q E, sp vs H Q E → vs.length = ps.length)
    (walk : ∀ (cdv : Value) (A : Around) (outer : List PySem.Env) (s : Shared) (H : Hp) (vs : List V) (Q : VK) (E : XK), A.guards = some [] → Room k (A.deeper (envOfC qual scope s.heap.objs.size f cdv)) → sp vs H Q E →
      ∃ t, PSs (cxOf CX0 P w K mg base N qual scope f cdv A outer s H E) body t ∧ t { nx := fun _ H' => Q .non H', rt := Q } (L2.start N vs) H) : FnG P w K mg base (k + 1) f fd ps sp where
  len := len
  run := fun A outer s H args us vs Q E gA room around bound rel prom => by
    obtain ⟨oc, od, dV, kV, doc, pm, an, cdv, ct, osl, rfl, found, coded, _, _⟩ := F.ex
    have same : ∀ b o, base.get? b = some o → s.heap.get? b = some o := fun b o e => (around.bs b o e).1
    have inHeap : K.In s.heap := around.mod.kin.keeps same
    have slot : ∀ y ∈ ps.zip us, scope.names.lookup y.1 = some .local ∨ (scope.names.lookup y.1 = some .cell ∧ ((cellsFrom (s.heap.objs.size + 1) scope.names []).lookup y.1).isSome = true) := by
      rintro ⟨n, v⟩ hy
      exact (S.par n (List.of_mem_zip hy).1).imp id fun z => ⟨z, PySem.W.cellsFrom_some _ _ _ (.inl z)⟩
    refine codeAny_call_function room.depth (inHeap _ _ found) rfl S.co S.gen rfl (PySem.W.codeRec_of inHeap coded) (bound _ _ _ _ (wpAny_newFunctionEnv_cells S.kind slot fun fenv hf s1 ent => ?_))
    cases hf
    refine ⟨(around.mod.nolimit.keeps same).keeps ent.toInCall.keep, codeAny_func ?_⟩
    obtain ⟨t, ht, hq⟩ := walk cdv A outer s H vs Q E gA (room.deeper _) prom
    have I0 : Inv (cxOf CX0 P w K mg base N qual scope f cdv A outer s H E) [] (L2.start N vs) H s1 := inv_start S room.hd around (len _ _ _ _ prom) rel ent
    refine wpAny_mono (ht.run [] s1 (L2.start N vs) H _ I0 hq) (fun fl s' post => ?_) fun _ _ z => z
    cases fl with
    | next =>
      obtain ⟨σ', H', J, q⟩ := post
      exact ⟨.non, H', J.os, J.bare, J.base, J.hok, rfl, q⟩
    | ret u =>
      obtain ⟨v, σ', H', J, rv, q⟩ := post
      exact ⟨v, H', J.os, J.bare, J.base, J.hok, rv, q⟩
    | brk => obtain ⟨_, _, _, q⟩ := post; exact q.elim
    | cont => obtain ⟨_, _, _, q⟩ := post; exact q.elim
end
/-! ### by data -/
structure FDG (P : Program) (w : World) (K : PySem.W.Frag) (mg : Str → Option Value) (base : Heap) (x : Str) (n k : Nat) (fn : List PyData → PyData → Prop) : Prop where
  ex : ∃ (f : Addr) (fd : FuncData) (ps : List Str), ps.length = n ∧ FnG P w K mg base k f fd ps (spD P w fn) ∧ mg x = some (.ref f) ∧ PySem.W.keepIn K (.ref f) = true ∧ Binds K fd ps []
section
variable {X : Cx} {x : Str} {e : Expr} {es : List Expr} {ρ : Env} {ds : List PyData} {d : PyData} {p pos : Pos} {n k : Nat} {fn : List PyData → PyData → Prop}
theorem we_callG (F : FDG X.prog X.w X.K X.mg X.base x n k fn) (gA : X.A.guards = some []) (hr : Room k X.A) (ha : EA X (e :: es) ρ ds) (h : fn ds d) (hg : Gl X x := by rfl) (hdb : (x == ("__debug__" : Str)) = false := by decide) (he : starEach (e :: es) X.env = (false, eval e X.env) :: starEach es X.env := by exact star_of rfl)
    (hpl : (backTo pos (starEach es X.env)).any (·.1) = false := by rfl) : ED X (.Call (.Name x p) (e :: es) [] pos) ρ d := fun O0 O H σ L r Q q => by
  obtain ⟨f, fd, ps, hn, F, hm, hk, hb⟩ := F.ex
  refine ⟨fun pins s I => ?_⟩
  refine wpAny_Call_Name_kw (ld_glob I hg hm (PySem.W.callWith_K (h₀ := X.base) I.ok.mod.kin hk ?_ he hpl) hdb)
  refine thn ((ha O0 O H σ L r (fun vs H1 => Ex H H1 ∧ DrA X.prog X.w (hide O H1) vs ds) (fun vs H1 e1 h1 => ⟨e1, h1⟩)).run pos pins s I) fun us s1 ⟨vs, H1, I1, rv, e1, h1⟩ => ⟨I1.kIn, ?_⟩
  have prom : spD X.prog X.w fn vs H1 Q E0 := ⟨O, ds, d, L.ex e1, h1, h, fun v H' e2 hv => q v H' (e1.trans e2) hv⟩
  have hl : us.length = ps.length := by rw [← rv.length]; exact F.len _ _ _ _ prom
  refine wpAny_call (codeAny_mono (F.run X.A X.stack s1 H1 ⟨us, []⟩ us vs Q E0 gA hr I1.env0 (by have := hb s1 us I1.kIn (by rw [List.append_nil]; exact hl); rwa [List.append_nil] at this) rv prom) fun r s' post => ?_)
  match r, post with
  | .ok (.ret u), post => exact I1.after post
  | .ok .next, post => exact False.elim post
  | .ok .brk, post => exact False.elim post
  | .ok .cont, post => exact False.elim post
  | .error e, post => exact False.elim post
end
section
variable {P : Program} {w : World} {K : PySem.W.Frag} {mg : Str → Option Value} {base : Heap}
theorem fd_ofG {x qual : Str} {gname : Str} {st : Stmt} {f : Addr} {fd : FuncData} {N ps : List Str} {k : Nat} {fn : List PyData → PyData → Prop} (M : Md mg) (F : FunD K x qual (defArgs st) (defBody st) (defScope st) [] [] f fd) (S : FnScope N ps (defScope st)) (hm : mg gname = some (.ref f))
    (hb : ∀ (kV doc pm : Value) (an : Option Addr) (cdv ct : Value) (us : List Value), us.length = ps.length → bindArgs (PySem.W.fnOf x qual (defArgs st) (defBody st) (defScope st) .none kV doc pm an cdv ct) ⟨us, []⟩ = pure (ps.zip us))
    (len : ∀ ds d, fn ds d → ds.length = ps.length)
    (body : ∀ (f : Addr) (cdv : Value) (A : Around) (outer : List PySem.Env) (s : Shared) (H : Hp) (E : XK), (bx P w K mg base N qual st f cdv A outer s H E).A.guards = some [] → Room k (bx P w K mg base N qual st f cdv A outer s H E).A → Gd (bx P w K mg base N qual st f cdv A outer s H E) → ∀ ds d, fn ds d →
      SD (bx P w K mg base N qual st f cdv A outer s H E) (defBody st) (startE N ds) { nx := fun _ => False, rt := fun d' => d' = d }) : FDG P w K mg base gname ps.length (k + 1) fn := by
  refine ⟨f, fd, ps, rfl, fg_of F S (fun vs H Q E h => ?_) (fun cdv A outer s H vs Q E gA hr h => ?_), hm, F.kp, FunD.bindsN F hb⟩
  · obtain ⟨O, ds, d, L, h1, h2, _⟩ := h
    rw [h1.length, len ds d h2]
  · obtain ⟨O, ds, d, L, h1, h2, q⟩ := h
    have G : Gd (bx P w K mg base N qual st f cdv A outer s H E) := ⟨rfl, by have := hr.un; exact (by omega : (A.deeper (envOfC qual (defScope st) s.heap.objs.size f cdv)).units + 180 < cLine), M.len, M.range, M.tuple, M.list, M.int, M.str, M.bool, M.dict, M.isi, M.sum, M.min, M.max, M.sorted, M.all, M.any, M.zip, M.enum, M.abs, M.repr⟩
    have z := body f cdv A outer s H E gA hr G ds d h2 H O (hide O H) O H (L2.start N vs) ⟨.rfl', fun _ h => h, fun _ h => .inl h, hide_sub, fun a h => hide_own h, L⟩ (rs_start h1)
    refine ⟨_, PSs.nox pw_ss, wss_mono (D := lift (bx P w K mg base N qual st f cdv A outer s H E) H O (hide O H) { nx := fun _ => False, rt := fun d' => d' = d }) ⟨fun σ' H' ⟨O', ρ', k', r', e⟩ => e.elim, fun v H' ⟨e, d', hd, e2⟩ => by subst e2; exact q v H' e hd, fun _ _ h => ?_, fun _ _ h => ?_⟩ z⟩
    · obtain ⟨_, _, _, _, h⟩ := h; exact h.elim
    · obtain ⟨_, _, _, _, h⟩ := h; exact h.elim
end
/-! ### repr -/
/-- what repr shows here: a truth; a list of short ints and truths -/
inductive Shw : PyData → Prop
  | bl (b : Bool) : Shw (.bool b)
  | lst {ds : List PyData} (pl : PyData.plainAll ds = true) (dp : (PyData.list ds).depth ≤ 60) (sh : (PyData.list ds).showable = true) (hd : (PyData.list ds).hasDict = false) (ln : (PyData.list ds).shown.length ≤ sizeLine) : Shw (.list ds)
section
variable {X : Cx} {e : Expr} {ρ : Env} {d : PyData} {p pos : Pos}
theorem cr_repr (G : Gd X) (gA : X.A.guards = some []) : CallR X (.builtin "repr") (fun vs H Q => ∃ v d, vs = [v] ∧ Dr X.prog X.w H v d ∧ Shw d ∧ Q (.str d.shown) H) := by
  intro pins s σ H vs us Q I r h
  obtain ⟨v, d, rfl, hd, hs, q⟩ := h
  obtain ⟨u, rfl, ru⟩ := vals1 r
  cases hs with
  | bl b =>
    cases hd
    cases ru
    exact PySem.P.repr_of_bool ⟨.str _, H, I.tok _, ⟨_, rfl⟩, q⟩
  | @lst ds pl dp sh hdict ln =>
    obtain ⟨as, rd⟩ := Dp.reads I _ v u (hd.dp (by simpa [PyData.plain] using pl)) ru
    cases hd with
    | lst h1 h2 =>
      cases ru
      have hu := G.hu
      exact repr_of_reads' rd sh (PyData.noDict_hsm hdict) gA (by omega) (fun _ _ e => e) (fun h' u tk hk => ⟨.str _, H, I.kept hk, ⟨_, rfl⟩, q⟩) ln
theorem ed_repr (G : Gd X) (gA : X.A.guards = some []) (ha : ED X e ρ d) (hs : Shw d) (hg : Gl X "repr" := by rfl) (he : starEach [e] X.env = (false, eval e X.env) :: starEach [] X.env := by exact star_of rfl) : ED X (.Call (.Name "repr" p) [e] [] pos) ρ (.str d.shown) := fun O0 O H σ L rs Q q =>
  we_seq1 (T := false) (id := "repr") rfl (cr_repr G gA) G.repr (by decide +kernel) (ha O0 O H σ L rs _ fun v H1 e1 r1 => ⟨v, d, rfl, r1.mono hide_sub, hs, q _ H1 e1 (.str _)⟩) hg (by decide) (by decide) he
end
section
variable {P : Program} {w : World} {K : PySem.W.Frag} {mg : Str → Option Value} {base : Heap}
def fn__law_alike : List PyData → PyData → Prop := fun zs z_ => ∃ d : PyData, zs = [d, d] ∧ z_ = .bool true ∧ Shw d ∧ Eqb d ∧ PyData.eqv d d = true
theorem p__law_alike (M : Md mg) (D : Dn K mg d__law_alike) : FDG P w K mg base "_law_alike" 2 1 fn__law_alike := by
  obtain ⟨⟨fd, F⟩, g⟩ := D
  refine fd_ofG (N := ["_law_found", "_law_due"]) (ps := ["_law_found", "_law_due"]) (st := s__law_alike) (k := 0) M F ⟨rfl, rfl, rfl, by decide, rfl, by decide, by decide⟩ g (fun _ _ _ _ _ _ us hl => match us, hl with | [_, _], _ => rfl) (fun zs z_ ⟨_, e, _⟩ => by subst e; rfl) fun f cdv A outer s H E gA hr G zs z_ hfn => ?_
  obtain ⟨d, rfl, rfl, hs, he, hv⟩ := hfn
  exact sd_one (s_ret (ed_and (ed_eq G (ef_ed (ed_var 0 rfl)) (ef_ed (ed_var 1 rfl)) he he) fun _ => ed_one (ed_eqS (x := d.shown) (y := d.shown) (ed_repr G gA (ed_var 0 rfl) hs) (ed_repr G gA (ed_var 1 rfl) hs))) (by rw [hv, decide_eq_true rfl]; rfl))
end
end K79

set_option Elab.async false
set_option linter.all false
set_option maxRecDepth 100000
set_option maxHeartbeats 4000000
/-! the bag is made of the script -/
namespace K79
open PySem PySem.Spec PyProof.Rows L2
/-- from the script: the bag -/
def spBag (P : Program) (w : World) (K : PySem.W.Frag) : Sp := fun vs H Q _ => ∃ (a : Addr) (ns : List Int), vs = [.ref a] ∧ SqL K H a (ns.map V.int) ∧ ns.length ≤ 1000 ∧ ∀ v H', Ex H H' → Dr P w H' v bagD → Q v H'
theorem we_newBag {X : Cx} {e : Expr} {σ : L2.St} {H : Hp} {Q : VK} (h : WE X e σ H fun v H' => ∃ (p q : Addr) (i j k : Int) (ns : List Int), v = .ref p ∧ H p = none ∧ Ex H H' ∧ H' p = some (.lst [.int i, .int j, .int k, .ref q]) ∧ H' q = some (.lst (ns.map V.int)) ∧ q ≠ p ∧ ns.length ≤ 1000)
    (hq : ∀ v H', Ex H H' → Dr X.prog X.w H' v bagD → Q v H') : WE X e σ H Q := ⟨fun pins s I =>
  thn (h.run pins s I) fun u s1 ⟨v, H1, I1, r1, p, q, i, j, k, ns, ev, np, ex, hp, hq1, ne, hl⟩ => by
    subst ev
    exact ⟨.ref p, _, bag_out I1 hp, r1, hq _ _ (fun a o ha => by rw [upd_ne (ne_of_none ha np)]; exact ex a o ha) (.bag (q := q) (ns := ns) upd_same (by rw [upd_ne ne]; exact hq1) hl)⟩⟩
theorem cut_ints {ns : List Int} {lo hi : Option Int} (h : ns.length ≤ 1000) : ∃ ms : List Int, cutV (ns.map V.int) lo hi = ms.map V.int ∧ ms.length ≤ 1000 := by
  unfold cutV
  rw [← List.map_drop, ← List.map_take]
  refine ⟨_, rfl, ?_⟩
  rw [List.length_take, List.length_drop]
  omega
section
variable {P : Program} {w : World} {K : PySem.W.Frag} {mg : Str → Option Value} {base : Heap}
structure FB (P : Program) (w : World) (K : PySem.W.Frag) (mg : Str → Option Value) (base : Heap) : Prop where
  ex : ∃ (f : Addr) (fd : FuncData), FnOk P w K mg base CX0 1 f fd ["_law_script"] (spBag P w K) ∧ mg "_law_bag" = some (.ref f) ∧ PySem.W.keepIn K (.ref f) = true ∧ Binds K fd ["_law_script"] []
theorem q_law_bag (M : Md mg) (D : Dn K mg d__law_bag) : FB P w K mg base := by
  obtain ⟨⟨fd, F⟩, g⟩ := D
  have S : FnScope ["_law_script", "_law_cell"] ["_law_script"] (defScope s__law_bag) := ⟨rfl, rfl, rfl, by decide, rfl, by decide, by decide⟩
  refine ⟨_, fd, F.ok S (fun vs H Q E h => ?_) (fun cdv A outer s H vs Q E hr h => ?_), g, F.kp, FunD.bindsN F fun _ _ _ _ _ _ us hl => match us, hl with | [_], _ => rfl⟩
  · obtain ⟨a, ns, rfl, _⟩ := h; rfl
  · obtain ⟨a, ns, rfl, hS, hl, hQ⟩ := h
    refine ⟨_, PSs.nox (pss_one (ps_ret pw_e)), ?_⟩
    refine we_newBag (we_of (pe_lst (pa_cons pe_int (pa_cons pe_int (pa_cons pe_int (pa_cons (pe_lc (own := [("_law_cell", 1)]) (g := gName 1) (tt := tYes) rfl S.nd (pi_list (pe_slice sl_list (pv 0) po_none (po_some pe_int))) (blk_ok rfl) (fun _ _ _ _ _ => pg_name (i := 1) S.nd rfl (.inl rfl)) (fun _ _ _ _ _ => pts_nil) (fun _ _ _ _ _ => pe_callB call_abs (by rfl) M.abs (by decide +kernel) (pa_cons (pv 1) pa_nil))) pa_nil))))) ?_) hQ
    refine ⟨.ref a, rfl, 63, rfl, a, _, rfl, hS, fun l nl => ⟨l, rfl, ⟨_, .inl (.of upd_same)⟩, fun Dl hD => ?_⟩⟩
    obtain ⟨ms, ems, hms⟩ := cut_ints (ns := ns) (lo := none) (hi := some 63) hl
    have nD : H Dl = none := by
      by_cases z : Dl = l
      · subst z; exact nl
      · rw [upd_ne z] at hD; exact hD
    have hlD : l ≠ Dl := fun z => by subst z; rw [upd_same] at hD; cases hD
    rw [ems]
    have e1 : Ex H (upd (upd H l (.lst (ms.map V.int))) Dl (.lst [])) := (Ex.new nl).mut' nD
    refine lc_list (K := K) (a := l) (xs := ms.map V.int) (fun i H' => ∃ acc : List Int, acc.length = i ∧ H' Dl = some (.lst (acc.map V.int)) ∧ H' l = some (.lst (ms.map V.int)) ∧ Ex H H') ⟨[], rfl, upd_same, by rw [upd_ne hlD, upd_same], e1⟩ (fun i H' hi ⟨acc, _, _, h2, _⟩ => .inl (.of h2)) (fun i x H' hx ⟨acc, h1, h2, h3, h4⟩ => ?_) fun H' ⟨acc, h1, h2, h3, h4⟩ => ?_
    · rw [List.getElem?_map] at hx
      have hi : i < ms.length := by
        cases q : ms[i]? with
        | none => rw [q] at hx; cases hx
        | some _ => exact (List.getElem?_eq_some_iff.mp q).1
      cases q : ms[i]? with
      | none => rw [q] at hx; cases hx
      | some z =>
        rw [q] at hx
        cases hx
        refine ⟨rfl, ?_⟩
        unfold tYes
        simp only [if_true]
        refine ⟨.int z, rfl, z, rfl, _, h2, ?_, acc ++ [if z < 0 then -z else z], ?_, ?_, ?_, ?_⟩
        · rw [List.length_map, sizeLine_eq]; omega
        · rw [List.length_append, h1]; rfl
        · rw [upd_same, List.map_append]; rfl
        · rw [upd_ne hlD]; exact h3
        · exact h4.mut' nD
    · have hacc : acc.length ≤ 1000 := by rw [List.length_map] at h1; omega
      refine ⟨by show 4 ≤ sizeLine; decide, fun p np => ⟨p, Dl, 0, 1234567891, 0, acc, rfl, h4.back np, h4.trans (.new np), upd_same, ?_, ?_, hacc⟩⟩
      · rw [upd_ne (ne_of_none h2 np)]; exact h2
      · exact ne_of_none h2 np
end
end K79

set_option Elab.async false
set_option linter.all false
set_option maxRecDepth 100000
set_option maxHeartbeats 4000000
/-! the arcs of a way by their places; what is shown -/
namespace K79
open PySem PySem.Spec PyProof.Rows L2
def idxs : Nat → List Arc → List (Nat × Arc)
  | _, [] => []
  | k, a :: l => (k, a) :: idxs (k + 1) l
def gIdx (q : Nat × Arc) : PyData := .tuple [iD q.1, q.2.d]
theorem enum_idxs : ∀ (k : Nat) (l : List Arc), enumD k (l.map Arc.d) = (idxs k l).map gIdx
  | _, [] => rfl
  | k, a :: l => by
    rw [List.map_cons, idxs, List.map_cons, ← enum_idxs (k + 1) l]; rfl
theorem idxs_len : ∀ (k : Nat) (l : List Arc), (idxs k l).length = l.length
  | _, [] => rfl
  | k, a :: l => by rw [idxs, List.length_cons, idxs_len, List.length_cons]
theorem idxs_next (c : Nat) : ∀ (m k : Nat), ((idxs k (List.replicate m (.next .cap) ++ [.down c])).filter fun q => isNext q.2).map (fun q => iD q.1) = (List.range m).map fun i => iD (i + k)
  | 0, k => rfl
  | m + 1, k => by
    rw [List.replicate_succ, List.cons_append, idxs, List.filter_cons_of_pos rfl, List.map_cons, idxs_next c m (k + 1), List.range_succ_eq_map, List.map_cons, List.map_map, Nat.zero_add]
    refine congrArg (iD k :: ·) (List.map_congr_left fun i _ => ?_)
    show iD (i + (k + 1)) = iD (i + 1 + k)
    rw [Nat.add_assoc, Nat.add_comm 1 k]
theorem idxs_ge (j : Nat) : ∀ (l : List Arc) (k : Nat), ((idxs k l).filter fun q => decide (j ≤ q.1)).map (·.2) = l.drop (j - k)
  | [], k => by simp [idxs]
  | a :: l, k => by
    rw [idxs]
    by_cases h : j ≤ k
    · rw [List.filter_cons_of_pos (by simpa using h), List.map_cons, idxs_ge j l (k + 1), show j - k = 0 by omega, show j - (k + 1) = 0 by omega]; rfl
    · rw [List.filter_cons_of_neg (by simpa using h), idxs_ge j l (k + 1), show j - k = (j - (k + 1)) + 1 by omega]; rfl
theorem tour_drop (w : Option Wash) {j m : Nat} (h : j ≤ m) : (tour w m).drop j = tour w (m - j) := by
  unfold tour
  rw [List.drop_append_of_le_length (by rw [List.length_replicate]; exact h), List.drop_replicate]
theorem cut_range {j m : Nat} (h : j ≤ m) : cutD ((List.range m).map iD) none (some (j : Int)) = (List.range j).map iD := by
  unfold cutD
  rw [HT.sIx_nat, List.length_map, List.length_range, Nat.min_eq_left h]
  show ((List.map iD (List.range m)).drop 0).take (j - 0) = _
  rw [List.drop_zero, Nat.sub_zero, ← List.map_take, List.take_range, Nat.min_eq_left h]
theorem eqb_int (i : Int) : Eqb (.int i) := ⟨rfl, Nat.zero_le _⟩
theorem eqv_int (i j : Int) : PyData.eqv (.int i) (.int j) = decide (i = j) := by
  by_cases h : i = j
  · subst h; simp [PyData.eqv]
  · simp [PyData.eqv, h]
theorem any_range (j n : Nat) : (!((List.range j).map iD).any fun z => PyData.eqv z (iD n)) = decide (j ≤ n) := by
  by_cases h : j ≤ n
  · rw [decide_eq_true h, Bool.not_eq_true', List.any_eq_false]
    intro z hz
    obtain ⟨i, hi, rfl⟩ := List.mem_map.mp hz
    have := List.mem_range.mp hi
    rw [eqv_int, decide_eq_false (by omega)]
    exact Bool.false_ne_true
  · rw [decide_eq_false h, Bool.not_eq_false', List.any_eq_true]
    exact ⟨iD n, List.mem_map.mpr ⟨n, List.mem_range.mpr (by omega), rfl⟩, by rw [eqv_int]; exact decide_eq_true rfl⟩
theorem log_small {i : Int} (h : i.natAbs < 2 ^ 60) : i.natAbs.log2 < 60 := by
  by_cases z : i.natAbs = 0
  · rw [z]; decide
  · exact (Nat.log2_lt z).mpr h
theorem len_int {i : Int} (h : i.natAbs < 2 ^ 60) : (PyData.int i).shown.length ≤ 100 := by
  have h1 := int_text_length_le (a := i) (k := 60) (by decide) (log_small h)
  have h2 : (PyData.int i).shown.length = (toString i).length := by
    show (Str.ofString (toString i)).length = _
    rw [PySem.ofString_length]
  omega
/-- three short ints and a truth -/
theorem shw_four {a b c : Int} (ha : a.natAbs < 2 ^ 60) (hb : b.natAbs < 2 ^ 60) (hc : c.natAbs < 2 ^ 60) : Shw (.list [.int a, .int b, .int c, .bool true]) := by
  refine .lst rfl (by show max 0 (max 0 (max 0 (max 0 0))) + 1 ≤ 60; decide) ?_ rfl ?_
  · show (decide (a.natAbs.log2 < 1920) && (decide (b.natAbs.log2 < 1920) && (decide (c.natAbs.log2 < 1920) && true))) = true
    have h1 := log_small ha
    have h2 := log_small hb
    have h3 := log_small hc
    rw [decide_eq_true (by omega), decide_eq_true (by omega), decide_eq_true (by omega)]; rfl
  · have h := listText_len_le [(PyData.int a).shown, (PyData.int b).shown, (PyData.int c).shown, (PyData.bool true).shown]
    have h1 := len_int ha
    have h2 := len_int hb
    have h3 := len_int hc
    have h4 : (PyData.bool true).shown.length = 4 := rfl
    have e : ([(PyData.int a).shown, (PyData.int b).shown, (PyData.int c).shown, (PyData.bool true).shown].map (·.length)).sum = (PyData.int a).shown.length + ((PyData.int b).shown.length + ((PyData.int c).shown.length + ((PyData.bool true).shown.length + 0))) := rfl
    have e2 : [(PyData.int a).shown, (PyData.int b).shown, (PyData.int c).shown, (PyData.bool true).shown].length = 4 := rfl
    rw [e, e2] at h
    show (listText _).length ≤ sizeLine
    refine Nat.le_trans h ?_
    rw [sizeLine_eq]
    omega
theorem eqb_four (a b c : Int) : Eqb (.list [.int a, .int b, .int c, .bool true]) := ⟨rfl, by show max 0 (max 0 (max 0 (max 0 0))) + 1 ≤ 60; decide⟩
theorem eqv_four (a b c : Int) : PyData.eqv (.list [.int a, .int b, .int c, .bool true]) (.list [.int a, .int b, .int c, .bool true]) = true := by
  simp [PyData.eqv, PyData.eqvAll]
end K79

set_option Elab.async false
set_option linter.all false
set_option maxRecDepth 100000
set_option maxHeartbeats 4000000
/-! the law -/
namespace K79
open PySem PySem.Spec PyProof.Rows L2
abbrev lawN : List Str := ["_law_script", "_law_bag_here", "_law_hall", "_law_told", "_law_gain_here", "_law_index", "_law_found", "_law_nexts", "_law_at", "_law_arc", "_law_many", "_law_arcs_here", "_law_other", "_law_slower", "_law_own", "_law_again"]
theorem eqb_iDs (l : List Nat) : Eqb (.list (l.map iD)) := ⟨plainAll_map (fun _ => rfl) l, by
  show PyData.depthAll _ + 1 ≤ 60
  have := depthAll_map (g := iD) (k := 0) (fun _ => Nat.le_refl _) l
  omega⟩
theorem eqv_range (m : Nat) : (!PyData.eqv (.list ((List.range m).map iD)) (.list [])) = !decide (m = 0) := by
  cases m with
  | zero => rfl
  | succ m =>
    rw [List.range_succ_eq_map]; rfl
/-- all that the law calls -/
structure Lf (P : Program) (w : World) (K : PySem.W.Frag) (mg : Str → Option Value) (base : Heap) : Prop where
  bag : FB P w K mg base
  slow : FDn P w K mg base "_law_slow" 1 3 pre__law_slow fn__law_slow
  some_ : FDn P w K mg base "_law_some" 2 2 pre__law_some fn__law_some
  verdict : FD P w K mg base "verdict" 1 9 fn_verdict
  paying : FD P w K mg base "_law_is_paying" 2 5 fn__law_is_paying
  walk : FD P w K mg base "is_walk" 2 5 fn_is_walk
  gainO : FD P w K mg base "_law_gain_of" 2 4 fn__law_gain_of
  gain : FD P w K mg base "gain_of" 2 6 fn_gain_of
  index : FD P w K mg base "index_of" 2 3 fn_index_of
  ticks : FD P w K mg base "ticks_of" 2 5 fn_ticks_of
  isV : FD P w K mg base "is_verdict" 2 8 fn_is_verdict
  pace : FD P w K mg base "_law_pace" 1 2 fn__law_pace
  alike : FDG P w K mg base "_law_alike" 2 1 fn__law_alike
  isL : FD P w K mg base "_law_is_verdict" 2 6 fn__law_is_verdict
  paced : FD P w K mg base "_law_paced" 2 1 fn__law_paced
  gains : FD P w K mg base "_law_gains" 2 3 fn__law_gains
section
variable {P : Program} {w : World} {K : PySem.W.Frag} {mg : Str → Option Value} {base : Heap}
abbrev lawR : List Stmt := (defBody s_law).drop 1
theorem law_rest (L : Lf P w K mg base) {f : Addr} {cdv : Value} {A : Around} {outer : List PySem.Env} {s : Shared} {H : Hp} {E : XK} (gA : (bx P w K mg base lawN "law" s_law f cdv A outer s H E).A.guards = some []) (hr : Room 9 (bx P w K mg base lawN "law" s_law f cdv A outer s H E).A) (G : Gd (bx P w K mg base lawN "law" s_law f cdv A outer s H E)) :
    SD (bx P w K mg base lawN "law" s_law f cdv A outer s H E) lawR [dZ, dD bagD, dZ, dZ, dZ, dZ, dZ, dZ, dZ, dZ, dZ, dZ, dZ, dZ, dZ, dZ] { nx := fun _ => False, rt := fun d => d = .bool true } := by
  have hN : lawN.Nodup := by decide
  have F_verdict := L.verdict
  have F__law_is_paying := L.paying
  have F_is_walk := L.walk
  have F__law_gain_of := L.gainO
  have F_gain_of := L.gain
  have F_index_of := L.index
  have F_ticks_of := L.ticks
  have F_is_verdict := L.isV
  have F__law_pace := L.pace
  have F__law_is_verdict := L.isL
  have F__law_paced := L.paced
  have F__law_gains := L.gains
  refine sd_cons (s_setN 2 (we_callN L.slow (room_le hr) (ea_cons (ed_var 1 rfl) ea_nil) rfl) hN fun d ⟨p, ex, room, wa, hp, hx, hrm, hw, ed⟩ => ?_)
  subst ed
  have fam := fam_of hp hx hrm hw
  have hp2 : p ≤ 98 ∧ 0 < p := by simp at hp; omega
  have hx2 : ex ≤ 2 := by simp at hx; omega
  clear hp hx hrm hw
  obtain ⟨ok, live, llive, told, gain, hml, fast, hrl⟩ := fam
  generalize hm : manyOf p ex room = m at *
  have okc : ∀ j, j ≤ m → WOk (mkHall p ex room wa) .cap (tour wa j) := fun j hj => wok_tour ok (by omega)
  have lwc : ∀ j, j ≤ m → LW (mkHall p ex room wa) .cap (tour wa j) ((j + 1) * (p + ex)) (j + room) := fun j hj => lw_tour ok (by omega)
  have hpc : (mkHall p ex room wa).pace = p := pace_mk p ex room wa
  have hfin : (mkHall p ex room wa).fin (.down (capAt wa)) = .fill := fin_down p ex room wa
  have hpm : ∀ j, j ≤ m → (j + 1) * (p + ex) ≤ 500100 ∧ p * (j + room) ≤ 499900 := fun j hj => ⟨Nat.le_trans (Nat.mul_le_mul (show j + 1 ≤ 5001 by omega) (show p + ex ≤ 100 by omega)) (by decide), Nat.le_trans (Nat.mul_le_mul (show p ≤ 98 by omega) (show j + room ≤ 5100 by omega)) (by decide)⟩
  refine sd_cons (s_set 3 (we_call F_verdict (room_le hr) (ea_cons (ed_var 2 rfl) ea_nil) ⟨_, _, rfl, rfl, told⟩) hN ?_)
  have pay : ∀ j, (((j + 1) * (p + ex) : Nat) : Int) - ((mkHall p ex room wa).pace : Int) * ((j + room : Nat) : Int) = gainJ p ex room j := fun j => by rw [hpc]; rfl
  refine sd_cons (s_if (u := false) (et_cast (et_w (ew_or (et_of (ed_neS (x := "waits") (ed_ix (eq_t (ed_var 3 rfl)) ed_int rfl) ed_str)) fun _ => ew_or (et_not (et_val (we_call F__law_is_paying (room_le hr) (ea_cons (ed_var 2 rfl) (ea_cons (ed_ix (eq_t (ed_var 3 rfl)) ed_int rfl) ea_nil)) ⟨_, .cap, List.replicate m (.next .cap), .down (capAt wa), _, _, rfl, rfl, lwc m (Nat.le_refl _), by omega, hfin, ends_tour m⟩))) fun _ => ew_or1 (et_of (ed_notB (we_call F_is_walk (room_le hr) (ea_cons (ed_var 2 rfl) (ea_cons (ed_ix (eq_t (ed_var 3 rfl)) ed_int rfl) ea_nil)) ⟨_, .cap, List.replicate m (.next .cap), .down (capAt wa), rfl, rfl, ok, (okc m (Nat.le_refl _)).way, hfin, ends_tour m⟩) ed_bl)))) (by rw [pay, decide_eq_true gain]; rfl)) (fun h => by cases h) fun _ => sd_nil ?_)
  refine sd_cons (s_asg (we_call F__law_gain_of (room_le hr) (ea_cons (ed_var 2 rfl) (ea_cons (ed_ix (eq_t (ed_var 3 rfl)) ed_int rfl) ea_nil)) ⟨_, .cap, tour wa m, _, _, rfl, rfl, lwc m (Nat.le_refl _), by omega⟩) (gt_of (gd_tup G.calm (gds_cons (gd_name 4 hN) (gds_cons (gd_name 5 hN) gds_nil)) rfl)) ?_)
  have hle := Nat.le_refl m
  have hIp : ((m + room : Nat) : Int) * ((mkHall p ex room wa).pace : Int) = ((p * (m + room) : Nat) : Int) := by rw [hpc, Int.mul_comm, Int.natCast_mul]
  have hg1 : (mkHall p ex room wa).gain (tour wa m) = (((m + 1) * (p + ex) : Nat) : Int) - ((m + room : Nat) : Int) * ((mkHall p ex room wa).pace : Int) := by
    rw [gain_tour, hIp, Int.natCast_mul p]; rfl
  have hb := hpm m hle
  refine sd_cons (s_setL (ds := [.int ((((m + 1) * (p + ex) : Nat) : Int) - ((m + room : Nat) : Int) * ((mkHall p ex room wa).pace : Int)), iD (m + room), .int ((((m + 1) * (p + ex) : Nat) : Int) - ((m + room : Nat) : Int) * ((mkHall p ex room wa).pace : Int) + ((m + room : Nat) : Int) * ((mkHall p ex room wa).pace : Int)), .bool true]) 6 (en_c ?_ (en_lst (ea_cons (we_call F_gain_of (room_le hr) (ea_cons (ed_var 2 rfl) (ea_cons (ed_ix (eq_t (ed_var 3 rfl)) ed_int rfl) ea_nil)) ⟨_, .cap, tour wa m, rfl, rfl, okc m hle⟩) (ea_cons (we_call F_index_of (room_le hr) (ea_cons (ed_var 2 rfl) (ea_cons (ed_ix (eq_t (ed_var 3 rfl)) ed_int rfl) ea_nil)) ⟨_, .cap, tour wa m, rfl, rfl, ok, (okc m hle).way.ok, (okc m hle).way.ln⟩) (ea_cons (we_call F_ticks_of (room_le hr) (ea_cons (ed_var 2 rfl) (ea_cons (ed_ix (eq_t (ed_var 3 rfl)) ed_int rfl) ea_nil)) ⟨_, .cap, tour wa m, rfl, rfl, okc m hle⟩) (ea_cons (we_call F_is_verdict (room_le hr) (ea_cons (ed_var 2 rfl) (ea_cons (ed_var 3 rfl) ea_nil)) ⟨_, .cap, List.replicate m (.next .cap), .down (capAt wa), rfl, rfl, okc m hle, live, hfin, ends_tour m⟩) ea_nil)))) (Nat.le_of_ble_eq_true rfl))) hN ?_)
  · have e4 : decide (0 < (mkHall p ex room wa).gain (List.replicate m (.next .cap) ++ [.down (capAt wa)])) = true := decide_eq_true (by rw [show List.replicate m (.next .cap) ++ [.down (capAt wa)] = tour wa m from rfl, gain_tour]; exact gain)
    rw [e4, hg1, idx_tour, ticks_tour, show (((m + 1) * (p + ex) : Nat) : Int) - ((m + room : Nat) : Int) * ((mkHall p ex room wa).pace : Int) + ((m + room : Nat) : Int) * ((mkHall p ex room wa).pace : Int) = (((m + 1) * (p + ex) : Nat) : Int) by omega]
  refine sd_frzL (i := 6) rfl ?_
  refine sd_cons (s_if (u := false) (et_cast (et_not (et_val (we_callG L.alike gA (room_le hr) (ea_cons (ed_var 6 rfl) (ea_cons (ed_new (en_lst (ea_cons (ed_var 4 rfl) (ea_cons (ed_var 5 rfl) (ea_cons (ed_add (ed_var 4 rfl) (ed_mul (ed_var 5 rfl) (we_call F__law_pace (room_le hr) (ea_cons (ed_var 2 rfl) ea_nil) ⟨_, rfl, rfl, ok⟩) (by left; constructor <;> omega))) (ea_cons ed_bl ea_nil)))) (Nat.le_of_ble_eq_true rfl))) ea_nil)) ⟨_, rfl, rfl, shw_four (by rw [hIp]; omega) (by omega) (by rw [hIp]; omega), eqb_four _ _ _, eqv_four _ _ _⟩))) rfl) (fun h => by cases h) fun _ => sd_nil ?_)
  have hil : (idxs 0 (tour wa m)).length ≤ 1000000 := by rw [idxs_len, tour_len]; omega
  refine sd_cons (s_setL (ds := (List.range m).map iD) 7 (en_c (idxs_next (capAt wa) m 0) (en_lcf (gd := gIdx) (ds := idxs 0 (tour wa m)) [("_law_at", 8), ("_law_arc", 9)] (fun q => isNext q.2) (fun q => iD q.1) (fun q => [(8, iD q.1), (9, q.2.d)]) G hN (EI.cast (ei_enum G (ed_ix (eq_t (ed_ix (eq_t (ed_var 3 rfl)) ed_int rfl)) ed_int rfl)) (enum_idxs 0 _)) (blk_ok rfl) hil (fun d u hu => by simp at hu; rcases hu with rfl | rfl <;> simp) (fun s H C cl fp d hd => gd_tup (G.blk _ _ _ _ _).calm (gds_cons (gd_name 8 hN) (gds_cons (gd_name 9 hN) gds_nil)) rfl)
    (fun s H C cl fp q hd => ets_one (et_cast (et_of (ed_eqS (x := q.2.w) (ed_ix (eq_t (ed_var 9 rfl)) ed_int rfl) ed_str)) (isNext_dec q.2))) (fun s H C cl fp q hd _ => (ed_var 8 rfl)))) hN ?_)
  refine sd_frzL (i := 7) rfl ?_
  refine sd_cut (ρ1 := [dZ, dD bagD, dD (mkHall p ex room wa).d, dD (.tuple [.str "waits", wayD .cap (tour wa m)]), dD (.int ((((m + 1) * (p + ex) : Nat) : Int) - ((m + room : Nat) : Int) * ((mkHall p ex room wa).pace : Int))), dD (iD (m + room)), dD (.list [.int ((((m + 1) * (p + ex) : Nat) : Int) - ((m + room : Nat) : Int) * ((mkHall p ex room wa).pace : Int)), iD (m + room), .int ((((m + 1) * (p + ex) : Nat) : Int) - ((m + room : Nat) : Int) * ((mkHall p ex room wa).pace : Int) + ((m + room : Nat) : Int) * ((mkHall p ex room wa).pace : Int)), .bool true]), dD (.list ((List.range m).map iD)), dZ, dZ, dZ, dZ, dZ, dZ, dZ, dZ])
    (s_if (u := !decide (m = 0)) (et_cast (et_of (ed_ne G (ef_ed (ed_var 7 rfl)) (ef_el (el_new (en_lst ea_nil (Nat.zero_le _)))) (eqb_iDs _) eqb_nilL)) (eqv_range m)) (fun hu => ?_) (fun _ => sd_nil rfl)) ?_
  · have hm0 : 1 ≤ m := by
      have : ¬ m = 0 := by simpa using hu
      omega
    refine sd_cons (s_setN 10 (we_callN L.some_ (room_le hr) (ea_cons (ed_var 1 rfl) (ea_cons (ed_new (en_lst (ea_cons ed_int (ea_cons (ed_min G (ed_len G (eq_l (ed_var 7 rfl))) ed_int) ea_nil)) (Nat.le_of_ble_eq_true rfl))) ea_nil)) ⟨_, rfl, by show 0 < 2; decide, by show 2 ≤ 1000; decide⟩) hN fun d hd => ?_)
    obtain ⟨j, hj, rfl⟩ : ∃ j : Nat, j ≤ m ∧ d = iD j := by
      obtain ⟨ds, e, hd⟩ := hd
      cases e
      rw [List.length_map, List.length_range] at hd
      rcases List.mem_cons.mp hd with e | e
      · exact ⟨1, hm0, e⟩
      · have e := List.mem_singleton.mp e
        exact ⟨min m 3, Nat.min_le_left _ _, by rw [e]; exact congrArg PyData.int (by omega)⟩
    have hmj : m - j ≤ m := Nat.sub_le _ _
    have elist : ((idxs 0 (tour wa m)).filter fun q => decide (j ≤ q.1)).map (fun q => q.2.d) = (tour wa (m - j)).map Arc.d := by
      rw [← tour_drop wa hj, show j = j - 0 from rfl, ← idxs_ge, List.map_map]; rfl
    refine sd_cons (s_set (d := .tuple ((tour wa (m - j)).map Arc.d)) 11 (ed_c (congrArg PyData.tuple elist) (ed_tupL G (el_new (en_lcf (gd := gIdx) (ds := idxs 0 (tour wa m)) [("_law_at", 8), ("_law_arc", 9)] (fun q => decide (j ≤ q.1)) (fun q => q.2.d) (fun q => [(8, iD q.1), (9, q.2.d)]) G hN (EI.cast (ei_enum G (ed_ix (eq_t (ed_ix (eq_t (ed_var 3 rfl)) ed_int rfl)) ed_int rfl)) (enum_idxs 0 _)) (blk_ok rfl) hil (fun d u hu => by simp at hu; rcases hu with rfl | rfl <;> simp) (fun s H C cl fp d hd => gd_tup (G.blk _ _ _ _ _).calm (gds_cons (gd_name 8 hN) (gds_cons (gd_name 9 hN) gds_nil)) rfl)
      (fun s H C cl fp q hd => ets_one (et_cast (et_of (ed_notIn (G.blk _ _ _ _ _) (ef_ed (ed_var 8 rfl)) (eq_el (el_new (en_slice (el_ed (ed_var 7 rfl)) eo_none (eo_some (i := (j : Int)) (ed_var 10 rfl))))) (eqb_int _) (by rw [cut_range hj]; exact plainAll_map (fun _ => rfl) _))) (by rw [cut_range hj]; exact any_range j q.1))) (fun s H C cl fp q hd _ => (ed_var 9 rfl)))))) hN ?_)
    refine sd_cons (s_set (d := .tuple [.str "waits", wayD .cap (tour wa (m - j))]) 12 (ed_tup (ea_cons ed_str (ea_cons (ed_tup (ea_cons (ed_ix (eq_t (ed_ix (eq_t (ed_var 3 rfl)) ed_int rfl)) ed_int rfl) (ea_cons (ed_var 11 rfl) ea_nil)) (Nat.le_of_ble_eq_true rfl)) ea_nil)) (Nat.le_of_ble_eq_true rfl)) hN ?_)
    refine sd_cons (s_if (u := false) (et_cast (et_not (et_val (we_callG L.alike gA (room_le hr) (ea_cons (ed_c (d2 := .bool (decide (0 < gainJ p ex room (m - j)))) (by rw [show List.replicate (m - j) (.next .cap) ++ [.down (capAt wa)] = tour wa (m - j) from rfl, gain_tour]) (we_call F_is_verdict (room_le hr) (ea_cons (ed_var 2 rfl) (ea_cons (ed_var 12 rfl) ea_nil)) ⟨_, .cap, List.replicate (m - j) (.next .cap), .down (capAt wa), rfl, rfl, okc (m - j) hmj, live, hfin, ends_tour (m - j)⟩)) (ea_cons (ed_c (d2 := .bool (decide (0 < gainJ p ex room (m - j)))) (by rw [pay]) (we_call F__law_is_verdict (room_le hr) (ea_cons (ed_var 2 rfl) (ea_cons (ed_var 12 rfl) ea_nil)) ⟨_, _, _, rfl, rfl, ok, llive, .waits (as := List.replicate (m - j) (.next .cap)) (a := .down (capAt wa)) (lwc (m - j) hmj) (by omega) hfin (ends_tour (m - j))⟩)) ea_nil)) ⟨_, rfl, rfl, .bl _, ⟨rfl, Nat.zero_le _⟩, by simp [PyData.eqv]⟩))) rfl) (fun h => by cases h) fun _ => sd_nil (sd_endL [10, 11, 12] rfl))
  · obtain ⟨dh, g, vd, lv, okf, llf, hg⟩ := fast
    refine sd_cons (s_set 13 (we_call F__law_paced (room_le hr) (ea_cons (ed_var 2 rfl) (ea_cons (ed_c (d2 := iD (p + 2)) (by rw [hpc]; rfl) (ed_add (we_call F__law_pace (room_le hr) (ea_cons (ed_var 2 rfl) ea_nil) ⟨_, rfl, rfl, ok⟩) ed_int)) ea_nil)) ⟨_, p + 2, rfl, rfl, ok⟩) hN ?_)
    refine sd_cons (s_set 14 (we_call F__law_gains (room_le hr) (ea_cons (ed_var 13 rfl) (ea_cons ed_int ea_nil)) ⟨_, g, rfl, rfl, okf, hg⟩) hN ?_)
    refine sd_cons (s_if (u := false) (et_cast (et_of (ed_eqS (x := "holds") (ed_ix (eq_t (ed_var 14 rfl)) ed_int rfl) ed_str)) (by decide)) (fun h => by cases h) fun _ => sd_nil ?_)
    refine sd_cons (s_set 15 (we_call F_verdict (room_le hr) (ea_cons (ed_var 13 rfl) ea_nil) ⟨_, _, rfl, rfl, vd⟩) hN ?_)
    exact sd_one (s_ret (ed_and (ed_eqS (x := "holds") (y := "holds") (ed_ix (eq_t (ed_var 15 rfl)) ed_int rfl) (ed_ix (eq_t (ed_var 14 rfl)) ed_int rfl)) fun _ => ed_one (we_call F__law_is_verdict (room_le hr) (ea_cons (ed_var 13 rfl) (ea_cons (ed_var 15 rfl) ea_nil)) ⟨_, _, _, rfl, rfl, okf, llf, lv⟩)) (by rw [decide_eq_true rfl]; rfl))
end
end K79


set_option Elab.async false
set_option linter.all false
set_option maxRecDepth 100000
set_option maxHeartbeats 4000000
/-! the law from the script; the law's call -/
namespace K79
open PySem PySem.Spec PyProof.Rows L2
def spLaw (K : PySem.W.Frag) : Sp := fun vs H Q _ => ∃ (a : Addr) (ns : List Int), vs = [.ref a] ∧ SqL K H a (ns.map V.int) ∧ ns.length ≤ 1000 ∧ ∀ H', Q (.bl true) H'
theorem hide_no {H : Hp} : hide (fun _ => false) H = H := by
  funext a
  exact hide_at rfl
section
variable {P : Program} {w : World} {K : PySem.W.Frag} {mg : Str → Option Value} {base : Heap}
theorem fg_law (M : Md mg) (L : Lf P w K mg base) {f : Addr} {fd : FuncData} (F : FunD K "law" "law" (defArgs s_law) (defBody s_law) (defScope s_law) [] [] f fd) : FnG P w K mg base 10 f fd ["_law_script"] (spLaw K) := by
  have S : FnScope lawN ["_law_script"] (defScope s_law) := ⟨rfl, rfl, rfl, by decide, rfl, by decide, by decide⟩
  refine fg_of F S (fun vs H Q E h => ?_) (fun cdv A outer s H vs Q E gA room h => ⟨_, PSs.nox pw_ss, ?_⟩)
  · obtain ⟨a, ns, rfl, _⟩ := h; rfl
  · obtain ⟨a, ns, rfl, hS, hl, hQ⟩ := h
    obtain ⟨fb, fdb, Fb, gb, kb, bb⟩ := L.bag.ex
    have G : Gd (bx P w K mg base lawN "law" s_law f cdv A outer s H E) := ⟨rfl, by have := room.un; exact (by omega : (A.deeper (envOfC "law" (defScope s_law) s.heap.objs.size f cdv)).units + 180 < cLine), M.len, M.range, M.tuple, M.list, M.int, M.str, M.bool, M.dict, M.isi, M.sum, M.min, M.max, M.sorted, M.all, M.any, M.zip, M.enum, M.abs, M.repr⟩
    refine wss_of (pss_cons (ps_set (i := 1) S.nd rfl (.inl rfl) (pe_call Fb (room.mono (by decide)) (by rfl) gb kb bb .nil pass0 (pa_cons (pv 0) pa_nil))) pw_ss) ?_
    refine ⟨.ref a, rfl, a, ns, rfl, hS, hl, fun v H' ex hv => ?_⟩
    have kb : KB H' (fun _ => false) H' (fun _ => false) H' := ⟨.rfl', fun _ h => h, fun _ h => (by cases h), .rfl', fun _ h => (by cases h), fun _ h => (by cases h)⟩
    have r0 : RS P w (fun _ => false) (fun _ => false) H' (L2.start lawN [.ref a]) (List.replicate 16 none) :=
      { len := rfl
        at_ := fun i pv e => by
          rw [List.getElem?_replicate] at e
          split at e <;> cases e
        apart := fun i j pv qv p q ne e1 => by
          rw [List.getElem?_replicate] at e1
          split at e1 <;> cases e1 }
    have r1 := r0.setD (i := 1) (d := bagD) (v := v) (by rw [hide_no]; exact hv)
    have z := law_rest L (f := f) (cdv := cdv) (A := A) (outer := outer) (s := s) (H := H) (E := E) gA room G H' (fun _ => false) H' (fun _ => false) H' _ kb r1
    refine wss_mono (D := lift (bx P w K mg base lawN "law" s_law f cdv A outer s H E) H' (fun _ => false) H' { nx := fun _ => False, rt := fun d => d = .bool true }) ⟨fun σ' H2 ⟨O', ρ', k', r', e⟩ => e.elim, fun v2 H2 ⟨e, d', hd, e2⟩ => ?_, fun _ _ h => ?_, fun _ _ h => ?_⟩ z
    · subst e2
      cases hd
      exact hQ H2
    · obtain ⟨_, _, _, _, h⟩ := h; exact h.elim
    · obtain ⟨_, _, _, _, h⟩ := h; exact h.elim
end
end K79

set_option Elab.async false
set_option linter.all false
set_option maxRecDepth 100000
set_option maxHeartbeats 4000000
/-! the law's call from outside, where nothing guards -/
namespace K79
open PySem PySem.Spec PyProof.Rows L2
/-- what is asked of the law's call -/
def Out (s : Shared) (r : Result) (s' : Shared) : Prop := r = .ok (.ret (.bool true)) ∧ OldK s.heap s'.heap ∧ s'.os = s.os ∧ AllBare s'.gens
section
variable {P : Program} {w : World} {K : PySem.W.Frag} {mg mb : Str → Option Value} {k : Nat} {fa a : Addr} {fd : FuncData} {x : Str} {s : Shared} {vs : List Value} {ns : List Int}
/-- at most the script's object is tracked -/
theorem call_core {H : Hp} (inK : K.In s.heap) (glob : s.heap.Ns mainGlobals mg) (blt : s.heap.Ns builtinsNs mb) (boot : ∀ y : Str, y ≠ "__name__" → mb y = bootBuiltins y) (nolim : s.heap.NoLimit) (nogen : s.gens = #[])
    (obj : s.heap.get? a = some { cls := .type "list", data := .seq vs.toArray }) (intz : IntsAre vs ns) (short : ns.length ≤ 63) (room : Room k callerA)
    (F : ∀ base : Heap, K.In base → base.Ns mainGlobals mg → FnG P w K mg base k fa fd [x] (spLaw K)) (binds : ∀ (s : Shared) (u : Value), BindsTo s fd ⟨[u], []⟩ [(x, u)])
    (only : ∀ b, H b = none ∨ ∃ o xs, H b = some (.frz o (.lst xs))) (seq : SqL K H a (ns.map V.int)) (held : L2.HOk P w H s.heap) (just : ∀ b, b ≠ a → H b = none) (apart : H a = none ∨ K.lookup a = none) :
    codeAny (model P w) callerA (.call (.ref fa) ⟨[.ref a], []⟩) (Out s) s := by
  have ns_ne : ∀ {b : Addr} {m : Str → Option Value}, s.heap.Ns b m → b ≠ a := fun {b m} ⟨o, es, ep, e, d, _⟩ z => by
    subst z
    rw [obj] at e
    cases e
    cases d
  have nsB : ∀ {b : Addr} {m : Str → Option Value}, s.heap.Ns b m → (hidT s.heap H).Ns b m := fun {b m} h => by
    have hne := just b (ns_ne h)
    obtain ⟨o, es, ep, e, d, r⟩ := h
    exact ⟨o, es, ep, hidT_get e hne, d, r⟩
  have inB : K.In (hidT s.heap H) := fun b o e => hidT_get (inK b o e) (by
    by_cases z : b = a
    · subst z
      exact apart.resolve_right (fun q => by rw [q] at e; cases e)
    · exact just b z)
  obtain ⟨mc, lim1, lim2⟩ := nolim
  have around : Env0 P w K mg (hidT s.heap H) callerA [] s H :=
    { frames := rfl
      mod := ⟨inB, nsB glob, ⟨mb, nsB blt, boot⟩, ⟨mc, nsB lim1, lim2⟩⟩
      bs := fun b o e => of_hidT e
      bsz := Nat.le_of_eq (hidT_size s.heap H)
      funs := trivial
      frf := fun b hb => nomatch hb
      hok := held
      bare := .of_eq nogen }
  have prom : spLaw K [.ref a] H (fun v _ => v = .bl true) fun _ _ _ => False := ⟨a, ns, rfl, seq, by omega, fun _ => rfl⟩
  refine codeAny_mono ((F (hidT s.heap H) inB (nsB glob)).run callerA [] s H ⟨[.ref a], []⟩ [.ref a] [.ref a] _ _ rfl room around (binds s (.ref a)) (.cons rfl .nil) prom) fun r s' post => ?_
  match r, post with
  | .ok .next, post => exact False.elim post
  | .ok .brk, post => exact False.elim post
  | .ok .cont, post => exact False.elim post
  | .error e, post => exact False.elim post
  | .ok (.ret u), ⟨v, H', os, bare, un, held', rel, isT⟩ =>
    have isT : v = .bl true := isT
    subst isT
    have hu : u = .bool true := rel
    subst hu
    refine ⟨rfl, OldK.of_keep fun b o e => ?_, os, bare⟩
    rcases only b with z | ⟨ob, xs, z⟩
    · exact un.keep b o e z (fun q => nomatch q) (fun q => nomatch q)
    · have e1 := (held b _ z).1
      have e2 := (held' b _ (un.frzs b ob _ z)).1
      rw [e] at e1
      cases e1
      exact e2
theorem call_law (inK : K.In s.heap) (glob : s.heap.Ns mainGlobals mg) (blt : s.heap.Ns builtinsNs mb) (boot : ∀ y : Str, y ≠ "__name__" → mb y = bootBuiltins y) (nolim : s.heap.NoLimit) (nogen : s.gens = #[])
    (obj : s.heap.get? a = some { cls := .type "list", data := .seq vs.toArray }) (intz : IntsAre vs ns) (short : ns.length ≤ 63) (room : Room k callerA)
    (F : ∀ base : Heap, K.In base → base.Ns mainGlobals mg → FnG P w K mg base k fa fd [x] (spLaw K)) (binds : ∀ (s : Shared) (u : Value), BindsTo s fd ⟨[u], []⟩ [(x, u)]) : codeAny (model P w) callerA (.call (.ref fa) ⟨[.ref a], []⟩) (Out s) s := by
  have rv := vals_ints intz
  have hz : ns.length ≤ sizeLine := by rw [sizeLine_eq]; omega
  cases hk : K.lookup a with
  | none =>
    let o : Obj := { cls := .type "list", data := .seq vs.toArray }
    have here : upd (fun _ => none) a (.frz o (.lst (ns.map V.int))) a = some (.frz o (.lst (ns.map V.int))) := upd_same
    have other : ∀ b, b ≠ a → upd (fun _ => none) a (.frz o (.lst (ns.map V.int))) b = none := fun b h => upd_ne h
    refine call_core inK glob blt boot nolim nogen obj intz short room F binds (fun b => ?_) (.inl (.inr ⟨o, here⟩)) (fun b u e => ?_) other (.inr hk)
    · by_cases z : b = a
      · subst z; exact .inr ⟨_, _, here⟩
      · exact .inl (other b z)
    · by_cases z : b = a
      · subst z
        rw [here] at e
        cases e
        exact ⟨obj, by rw [List.length_map]; exact hz, vs, _, rv, obj⟩
      · rw [other b z] at e; cases e
  | some o =>
    have e := inK a o hk
    rw [obj] at e
    cases e
    exact call_core (H := fun _ => none) inK glob blt boot nolim nogen obj intz short room F binds (fun b => .inl rfl) (.inr ⟨_, vs.toArray, _, hk, rfl, rfl, rfl, by rw [List.size_toArray, intz.length]; exact hz, by simpa using rv⟩) (fun b u z => nomatch z) (fun _ _ => rfl) (.inl rfl)
end
/-- the law over its head: F gives the written part, the function object, the promise over every base -/
theorem walk_law {l : PySem.W.OpenLaw} {k : Nat} {q : Program} {loose : List Str} {XP : (Str → Option Value) → Heap → Prop} {YP : World → Heap → Prop} {d : DefRec} {x : Str} (hn : l.most = some 63) (hdf : d.params.defaults = []) (room : Room k callerA)
    (F : ∀ (w : World) (mg : Str → Option Value) (fa : Addr) (h : Heap), YP w h → h.Ns mainGlobals mg → mg d.name = some (.ref fa) →
      ∃ (K : PySem.W.Frag) (fd : FuncData), K.In h ∧ (∀ (s : Shared) (u : Value), BindsTo s fd ⟨[u], []⟩ [(x, u)]) ∧ ∀ base : Heap, K.In base → base.Ns mainGlobals mg → FnG l.prog w K mg base k fa fd [x] (spLaw K)) :
    PySem.W.WalkO q loose XP YP l.row.toRowW d [] (fun f vs => PySem.call f vs) := by
  refine Att.attach_call hn hdf ?_
  intro w s0 s1 mg mb fa o pm cd doc a vs ns G Y ho hd hcd hmg hobj hints hlen hgen
  obtain ⟨K, fd, inK, binds, walk⟩ := F w mg fa _ Y G.T.g hmg
  exact call_law inK G.T.g G.T.b G.T.builtins G.T.nolimit hgen hobj hints hlen room walk binds
end K79

set_option Elab.async false
set_option linter.all false
set_option maxRecDepth 100000
set_option maxHeartbeats 4000000
/-! every def keeps its promise -/
namespace K79
open PySem PySem.Spec PyProof.Rows L2
section
variable {P : Program} {w : World} {K : PySem.W.Frag} {mg : Str → Option Value} {base : Heap}
theorem dn_of {h : Heap} (X : K.In h) (G : h.Ns mainGlobals mg) (c : He.SaysD faList fnList K) (i : Nat) {d : He.DefD} (e : fnList[i]? = some d := by rfl) (e2 : faList[i]? = some (.glo d.at_.1) := by rfl) (e3 : d.at_.2 = none := by rfl) (e4 : d.dfl = [] := by rfl) (e5 : d.kwd = [] := by rfl) : Dn K mg d where
  fn := by
    obtain ⟨fd, F⟩ := c.def_ i e
    have h1 : d.dvs K = [] := by unfold He.DefD.dvs; rw [e4]; rfl
    have h2 : d.kws K = [] := by unfold He.DefD.kws; rw [e5]; rfl
    rw [h1, h2] at F
    exact ⟨fd, F⟩
  glo := by
    have g := He.glo_ok X G (c.fact i e2)
    unfold He.fAd
    rw [e3]
    exact g
theorem lf_of (M : Md mg) (D : ∀ (i : Nat) (d : He.DefD), fnList[i]? = some d → faList[i]? = some (.glo d.at_.1) → d.at_.2 = none → d.dfl = [] → d.kwd = [] → Dn K mg d) : Lf P w K mg base := by
  have F_names_of := p_names_of (P := P) (w := w) (base := base) M (D 0 _ rfl rfl rfl rfl rfl)
  have F_machine_of := p_machine_of (P := P) (w := w) (base := base) M (D 1 _ rfl rfl rfl rfl rfl)
  have F_time_of := p_time_of (P := P) (w := w) (base := base) M (D 2 _ rfl rfl rfl rfl rfl) F_machine_of
  have F_purses_of := p_purses_of (P := P) (w := w) (base := base) M (D 3 _ rfl rfl rfl rfl rfl) F_machine_of
  have F_pace_of := p_pace_of (P := P) (w := w) (base := base) M (D 4 _ rfl rfl rfl rfl rfl) F_time_of
  have F_does_end := p_does_end (P := P) (w := w) (base := base) M (D 10 _ rfl rfl rfl rfl rfl)
  have F_arcs_of := p_arcs_of (P := P) (w := w) (base := base) M (D 6 _ rfl rfl rfl rfl rfl) F_names_of
  have F_start_of := p_start_of (P := P) (w := w) (base := base) M (D 7 _ rfl rfl rfl rfl rfl)
  have F_end_of := p_end_of (P := P) (w := w) (base := base) M (D 8 _ rfl rfl rfl rfl rfl)
  have F_growth_of := p_growth_of (P := P) (w := w) (base := base) M (D 9 _ rfl rfl rfl rfl rfl)
  have F_arcs_from := p_arcs_from (P := P) (w := w) (base := base) M (D 11 _ rfl rfl rfl rfl rfl) F_arcs_of F_start_of
  have F_is_integer := p_is_integer (P := P) (w := w) (base := base) M (D 12 _ rfl rfl rfl rfl rfl)
  have F_is_count := p_is_count (P := P) (w := w) (base := base) M (D 13 _ rfl rfl rfl rfl rfl) F_is_integer
  have F_is_row_forms := p_is_row_forms (P := P) (w := w) (base := base) M (D 14 _ rfl rfl rfl rfl rfl)
  have F_is_name := p_is_name (P := P) (w := w) (base := base) M (D 15 _ rfl rfl rfl rfl rfl)
  have F_is_arc := p_is_arc (P := P) (w := w) (base := base) M (D 16 _ rfl rfl rfl rfl rfl) F_is_row_forms F_is_name F_is_count
  have F_is_way := p_is_way (P := P) (w := w) (base := base) M (D 29 _ rfl rfl rfl rfl rfl) F_names_of F_is_arc F_start_of F_end_of
  have F_is_walk := p_is_walk (P := P) (w := w) (base := base) M (D 30 _ rfl rfl rfl rfl rfl) F_is_way F_end_of
  have F_full_state := p_full_state (P := P) (w := w) (base := base) M (D 21 _ rfl rfl rfl rfl rfl)
  have F_behind := p_behind (P := P) (w := w) (base := base) M (D 22 _ rfl rfl rfl rfl rfl) F_growth_of F_end_of F_does_end
  have F_gain_behind := p_gain_behind (P := P) (w := w) (base := base) M (D 25 _ rfl rfl rfl rfl rfl) F_behind F_pace_of F_growth_of
  have F_inner_arcs := p_inner_arcs (P := P) (w := w) (base := base) M (D 23 _ rfl rfl rfl rfl rfl) F_arcs_from F_end_of
  have F_home_arc := p_home_arc (P := P) (w := w) (base := base) M (D 26 _ rfl rfl rfl rfl rfl) F_arcs_from F_end_of F_gain_behind
  have F_still_arcs := p_still_arcs (P := P) (w := w) (base := base) M (D 17 _ rfl rfl rfl rfl rfl) F_arcs_of F_growth_of
  have F_least_back := p_least_back (P := P) (w := w) (base := base) M (D 18 _ rfl rfl rfl rfl rfl) F_still_arcs F_start_of F_end_of
  have F_dead_ring := p_dead_ring (P := P) (w := w) (base := base) M (D 19 _ rfl rfl rfl rfl rfl) F_least_back F_names_of
  have F_is_live := p_is_live (P := P) (w := w) (base := base) M (D 20 _ rfl rfl rfl rfl rfl) F_dead_ring
  have F_states_of := p_states_of (P := P) (w := w) (base := base) M (D 24 _ rfl rfl rfl rfl rfl) F_dead_ring F_full_state F_names_of F_inner_arcs F_behind
  have F_searched := p_searched (P := P) (w := w) (base := base) M (D 27 _ rfl rfl rfl rfl rfl) F_states_of F_full_state F_names_of F_home_arc F_inner_arcs F_gain_behind
  have F_led_back := p_led_back (P := P) (w := w) (base := base) M (D 42 _ rfl rfl rfl rfl rfl)
  have F_round_of := p_round_of (P := P) (w := w) (base := base) M (D 43 _ rfl rfl rfl rfl rfl)
  have F_way_from_full := p_way_from_full (P := P) (w := w) (base := base) M (D 44 _ rfl rfl rfl rfl rfl) F_full_state F_names_of
  have F_gain_along := p_gain_along (P := P) (w := w) (base := base) M (D 45 _ rfl rfl rfl rfl rfl) F_gain_behind
  have F_gains := p_gains (P := P) (w := w) (base := base) M (D 28 _ rfl rfl rfl rfl rfl) F_searched
  have F_ways_home := p_ways_home (P := P) (w := w) (base := base) M (D 34 _ rfl rfl rfl rfl rfl) F_names_of F_arcs_from F_end_of
  have F_way_to_filler := p_way_to_filler (P := P) (w := w) (base := base) M (D 35 _ rfl rfl rfl rfl rfl) F_ways_home
  have F_rounds_walk := p_rounds_walk (P := P) (w := w) (base := base) M (D 46 _ rfl rfl rfl rfl rfl) F_way_from_full F_way_to_filler F_gain_along F_full_state
  have F_paying_walk := p_paying_walk (P := P) (w := w) (base := base) M (D 47 _ rfl rfl rfl rfl rfl) F_searched F_led_back F_rounds_walk F_round_of
  have F_verdict := p_verdict (P := P) (w := w) (base := base) M (D 48 _ rfl rfl rfl rfl rfl) F_gains F_paying_walk
  have F_indexes := p_indexes (P := P) (w := w) (base := base) M (D 31 _ rfl rfl rfl rfl rfl) F_growth_of
  have F_index_of := p_index_of (P := P) (w := w) (base := base) M (D 32 _ rfl rfl rfl rfl rfl) F_indexes
  have F_ended := p_ended (P := P) (w := w) (base := base) M (D 33 _ rfl rfl rfl rfl rfl) F_indexes F_does_end F_start_of
  have F_purse_places := p_purse_places (P := P) (w := w) (base := base) M (D 5 _ rfl rfl rfl rfl rfl)
  have F_grown := p_grown (P := P) (w := w) (base := base) M (D 36 _ rfl rfl rfl rfl rfl) F_purses_of
  have F_stops_of := p_stops_of (P := P) (w := w) (base := base) M (D 37 _ rfl rfl rfl rfl rfl) F_purses_of F_purse_places F_indexes F_start_of F_does_end F_grown F_growth_of
  have F_ticks_with := p_ticks_with (P := P) (w := w) (base := base) M (D 38 _ rfl rfl rfl rfl rfl) F_ended F_purses_of F_time_of
  have F_ticks_of := p_ticks_of (P := P) (w := w) (base := base) M (D 39 _ rfl rfl rfl rfl rfl) F_ticks_with F_stops_of
  have F_gain_of := p_gain_of (P := P) (w := w) (base := base) M (D 40 _ rfl rfl rfl rfl rfl) F_ticks_of F_pace_of F_index_of
  have F_pays := p_pays (P := P) (w := w) (base := base) M (D 41 _ rfl rfl rfl rfl rfl) F_gain_of
  have F_is_verdict := p_is_verdict (P := P) (w := w) (base := base) M (D 49 _ rfl rfl rfl rfl rfl) F_is_live F_is_walk F_pays
  have F__law_full := p__law_full (P := P) (w := w) (base := base) M (D 53 _ rfl rfl rfl rfl rfl)
  have F__law_names := p__law_names (P := P) (w := w) (base := base) M (D 54 _ rfl rfl rfl rfl rfl)
  have F__law_machine := p__law_machine (P := P) (w := w) (base := base) M (D 58 _ rfl rfl rfl rfl rfl)
  have F__law_pace := p__law_pace (P := P) (w := w) (base := base) M (D 59 _ rfl rfl rfl rfl rfl) F__law_machine
  have F__law_arcs := p__law_arcs (P := P) (w := w) (base := base) M (D 55 _ rfl rfl rfl rfl rfl)
  have F__law_led := p__law_led (P := P) (w := w) (base := base) M (D 61 _ rfl rfl rfl rfl rfl) F__law_arcs
  have F__law_behind := p__law_behind (P := P) (w := w) (base := base) M (D 56 _ rfl rfl rfl rfl rfl) F__law_arcs
  have F__law_way_ticks := p__law_way_ticks (P := P) (w := w) (base := base) M (D 57 _ rfl rfl rfl rfl rfl) F__law_full F__law_names F__law_arcs F__law_behind
  have F__law_gain := p__law_gain (P := P) (w := w) (base := base) M (D 67 _ rfl rfl rfl rfl rfl) F__law_way_ticks F__law_pace
  have F__law_gain_of := p__law_gain_of (P := P) (w := w) (base := base) M (D 77 _ rfl rfl rfl rfl rfl) F__law_way_ticks F__law_pace
  have F__law_is_int := p__law_is_int (P := P) (w := w) (base := base) M (D 62 _ rfl rfl rfl rfl rfl)
  have F__law_counts := p__law_counts (P := P) (w := w) (base := base) M (D 63 _ rfl rfl rfl rfl rfl) F__law_is_int
  have F__law_is_arc := p__law_is_arc (P := P) (w := w) (base := base) M (D 64 _ rfl rfl rfl rfl rfl) F__law_names F__law_counts
  have F__law_is_way := p__law_is_way (P := P) (w := w) (base := base) M (D 65 _ rfl rfl rfl rfl rfl) F__law_names F__law_led F__law_is_arc
  have F__law_ends_at := p__law_ends_at (P := P) (w := w) (base := base) M (D 66 _ rfl rfl rfl rfl rfl) F__law_led
  have F__law_is_paying := p__law_is_paying (P := P) (w := w) (base := base) M (D 68 _ rfl rfl rfl rfl rfl) F__law_is_way F__law_ends_at F__law_gain
  have F__law_is_live := p__law_is_live (P := P) (w := w) (base := base) M (D 70 _ rfl rfl rfl rfl rfl) F__law_names F__law_arcs
  have F__law_is_state := p__law_is_state (P := P) (w := w) (base := base) M (D 71 _ rfl rfl rfl rfl rfl) F__law_names F__law_counts
  have F__law_is_table := p__law_is_table (P := P) (w := w) (base := base) M (D 72 _ rfl rfl rfl rfl rfl) F__law_is_state F__law_is_int F__law_names F__law_full F__law_arcs F__law_behind F__law_pace
  have F__law_is_verdict := p__law_is_verdict (P := P) (w := w) (base := base) M (D 73 _ rfl rfl rfl rfl rfl) F__law_is_live F__law_is_table F__law_is_paying
  have F__law_paced := p__law_paced (P := P) (w := w) (base := base) M (D 74 _ rfl rfl rfl rfl rfl)
  have F__law_gains := p__law_gains (P := P) (w := w) (base := base) M (D 75 _ rfl rfl rfl rfl rfl) F__law_names F__law_full F__law_arcs F__law_behind F__law_pace
  have F__law_take := p__law_take (P := P) (w := w) (base := base) M (D 50 _ rfl rfl rfl rfl rfl)
  have F__law_some := p__law_some (P := P) (w := w) (base := base) M (D 51 _ rfl rfl rfl rfl rfl) F__law_take
  have F__law_mixed := p__law_mixed (P := P) (w := w) (base := base) M (D 52 _ rfl rfl rfl rfl rfl) F__law_take
  exact
    { bag := q_law_bag M (D 60 _ rfl rfl rfl rfl rfl)
      slow := p__law_slow M (D 76 _ rfl rfl rfl rfl rfl) F__law_take F__law_some F__law_mixed
      some_ := F__law_some
      verdict := F_verdict
      paying := F__law_is_paying
      walk := F_is_walk
      gainO := F__law_gain_of
      gain := F_gain_of
      index := F_index_of
      ticks := F_ticks_of
      isV := F_is_verdict
      pace := F__law_pace
      alike := p__law_alike M (D 69 _ rfl rfl rfl rfl rfl)
      isL := F__law_is_verdict
      paced := F__law_paced
      gains := F__law_gains }
theorem md_of {h : Heap} (X : K.In h) (G : h.Ns mainGlobals mg) (c : He.SaysD faList fnList K) : Md mg where
  len := He.free_ok X G (c.fact 79 (f := .free "len") rfl)
  range := He.free_ok X G (c.fact 80 (f := .free "range") rfl)
  tuple := He.free_ok X G (c.fact 81 (f := .free "tuple") rfl)
  list := He.free_ok X G (c.fact 82 (f := .free "list") rfl)
  int := He.free_ok X G (c.fact 83 (f := .free "int") rfl)
  str := He.free_ok X G (c.fact 84 (f := .free "str") rfl)
  bool := He.free_ok X G (c.fact 85 (f := .free "bool") rfl)
  dict := He.free_ok X G (c.fact 86 (f := .free "dict") rfl)
  isi := He.free_ok X G (c.fact 87 (f := .free "isinstance") rfl)
  sum := He.free_ok X G (c.fact 88 (f := .free "sum") rfl)
  min := He.free_ok X G (c.fact 89 (f := .free "min") rfl)
  max := He.free_ok X G (c.fact 90 (f := .free "max") rfl)
  sorted := He.free_ok X G (c.fact 91 (f := .free "sorted") rfl)
  all := He.free_ok X G (c.fact 92 (f := .free "all") rfl)
  any := He.free_ok X G (c.fact 93 (f := .free "any") rfl)
  zip := He.free_ok X G (c.fact 94 (f := .free "zip") rfl)
  enum := He.free_ok X G (c.fact 95 (f := .free "enumerate") rfl)
  abs := He.free_ok X G (c.fact 96 (f := .free "abs") rfl)
  repr := He.free_ok X G (c.fact 97 (f := .free "repr") rfl)
  letters := by
    obtain ⟨t, e⟩ := He.str_ok X G (c.fact 99 (f := .str "LETTERS" "abcdefghijklmnopqrstuvwxyz") rfl)
    exact ⟨_, e, t, rfl⟩
  most := by
    obtain ⟨t, e⟩ := He.int_ok X G (c.fact 98 (f := .int "MOST_STATES" 20000) rfl)
    exact ⟨_, e, t, rfl⟩
theorem facts {h : Heap} {f : Addr} (X : K.In h) (G : h.Ns mainGlobals mg) (hfa : mg ("law" : Str) = some (.ref f)) (c : He.SaysD faList fnList K) :
    ∃ fd : FuncData, (∀ (s : Shared) (v : Value), BindsTo s fd ⟨[v], []⟩ [("_law_script", v)]) ∧ ∀ base : Heap, K.In base → base.Ns mainGlobals mg → FnG P w K mg base 10 f fd ["_law_script"] (spLaw K) := by
  obtain ⟨⟨fd, F⟩, g⟩ := dn_of X G c 78 (d := d_law)
  have e := hfa.symm.trans g
  cases e
  have b := FunD.bindsA (ps := ["_law_script"]) F fun _ _ _ _ _ _ us hl => match us, hl with | [_], _ => rfl
  have M := md_of X G c
  exact ⟨fd, fun s v => b s [v] rfl, fun base _ _ => fg_law M (lf_of M fun i d e e2 e3 e4 e5 => dn_of X G c i e e2 e3 e4 e5) F⟩
end
end K79

set_option Elab.async false
set_option linter.all false
set_option maxRecDepth 100000
set_option maxHeartbeats 0
open PySem PySem.W PySem.Calls PyProof.Rows
theorem PySem.Challenge.cw_fillerfed_k79_whole_long_walks_and_great_holds : PySem.Challenge.rw_fillerfed_k79_whole_long_walks_and_great.Holds := by
  w_on; o_law
  refine HandSHeadRun.head_any (r := OpenLaw.row PySem.Challenge.rw_fillerfed_k79_whole_long_walks_and_great) (q := view (OpenLaw.row PySem.Challenge.rw_fillerfed_k79_whole_long_walks_and_great).prog [101]) (H := K79.hk) (ob := K79.ob) (M := 4000) (loose := K79.loose) (d := HandSHeadRun.topDef (OpenLaw.row PySem.Challenge.rw_fillerfed_k79_whole_long_walks_and_great).prog 101) (kwd := []) K79.ob_eq
    (by kernel_rfl) (fun s => by kernel_rfl) K79.run (by kernel_rfl) (by kernel_rfl) (by kernel_rfl) (by rfl) (by first | assumption | decide +kernel) (by decide +kernel) ⟨rfl, rfl, rfl, rfl, rfl, by decide +kernel⟩ ?hw ?hc
  case hw => w_witness2
  case hc =>
    refine K79.walk_law (l := PySem.Challenge.rw_fillerfed_k79_whole_long_walks_and_great) (k := 10) (x := "_law_script") rfl (by kernel_rfl) ⟨rfl, by decide, by decide⟩ ?F
    intro w mg fa h Y G hmg0
    obtain ⟨K, KX, c⟩ := Y
    have hmg : mg ("law" : PySem.Str) = some (.ref fa) := by
      have e : (HandSHeadRun.topDef (OpenLaw.row PySem.Challenge.rw_fillerfed_k79_whole_long_walks_and_great).prog 101).name = ("law" : PySem.Str) := by kernel_rfl
      rw [← e]
      exact hmg0
    obtain ⟨fd, hb, hF⟩ := K79.facts (P := (PySem.Challenge.rw_fillerfed_k79_whole_long_walks_and_great).prog) (w := w) KX G hmg c
    exact ⟨K, fd, KX, hb, hF⟩
