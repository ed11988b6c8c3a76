import PyProof.Rows.All
import Wide.All
import OpenK.AllK
import Wide.FinOn
import KE.KStateDown
import Lean
import HandS.ForMost
import HandS.Defaults
import HandS.Exc
import HandS.Codes
import HandS.Property
import HandS.ClsMeth
import HandS.Star
import HandS.More
import HandS.Head0
import HandS.Head1
import HandS.Head2
import HandS.HeadEnd
import HandS.HeadHook1
import HandS.HeadHook2
import HandS.HeadNt
import HandS.MakeKw
import HandS.IsInst
import HandS.Evl
import KE.KDictKeyed
import KE.KDictDisplayH
import HandS.Conv
import HandS.DictComp
import HandS.SetFor
import HandS.Strs
import HandS.SortInts
import HandS.Deep
import KE.DatumOrd
import HandS.SortRule
import HandS.TupAny
import HandS.SetKeys
import OpenK.KEqL
import KE.KEqDeep
import HandS.Sort
import PySem.Challenge.RW_cabmeters_k89_whole_dearer_meters
set_option Elab.async false
set_option linter.all false
set_option maxRecDepth 100000
set_option maxHeartbeats 0
namespace Cab
open PySem PySem.Spec PyProof.Rows L2
abbrev RL : PySem.W.OpenLaw := PySem.Challenge.rw_cabmeters_k89_whole_dearer_meters
abbrev RR : PySem.W.OpenRow := PySem.W.OpenLaw.row RL
def top (i : Nat) : Stmt := PySem.Challenge.pw_cabmeters_k89_whole_dearer_meters.main.body.getD i (.Pass ⟨0, 0, 0, 0⟩)
abbrev s_is_whole : Stmt := top 18
abbrev s_is_between : Stmt := top 19
abbrev s_is_speed : Stmt := top 20
abbrev s_is_trip : Stmt := top 21
abbrev s_check_trip : Stmt := top 22
abbrev s_number_in : Stmt := top 23
abbrev s_are_worths : Stmt := top 27
abbrev s_check_numbers : Stmt := top 28
abbrev s_check_number : Stmt := top 38
abbrev s_check_top : Stmt := top 39
abbrev s_are_turns : Stmt := top 40
abbrev s_is_plain : Stmt := top 41
abbrev s_pair_steps : Stmt := top 49
abbrev s_parting_trip : Stmt := top 50
abbrev s_pairs_from : Stmt := top 51
abbrev s_are_pairs : Stmt := top 52
abbrev s_ring_in : Stmt := top 53
abbrev s_raised : Stmt := top 54
abbrev s_trip_to : Stmt := top 55
abbrev s_greatest_excess : Stmt := top 56
abbrev s_never_dearer : Stmt := top 57
abbrev s_amounts_of : Stmt := top 58
abbrev s_excess_amounts : Stmt := top 59
abbrev s_is_excess_amounts : Stmt := top 60
abbrev s_is_split : Stmt := top 62
abbrev s_split_price : Stmt := top 63
abbrev s_hires_on : Stmt := top 64
abbrev s_best_split : Stmt := top 65
abbrev s_is_stretch : Stmt := top 71
abbrev s_road_counts : Stmt := top 72
abbrev s_count_waited : Stmt := top 73
abbrev s_ends_in : Stmt := top 75
abbrev s_law_bag : Stmt := top 77
abbrev s_law_draw : Stmt := top 78
abbrev s_law_pick : Stmt := top 79
abbrev s_law_drawn_trip : Stmt := top 80
abbrev s_law_small_worths : Stmt := top 81
abbrev s_law_meter : Stmt := top 82
abbrev s_law_made_table : Stmt := top 83
abbrev s_law_made : Stmt := top 84
abbrev s_law_road_trips : Stmt := top 85
abbrev s_law_route : Stmt := top 86
abbrev s_law_trips_by_waits : Stmt := top 87
abbrev s_law_dearer : Stmt := top 88
abbrev s_law_routes_right : Stmt := top 89
abbrev s_law_hires_right : Stmt := top 90
abbrev s_law : Stmt := top 91
abbrev s_Table_init : Stmt := L2.inClass (top 29) 0
abbrev s_Table_either : Stmt := L2.inClass (top 29) 1
abbrev s_Table_both : Stmt := L2.inClass (top 29) 2
abbrev s_Table_changing : Stmt := L2.inClass (top 29) 3
abbrev s_Table_read : Stmt := L2.inClass (top 29) 4
abbrev s_Table_getitem : Stmt := L2.inClass (top 29) 6
abbrev s_Meter_init : Stmt := L2.inClass (top 42) 0
abbrev s_Meter_drop : Stmt := L2.inClass (top 42) 2
abbrev s_Meter_flag : Stmt := L2.inClass (top 42) 3
abbrev s_Meter_each : Stmt := L2.inClass (top 42) 4
abbrev s_Meter_start : Stmt := L2.inClass (top 42) 7
abbrev s_Meter_table_at : Stmt := L2.inClass (top 42) 8
abbrev s_Meter_jumps_at : Stmt := L2.inClass (top 42) 9
abbrev s_Meter_count_on : Stmt := L2.inClass (top 42) 10
abbrev s_Meter_counts : Stmt := L2.inClass (top 42) 11
abbrev s_Meter_count : Stmt := L2.inClass (top 42) 12
abbrev s_Meter_price_at : Stmt := L2.inClass (top 42) 13
abbrev s_Meter_prices : Stmt := L2.inClass (top 42) 14
abbrev s_Meter_call : Stmt := L2.inClass (top 42) 15
abbrev s_Meter_last_turn : Stmt := L2.inClass (top 42) 17
abbrev s_Meter_step_from : Stmt := L2.inClass (top 42) 18
abbrev s_Meter_after : Stmt := L2.inClass (top 42) 20
abbrev s_Meter_stands : Stmt := L2.inClass (top 42) 21
abbrev s_Route_init : Stmt := L2.inClass (top 74) 0
abbrev s_Route_steps : Stmt := L2.inClass (top 74) 2
abbrev s_Route_has : Stmt := L2.inClass (top 74) 5
abbrev s_Route_counts_along : Stmt := L2.inClass (top 74) 6
abbrev s_Route_prices : Stmt := L2.inClass (top 74) 7
def d_is_whole : He5.DefA := ⟨fun K => He.ga K "is_whole", "is_whole", "is_whole", defArgs s_is_whole, defBody s_is_whole, defScope s_is_whole, [], []⟩
def d_is_between : He5.DefA := ⟨fun K => He.ga K "is_between", "is_between", "is_between", defArgs s_is_between, defBody s_is_between, defScope s_is_between, [], []⟩
def d_is_speed : He5.DefA := ⟨fun K => He.ga K "is_speed", "is_speed", "is_speed", defArgs s_is_speed, defBody s_is_speed, defScope s_is_speed, [], []⟩
def d_is_trip : He5.DefA := ⟨fun K => He.ga K "is_trip", "is_trip", "is_trip", defArgs s_is_trip, defBody s_is_trip, defScope s_is_trip, [], []⟩
def d_check_trip : He5.DefA := ⟨fun K => He.ga K "check_trip", "check_trip", "check_trip", defArgs s_check_trip, defBody s_check_trip, defScope s_check_trip, [], []⟩
def d_number_in : He5.DefA := ⟨fun K => He.ga K "number_in_trips", "number_in", "number_in", defArgs s_number_in, defBody s_number_in, defScope s_number_in, [], []⟩
def d_are_worths : He5.DefA := ⟨fun K => He.ga K "are_worths", "are_worths", "are_worths", defArgs s_are_worths, defBody s_are_worths, defScope s_are_worths, [], []⟩
def d_check_numbers : He5.DefA := ⟨fun K => He.ga K "check_numbers", "check_numbers", "check_numbers", defArgs s_check_numbers, defBody s_check_numbers, defScope s_check_numbers, [], []⟩
def d_check_number : He5.DefA := ⟨fun K => He.ga K "check_number", "check_number", "check_number", defArgs s_check_number, defBody s_check_number, defScope s_check_number, [], []⟩
def d_check_top : He5.DefA := ⟨fun K => He.ga K "check_top", "check_top", "check_top", defArgs s_check_top, defBody s_check_top, defScope s_check_top, [], []⟩
def d_are_turns : He5.DefA := ⟨fun K => He.ga K "are_turns", "are_turns", "are_turns", defArgs s_are_turns, defBody s_are_turns, defScope s_are_turns, [], []⟩
def d_is_plain : He5.DefA := ⟨fun K => He.ga K "is_plain", "is_plain", "is_plain", defArgs s_is_plain, defBody s_is_plain, defScope s_is_plain, [], []⟩
def d_pair_steps : He5.DefA := ⟨fun K => He.ga K "pair_steps", "pair_steps", "pair_steps", defArgs s_pair_steps, defBody s_pair_steps, defScope s_pair_steps, [], []⟩
def d_parting_trip : He5.DefA := ⟨fun K => He.ga K "parting_trip", "parting_trip", "parting_trip", defArgs s_parting_trip, defBody s_parting_trip, defScope s_parting_trip, [.int 9], []⟩
def d_pairs_from : He5.DefA := ⟨fun K => He.ga K "pairs_from", "pairs_from", "pairs_from", defArgs s_pairs_from, defBody s_pairs_from, defScope s_pairs_from, [], []⟩
def d_are_pairs : He5.DefA := ⟨fun K => He.ga K "are_pairs", "are_pairs", "are_pairs", defArgs s_are_pairs, defBody s_are_pairs, defScope s_are_pairs, [], []⟩
def d_ring_in : He5.DefA := ⟨fun K => He.ga K "ring_in", "ring_in", "ring_in", defArgs s_ring_in, defBody s_ring_in, defScope s_ring_in, [], []⟩
def d_raised : He5.DefA := ⟨fun K => He.ga K "raised", "raised", "raised", defArgs s_raised, defBody s_raised, defScope s_raised, [], []⟩
def d_trip_to : He5.DefA := ⟨fun K => He.ga K "trip_to", "trip_to", "trip_to", defArgs s_trip_to, defBody s_trip_to, defScope s_trip_to, [], []⟩
def d_greatest_excess : He5.DefA := ⟨fun K => He.ga K "greatest_excess", "greatest_excess", "greatest_excess", defArgs s_greatest_excess, defBody s_greatest_excess, defScope s_greatest_excess, [.int 9], []⟩
def d_never_dearer : He5.DefA := ⟨fun K => He.ga K "never_dearer", "never_dearer", "never_dearer", defArgs s_never_dearer, defBody s_never_dearer, defScope s_never_dearer, [.int 9], []⟩
def d_amounts_of : He5.DefA := ⟨fun K => He.ga K "amounts_of", "amounts_of", "amounts_of", defArgs s_amounts_of, defBody s_amounts_of, defScope s_amounts_of, [], []⟩
def d_excess_amounts : He5.DefA := ⟨fun K => He.ga K "excess_amounts", "excess_amounts", "excess_amounts", defArgs s_excess_amounts, defBody s_excess_amounts, defScope s_excess_amounts, [.int 9], []⟩
def d_is_excess_amounts : He5.DefA := ⟨fun K => He.ga K "is_excess_amounts", "is_excess_amounts", "is_excess_amounts", defArgs s_is_excess_amounts, defBody s_is_excess_amounts, defScope s_is_excess_amounts, [.int 9], []⟩
def d_is_split : He5.DefA := ⟨fun K => He.ga K "is_split", "is_split", "is_split", defArgs s_is_split, defBody s_is_split, defScope s_is_split, [], []⟩
def d_split_price : He5.DefA := ⟨fun K => He.ga K "split_price", "split_price", "split_price", defArgs s_split_price, defBody s_split_price, defScope s_split_price, [], []⟩
def d_hires_on : He5.DefA := ⟨fun K => He.ga K "hires_on", "hires_on", "hires_on", defArgs s_hires_on, defBody s_hires_on, defScope s_hires_on, [], []⟩
def d_best_split : He5.DefA := ⟨fun K => He.ga K "best_split", "best_split", "best_split", defArgs s_best_split, defBody s_best_split, defScope s_best_split, [.non], []⟩
def d_is_stretch : He5.DefA := ⟨fun K => He.ga K "is_stretch", "is_stretch", "is_stretch", defArgs s_is_stretch, defBody s_is_stretch, defScope s_is_stretch, [], []⟩
def d_road_counts : He5.DefA := ⟨fun K => He.ga K "road_counts", "road_counts", "road_counts", defArgs s_road_counts, defBody s_road_counts, defScope s_road_counts, [], []⟩
def d_count_waited : He5.DefA := ⟨fun K => He.ga K "count_waited", "count_waited", "count_waited", defArgs s_count_waited, defBody s_count_waited, defScope s_count_waited, [], []⟩
def d_ends_in : He5.DefA := ⟨fun K => He.ga K "ends_in", "ends_in", "ends_in", defArgs s_ends_in, defBody s_ends_in, defScope s_ends_in, [], []⟩
def d_law_bag : He5.DefA := ⟨fun K => He.ga K "_law_bag", "_law_bag", "_law_bag", defArgs s_law_bag, defBody s_law_bag, defScope s_law_bag, [], []⟩
def d_law_draw : He5.DefA := ⟨fun K => He.ga K "_law_draw", "_law_draw", "_law_draw", defArgs s_law_draw, defBody s_law_draw, defScope s_law_draw, [], []⟩
def d_law_pick : He5.DefA := ⟨fun K => He.ga K "_law_pick", "_law_pick", "_law_pick", defArgs s_law_pick, defBody s_law_pick, defScope s_law_pick, [], []⟩
def d_law_drawn_trip : He5.DefA := ⟨fun K => He.ga K "_law_drawn_trip", "_law_drawn_trip", "_law_drawn_trip", defArgs s_law_drawn_trip, defBody s_law_drawn_trip, defScope s_law_drawn_trip, [], []⟩
def d_law_small_worths : He5.DefA := ⟨fun K => He.ga K "_law_small_worths", "_law_small_worths", "_law_small_worths", defArgs s_law_small_worths, defBody s_law_small_worths, defScope s_law_small_worths, [], []⟩
def d_law_meter : He5.DefA := ⟨fun K => He.ga K "_law_meter", "_law_meter", "_law_meter", defArgs s_law_meter, defBody s_law_meter, defScope s_law_meter, [], []⟩
def d_law_made_table : He5.DefA := ⟨fun K => He.ga K "_law_made_table", "_law_made_table", "_law_made_table", defArgs s_law_made_table, defBody s_law_made_table, defScope s_law_made_table, [], []⟩
def d_law_made : He5.DefA := ⟨fun K => He.ga K "_law_made", "_law_made", "_law_made", defArgs s_law_made, defBody s_law_made, defScope s_law_made, [], []⟩
def d_law_road_trips : He5.DefA := ⟨fun K => He.ga K "_law_road_trips", "_law_road_trips", "_law_road_trips", defArgs s_law_road_trips, defBody s_law_road_trips, defScope s_law_road_trips, [], []⟩
def d_law_route : He5.DefA := ⟨fun K => He.ga K "_law_route", "_law_route", "_law_route", defArgs s_law_route, defBody s_law_route, defScope s_law_route, [], []⟩
def d_law_trips_by_waits : He5.DefA := ⟨fun K => He.ga K "_law_trips_by_waits", "_law_trips_by_waits", "_law_trips_by_waits", defArgs s_law_trips_by_waits, defBody s_law_trips_by_waits, defScope s_law_trips_by_waits, [], []⟩
def d_law_dearer : He5.DefA := ⟨fun K => He.ga K "_law_dearer", "_law_dearer", "_law_dearer", defArgs s_law_dearer, defBody s_law_dearer, defScope s_law_dearer, [], []⟩
def d_law_routes_right : He5.DefA := ⟨fun K => He.ga K "_law_routes_right", "_law_routes_right", "_law_routes_right", defArgs s_law_routes_right, defBody s_law_routes_right, defScope s_law_routes_right, [], []⟩
def d_law_hires_right : He5.DefA := ⟨fun K => He.ga K "_law_hires_right", "_law_hires_right", "_law_hires_right", defArgs s_law_hires_right, defBody s_law_hires_right, defScope s_law_hires_right, [], []⟩
def d_law : He5.DefA := ⟨fun K => He.ga K "law", "law", "law", defArgs s_law, defBody s_law, defScope s_law, [], []⟩
def d_Table_init : He5.DefA := ⟨fun K => He.ma K (He.ga K "Table") "__init__", "__init__", "Table.__init__", defArgs s_Table_init, defBody s_Table_init, defScope s_Table_init, [], []⟩
def d_Table_either : He5.DefA := ⟨fun K => He5.wf K (He.ga K "Table") "classmethod" "either", "either", "Table.either", defArgs s_Table_either, defBody s_Table_either, defScope s_Table_either, [], []⟩
def d_Table_both : He5.DefA := ⟨fun K => He5.wf K (He.ga K "Table") "classmethod" "both", "both", "Table.both", defArgs s_Table_both, defBody s_Table_both, defScope s_Table_both, [], []⟩
def d_Table_changing : He5.DefA := ⟨fun K => He5.wf K (He.ga K "Table") "classmethod" "changing", "changing", "Table.changing", defArgs s_Table_changing, defBody s_Table_changing, defScope s_Table_changing, [], []⟩
def d_Table_read : He5.DefA := ⟨fun K => He5.wf K (He.ga K "Table") "classmethod" "read", "read", "Table.read", defArgs s_Table_read, defBody s_Table_read, defScope s_Table_read, [], []⟩
def d_Table_getitem : He5.DefA := ⟨fun K => He.ma K (He.ga K "Table") "__getitem__", "__getitem__", "Table.__getitem__", defArgs s_Table_getitem, defBody s_Table_getitem, defScope s_Table_getitem, [], []⟩
def d_Meter_init : He5.DefA := ⟨fun K => He.ma K (He.ga K "Meter") "__init__", "__init__", "Meter.__init__", defArgs s_Meter_init, defBody s_Meter_init, defScope s_Meter_init, [.adr (He.dflAt ("Meter", some "__init__") 0)], [("flag", .int 0), ("each", .int 1)]⟩
def d_Meter_drop : He5.DefA := ⟨fun K => He5.wf K (He.ga K "Meter") "property" "drop", "drop", "Meter.drop", defArgs s_Meter_drop, defBody s_Meter_drop, defScope s_Meter_drop, [], []⟩
def d_Meter_flag : He5.DefA := ⟨fun K => He5.wf K (He.ga K "Meter") "property" "flag", "flag", "Meter.flag", defArgs s_Meter_flag, defBody s_Meter_flag, defScope s_Meter_flag, [], []⟩
def d_Meter_each : He5.DefA := ⟨fun K => He5.wf K (He.ga K "Meter") "property" "each", "each", "Meter.each", defArgs s_Meter_each, defBody s_Meter_each, defScope s_Meter_each, [], []⟩
def d_Meter_start : He5.DefA := ⟨fun K => He5.wf K (He.ga K "Meter") "property" "start", "start", "Meter.start", defArgs s_Meter_start, defBody s_Meter_start, defScope s_Meter_start, [], []⟩
def d_Meter_table_at : He5.DefA := ⟨fun K => He.ma K (He.ga K "Meter") "table_at", "table_at", "Meter.table_at", defArgs s_Meter_table_at, defBody s_Meter_table_at, defScope s_Meter_table_at, [], []⟩
def d_Meter_jumps_at : He5.DefA := ⟨fun K => He.ma K (He.ga K "Meter") "jumps_at", "jumps_at", "Meter.jumps_at", defArgs s_Meter_jumps_at, defBody s_Meter_jumps_at, defScope s_Meter_jumps_at, [], []⟩
def d_Meter_count_on : He5.DefA := ⟨fun K => He.ma K (He.ga K "Meter") "count_on", "count_on", "Meter.count_on", defArgs s_Meter_count_on, defBody s_Meter_count_on, defScope s_Meter_count_on, [], []⟩
def d_Meter_counts : He5.DefA := ⟨fun K => He.ma K (He.ga K "Meter") "counts", "counts", "Meter.counts", defArgs s_Meter_counts, defBody s_Meter_counts, defScope s_Meter_counts, [], []⟩
def d_Meter_count : He5.DefA := ⟨fun K => He.ma K (He.ga K "Meter") "count", "count", "Meter.count", defArgs s_Meter_count, defBody s_Meter_count, defScope s_Meter_count, [], []⟩
def d_Meter_price_at : He5.DefA := ⟨fun K => He.ma K (He.ga K "Meter") "price_at", "price_at", "Meter.price_at", defArgs s_Meter_price_at, defBody s_Meter_price_at, defScope s_Meter_price_at, [], []⟩
def d_Meter_prices : He5.DefA := ⟨fun K => He.ma K (He.ga K "Meter") "prices", "prices", "Meter.prices", defArgs s_Meter_prices, defBody s_Meter_prices, defScope s_Meter_prices, [], []⟩
def d_Meter_call : He5.DefA := ⟨fun K => He.ma K (He.ga K "Meter") "__call__", "__call__", "Meter.__call__", defArgs s_Meter_call, defBody s_Meter_call, defScope s_Meter_call, [], []⟩
def d_Meter_last_turn : He5.DefA := ⟨fun K => He.ma K (He.ga K "Meter") "last_turn", "last_turn", "Meter.last_turn", defArgs s_Meter_last_turn, defBody s_Meter_last_turn, defScope s_Meter_last_turn, [], []⟩
def d_Meter_step_from : He5.DefA := ⟨fun K => He.ma K (He.ga K "Meter") "step_from", "step_from", "Meter.step_from", defArgs s_Meter_step_from, defBody s_Meter_step_from, defScope s_Meter_step_from, [], []⟩
def d_Meter_after : He5.DefA := ⟨fun K => He.ma K (He.ga K "Meter") "after", "after", "Meter.after", defArgs s_Meter_after, defBody s_Meter_after, defScope s_Meter_after, [], []⟩
def d_Meter_stands : He5.DefA := ⟨fun K => He.ma K (He.ga K "Meter") "stands", "stands", "Meter.stands", defArgs s_Meter_stands, defBody s_Meter_stands, defScope s_Meter_stands, [.int 9], []⟩
def d_Route_init : He5.DefA := ⟨fun K => He.ma K (He.ga K "Route") "__init__", "__init__", "Route.__init__", defArgs s_Route_init, defBody s_Route_init, defScope s_Route_init, [], []⟩
def d_Route_steps : He5.DefA := ⟨fun K => He5.wf K (He.ga K "Route") "property" "steps", "steps", "Route.steps", defArgs s_Route_steps, defBody s_Route_steps, defScope s_Route_steps, [], []⟩
def d_Route_has : He5.DefA := ⟨fun K => He.ma K (He.ga K "Route") "has", "has", "Route.has", defArgs s_Route_has, defBody s_Route_has, defScope s_Route_has, [], []⟩
def d_Route_counts_along : He5.DefA := ⟨fun K => He.ma K (He.ga K "Route") "counts_along", "counts_along", "Route.counts_along", defArgs s_Route_counts_along, defBody s_Route_counts_along, defScope s_Route_counts_along, [], []⟩
def d_Route_prices : He5.DefA := ⟨fun K => He.ma K (He.ga K "Route") "prices", "prices", "Route.prices", defArgs s_Route_prices, defBody s_Route_prices, defScope s_Route_prices, [], []⟩
def fnL : List He5.DefA := [d_is_whole, d_is_between, d_is_speed, d_is_trip, d_check_trip, d_number_in, d_are_worths, d_check_numbers, d_check_number, d_check_top, d_are_turns, d_is_plain, d_pair_steps, d_parting_trip, d_pairs_from, d_are_pairs, d_ring_in, d_raised, d_trip_to, d_greatest_excess, d_never_dearer, d_amounts_of, d_excess_amounts, d_is_excess_amounts, d_is_split, d_split_price, d_hires_on, d_best_split, d_is_stretch, d_road_counts, d_count_waited, d_ends_in, d_law_bag, d_law_draw, d_law_pick, d_law_drawn_trip, d_law_small_worths, d_law_meter, d_law_made_table, d_law_made, d_law_road_trips, d_law_route, d_law_trips_by_waits, d_law_dearer, d_law_routes_right, d_law_hires_right, d_law, d_Table_init, d_Table_either, d_Table_both, d_Table_changing, d_Table_read, d_Table_getitem, d_Meter_init, d_Meter_drop, d_Meter_flag, d_Meter_each, d_Meter_start, d_Meter_table_at, d_Meter_jumps_at, d_Meter_count_on, d_Meter_counts, d_Meter_count, d_Meter_price_at, d_Meter_prices, d_Meter_call, d_Meter_last_turn, d_Meter_step_from, d_Meter_after, d_Meter_stands, d_Route_init, d_Route_steps, d_Route_has, d_Route_counts_along, d_Route_prices]
def fa0 : List He.Fa := [.glo "is_whole", .glo "is_between", .glo "is_speed", .glo "is_trip", .glo "check_trip", .glo "are_worths", .glo "check_numbers", .glo "check_number", .glo "check_top", .glo "are_turns", .glo "is_plain", .glo "pair_steps", .glo "parting_trip", .glo "pairs_from", .glo "are_pairs", .glo "ring_in", .glo "raised", .glo "trip_to", .glo "greatest_excess", .glo "never_dearer", .glo "amounts_of", .glo "excess_amounts", .glo "is_excess_amounts", .glo "is_split", .glo "split_price", .glo "hires_on", .glo "best_split", .glo "is_stretch", .glo "road_counts", .glo "count_waited"]
def fa1 : List He.Fa := [.glo "ends_in", .glo "_law_bag", .glo "_law_draw", .glo "_law_pick", .glo "_law_drawn_trip", .glo "_law_small_worths", .glo "_law_meter", .glo "_law_made_table", .glo "_law_made", .glo "_law_road_trips", .glo "_law_route", .glo "_law_trips_by_waits", .glo "_law_dearer", .glo "_law_routes_right", .glo "_law_hires_right", .glo "law", .glo "number_in_trips", .glo "Table", .glo "Meter", .glo "Route", .free "isinstance", .free "len", .free "all", .free "any", .free "max", .free "min", .free "sum", .free "sorted", .free "range", .free "list"]
def fa2 : List He.Fa := [.free "tuple", .free "set", .free "str", .free "int", .free "bool", .free "abs", .int "MOST_TICKS" 2000, .int "GREATEST_SPEED_trips" 9, .int "GREATEST_WORTH" 60, .int "GREATEST_DROP" 60, .int "GREATEST_FLAG" 1000, .int "GREATEST_EACH" 100, .int "GREATEST_TURN" 9, .int "MOST_TABLES" 3, .int "SPEEDS" 10, .int "MOST_STRETCHES" 12, .int "LONGEST_ROAD" 60, .int "LONGEST_HOLD" 9, .int "GREATEST_SPEED_town" 9, .str "DIGITS" "0123456789", .cls "Table", .mkr "Table", .noat "Table" "row", .meth "Table" "__init__", .meth "Table" "__getitem__", .cls "Meter", .mkr "Meter", .noat "Meter" "own_numbers", .noat "Meter" "own_tables", .noat "Meter" "own_turns"]
def fa3 : List He.Fa := [.noat "Meter" "own_steps", .meth "Meter" "__init__", .meth "Meter" "table_at", .meth "Meter" "jumps_at", .meth "Meter" "count_on", .meth "Meter" "counts", .meth "Meter" "count", .meth "Meter" "price_at", .meth "Meter" "prices", .meth "Meter" "__call__", .meth "Meter" "last_turn", .meth "Meter" "step_from", .meth "Meter" "after", .meth "Meter" "stands", .cls "Route", .mkr "Route", .noat "Route" "row", .meth "Route" "__init__", .meth "Route" "has", .meth "Route" "counts_along", .meth "Route" "prices"]
def faL : List He.Fa := fa0 ++ fa1 ++ fa2 ++ fa3
/-- a property of a class -/
def propB (C f : Str) (K : PySem.W.Frag) : Bool := He.eqO (PySem.W.findIn K (.ref (He.ga K C)) f) (some (some (.ref (He.ma K (He.ga K C) f)))) &&
  (He.eqO (PySem.W.specialIn K (.ref (He.ma K (He.ga K C) f)) "__get__") (some (some (.builtin "property.__get__"))) &&
  (decide (PySem.W.takesIn K (.ref (He.ma K (He.ga K C) f)) = some true) &&
  (match PySem.W.recIn K (He.ma K (He.ga K C) f) "property" with
    | some (.ref _ :: _) => true
    | _ => false)))
/-- a classmethod of a class -/
def cmetB (C m : Str) (K : PySem.W.Frag) : Bool := He5.wrapB K (He.ga K C) "classmethod" "classmethod.__get__" m && PySem.W.fnIn K (He5.wf K (He.ga K C) "classmethod" m)
def creadB (C : Str) (K : PySem.W.Frag) : Bool := PySem.W.readsIn K (He.ga K C) (.type "type") && He.eqO (PySem.W.specialIn K (.ref (He.ga K C)) "__getattribute__") (some (some (.builtin "type.__getattribute__")))
def calloB (C : Str) (K : PySem.W.Frag) : Bool := PySem.W.fnIn K (He.ma K (He.ga K C) "__call__")
def noseqB (C : Str) (K : PySem.W.Frag) : Bool := PySem.W.noSeq K (He.ga K C)
def inscB (C : Str) (K : PySem.W.Frag) : Bool := He.eqO (PySem.W.findIn K (.ref (He.ga K C)) "__class__") (some (some (.builtin "object.__class__"))) &&
  (He.eqO (PySem.W.specialIn K (.builtin "object.__class__") "__get__") (some (some (.builtin "getset_descriptor.__get__"))) &&
  (decide (PySem.W.takesIn K (.builtin "object.__class__") = some true) && (decide (PySem.W.mroIn K (He.ga K C) (.type "object") = some true) &&
  decide (PySem.W.kitOne K (.ref (He.ga K C)) (.ref (He.ga K C)) = some true))))
def exL : List (PySem.W.Frag → Bool) := [cmetB "Table" "either", cmetB "Table" "both", cmetB "Table" "changing", cmetB "Table" "read", propB "Meter" "drop", propB "Meter" "flag", propB "Meter" "each", propB "Meter" "start", propB "Route" "steps", creadB "Table", calloB "Meter", noseqB "Table", inscB "Table"]
/-! ### the written part: what the module's names reach -/
def goesTo (o : Obj) : List Addr := match o.data with
  | .func fd => He.refV fd.code ++ (He.refV fd.defaults ++ He.refV fd.kwdefaults)
  | .cls cd => [cd.ns]
  | .dict es _ => es.toList.flatMap fun e => He.refV e.val
  | .fields vs => (match o.cls with
    | .type "property" => (vs.toList.take 1).flatMap He.refV
    | .type "classmethod" => (vs.toList.take 1).flatMap He.refV
    | _ => [])
  | _ => []
def named (o : Obj) : List Addr := match o.data with
  | .dict es _ => (es.toList.drop 18).flatMap fun e => He.refV e.val
  | _ => []
def nextOf (g : Addr → Option Obj) (as : List Addr) : List Addr := as.flatMap fun a => match g a with
  | some o => goesTo o
  | none => []
def forceA {α : Type} : List Addr → (List Addr → α) → α
  | [], k => k []
  | a :: r, k => HandSHeadRun.frNat a fun a => forceA r fun r => k (a :: r)
theorem forceA_eq {α : Type} : ∀ (l : List Addr) (k : List Addr → α), forceA l k = k l
  | [], k => rfl
  | a :: r, k => by
    show HandSHeadRun.frNat a (fun a => forceA r fun r => k (a :: r)) = _
    rw [HandSHeadRun.frNat_eq, forceA_eq r]
def forceK {α : Type} : PySem.W.Frag → (PySem.W.Frag → α) → α
  | [], k => k []
  | (a, o) :: r, k => HandSHeadRun.frNat a fun a => forceK r fun r => k ((a, o) :: r)
theorem forceK_eq {α : Type} : ∀ (l : PySem.W.Frag) (k : PySem.W.Frag → α), forceK l k = k l
  | [], k => rfl
  | (a, o) :: r, k => by
    show HandSHeadRun.frNat a (fun a => forceK r fun r => k ((a, o) :: r)) = _
    rw [HandSHeadRun.frNat_eq, forceK_eq r]
/-- the addresses of the written part -/
def asC {α : Type} (g : Addr → Option Obj) (k : List Addr → α) : α :=
  forceA (match g mainGlobals with
    | some o => named o
    | none => []) fun l1 => forceA (nextOf g l1) fun l2 => forceA (nextOf g l2) fun l3 => forceA (nextOf g l3) fun l4 => forceA (nextOf g l4) fun l5 =>
  k (mainGlobals :: PySem.cStatics :: (l1 ++ (l2 ++ (l3 ++ (l4 ++ l5)))))
theorem asC_eq {α : Type} (g : Addr → Option Obj) (k : List Addr → α) : asC g k = k (asC g id) := by
  unfold asC
  simp only [forceA_eq]
  rfl
abbrev AlC : Type := He.AlD × Bool
def obsC (K : PySem.W.Frag) : AlC := (He5.obsA faL fnL K, exL.all fun e => e K)
def valC : AlC := (He5.valA fnL, true)
/-- what the head tells of the written part -/
def Says (K : PySem.W.Frag) : Prop := obsC K = valC
def obsCG (g : Addr → Option Obj) : AlC := asC g fun as => forceK (He.frG g as) obsC
theorem obsCG_eq (g : Addr → Option Obj) : obsCG g = obsC (He.frG g (asC g id)) := by
  unfold obsCG
  rw [asC_eq, forceK_eq]
def hk : PySem.W.Hook where
  α := AlC
  obs := fun s => obsCG s.heap.get?
  val := fun _ => valC
  says := fun _ h => ∃ K : PySem.W.Frag, K.In h ∧ Says K
  of := fun _ _ e => ⟨_, He.frG_in, (obsCG_eq _).symm.trans e⟩
  keeps := fun _ _ _ ⟨K, hK, c⟩ k => ⟨K, PySem.W.Frag.In.keeps hK k, c⟩
def ob (s : PySem.W.SharedT) : AlC := obsCG (HandSHeadRun.getT s)
theorem ob_eq (s : PySem.W.SharedT) : ob s = hk.obs s.abs := by
  have e : HandSHeadRun.getT s = s.abs.heap.get? := funext fun a => HandSHeadRun.getT_eq s a
  show obsCG (HandSHeadRun.getT s) = obsCG s.abs.heap.get?
  rw [e]
def nm0 : List PySem.Str := ["_wall", "MeterError", "BadTrip", "BadText", "BadSpeed", "BadWorths", "BadNumber", "BadTop", "BadTicks", "BadTables", "BadTurns", "BadStand", "BadStretches", "DIGITS", "MOST_TICKS", "GREATEST_SPEED_trips", "is_whole", "is_between", "is_speed", "is_trip", "check_trip", "number_in", "number_in_trips", "GREATEST_WORTH", "are_worths", "check_numbers", "Table", "GREATEST_DROP", "GREATEST_FLAG", "GREATEST_EACH"]
def nm1 : List PySem.Str := ["GREATEST_TURN", "MOST_TABLES", "SPEEDS", "FIGURES", "check_number", "check_top", "are_turns", "is_plain", "Meter", "number_in_meters", "numbers_behind", "table_in", "read_lines", "pair_steps", "parting_trip", "pairs_from", "are_pairs", "ring_in", "raised", "trip_to", "greatest_excess", "never_dearer", "amounts_of", "excess_amounts", "is_excess_amounts", "is_split", "split_price", "hires_on", "best_split", "MOST_STRETCHES"]
def nm2 : List PySem.Str := ["LONGEST_ROAD", "LONGEST_HOLD", "GREATEST_SPEED_town", "is_stretch", "road_counts", "count_waited", "Route", "ends_in", "_law_bag", "_law_draw", "_law_pick", "_law_drawn_trip", "_law_small_worths", "_law_meter", "_law_made_table", "_law_made", "_law_road_trips", "_law_route", "_law_trips_by_waits", "_law_dearer", "_law_routes_right", "_law_hires_right"]
def nmL : List PySem.Str := nm0 ++ nm1 ++ nm2
abbrev qv : Program := PySem.W.view RR.prog [91]
set_option maxRecDepth 100000 in
theorem run (w : World) : HandSHeadRun.RunEq RR qv hk ob 12000 nmL w := by
  intro os
  kernel_rfl
end Cab
set_option Elab.async false
set_option linter.all false
set_option maxRecDepth 100000
set_option maxHeartbeats 2000000
/-! what every proof of a def below leans on -/
namespace Cab
open PySem PySem.Spec PyProof.Rows L2

/-! ### the head's facts -/
structure Wd (K : PySem.W.Frag) (mg : Str → Option Value) (base : Heap) : Prop where
  says : Says K
  kin : K.In base
  ns : base.Ns mainGlobals mg
section
variable {K : PySem.W.Frag} {mg : Str → Option Value} {base : Heap}
theorem Wd.sayA (T : Wd K mg base) : He5.SaysA faL fnL K := congrArg (fun z : AlC => z.1) T.says
theorem Wd.fact (T : Wd K mg base) (i : Nat) {f : He.Fa} (h : faL[i]? = some f := by rfl) : f.ok K = true := T.sayA.fact i h
theorem Wd.fdef (T : Wd K mg base) (i : Nat) {d : He5.DefA} (h : fnL[i]? = some d := by rfl) : ∃ fd, FunD K d.name d.qual d.params d.body d.scope (d.dvs K) (d.kws K) (d.at_ K) fd := T.sayA.def_ i h
theorem Wd.exf (T : Wd K mg base) (i : Nat) {e : PySem.W.Frag → Bool} (h : exL[i]? = some e := by rfl) : e K = true := by
  have c : (exL.all fun e => e K) = true := congrArg (fun z : AlC => z.2) T.says
  exact List.all_eq_true.mp c e (List.mem_of_getElem? h)
theorem prop_ok {C f : Str} (h : propB C f K = true) : PropOf K (He.ga K C) f (He.ma K (He.ga K C) f) (He5.wf K (He.ga K C) "property" f) := by
  obtain ⟨h1, h⟩ := He.ba h
  obtain ⟨h2, h⟩ := He.ba h
  obtain ⟨h3, h4⟩ := He.ba h
  refine ⟨He.eqO_ok h1, He.eqO_ok h2, of_decide_eq_true h3, ?_⟩
  unfold He5.wf
  split at h4
  · rename_i f r e
    exact ⟨r, by rw [e]⟩
  · cases h4
theorem cmet_ok {C m : Str} (h : cmetB C m K = true) : ClX.CMet K (He.ga K C) (.type "type") m (He.ma K (He.ga K C) m) (He5.wf K (He.ga K C) "classmethod" m) := by
  obtain ⟨h1, h2⟩ := He.ba h
  exact He5.cmet_of h1 h2
theorem cread_ok {C : Str} (h : creadB C K = true) : ClX.CRead K (He.ga K C) (.type "type") := by
  obtain ⟨h1, h2⟩ := He.ba h
  exact ⟨h1, He.eqO_ok h2⟩
theorem insc_ok {C : Str} (c : Cls K (He.ga K C)) (h : inscB C K = true) : C8.InsC K (He.ga K C) := by
  obtain ⟨h1, h⟩ := He.ba h
  obtain ⟨h2, h⟩ := He.ba h
  obtain ⟨h3, h⟩ := He.ba h
  obtain ⟨h4, h5⟩ := He.ba h
  exact ⟨c, He.eqO_ok h1, He.eqO_ok h2, of_decide_eq_true h3, of_decide_eq_true h4, of_decide_eq_true h5⟩
end

/-! ### promises -/
/-- a promise of a def that raises nothing -/
abbrev Pr := List V → Hp → VK → Prop
def Pr.sp (p : Pr) : Sp := fun vs H Q _ => p vs H Q
abbrev Fn (P : Program) (w : World) (K : PySem.W.Frag) (mg : Str → Option Value) (base : Heap) (k : Nat) (f : Addr) (p : Pr) : Prop := FnR P w K mg base CX0 k f p.sp
section
variable {P : Program} {w : World} {K : PySem.W.Frag} {mg : Str → Option Value} {base : Heap}
/-- a def by its body -/
theorem ok_mk {x qual : Str} {params : Arguments} {body : List Stmt} {scope : Scope} {dvs : List V} {kws : List (Str × V)} {f : Addr} {fd : FuncData} {N ps : List Str} {k : Nat} {p : Pr}
    (F : FunD K x qual params body scope dvs kws f fd) (S : FnScope N ps scope) (len : ∀ vs H Q, p vs H Q → vs.length = ps.length)
    (hbody : ∀ (cdv : Value) (A : Around) (outer : List Env) (s : Shared) (H : Hp) (vs : List V) (Q : VK) (E : XK), Room k (A.deeper (envOfC qual scope s.heap.objs.size f cdv)) → p vs H Q →
      ∃ t, PSs (cxOf CX0 P w K mg base N qual scope f cdv A outer s H E).nox body t ∧ t { nx := fun _ H' => Q .non H', rt := Q } (start N vs) H) : FnOk P w K mg base CX0 (k + 1) f fd ps p.sp :=
  F.ok S (fun vs H Q _ h => len vs H Q h) fun cdv A outer s H vs Q E hr h => by
    obtain ⟨t, h1, h2⟩ := hbody cdv A outer s H vs Q E hr h
    exact ⟨t, h1.nox, h2⟩
theorem fn_mk {x qual : Str} {params : Arguments} {body : List Stmt} {scope : Scope} {kws : List (Str × V)} {f : Addr} {fd : FuncData} {N ps : List Str} {k : Nat} {p : Pr}
    (F : FunD K x qual params body scope [] kws f fd) (S : FnScope N ps scope)
    (hb : ∀ (kV doc pm : Value) (an : Option Addr) (cdv ct : Value) (us : List Value), us.length = ps.length → bindArgs (PySem.W.fnOf x qual params body scope .none kV doc pm an cdv ct) ⟨us, []⟩ = pure (ps.zip us))
    (len : ∀ vs H Q, p vs H Q → vs.length = ps.length)
    (hbody : ∀ (cdv : Value) (A : Around) (outer : List Env) (s : Shared) (H : Hp) (vs : List V) (Q : VK) (E : XK), Room k (A.deeper (envOfC qual scope s.heap.objs.size f cdv)) → p vs H Q →
      ∃ t, PSs (cxOf CX0 P w K mg base N qual scope f cdv A outer s H E).nox body t ∧ t { nx := fun _ H' => Q .non H', rt := Q } (start N vs) H) : Fn P w K mg base (k + 1) f p :=
  ((ok_mk F S len hbody).raw (F.bindsN hb) .nil).imp fun vs H Q _ h => by
    show p (vs ++ []) H Q
    rw [List.append_nil]
    exact h
end

/-! ### calls by such promises -/
def tR (p : Pr) (t : TA) : TE := fun σ H Q => t σ H fun vs H1 => p vs H1 Q
def tM (C : Addr) (m : Str) (p : Pr) (ta : TE) (t : TA) : TE := fun σ H Q => ta σ H fun x H1 => ∃ a dx fs, x = .ref a ∧ H1 a = some (.ins C dx fs) ∧ fs.lookup m = none ∧ t σ H1 fun vs H2 => p (x :: vs) H2 Q
def tP (C : Addr) (p : Pr) (ta : TE) : TE := fun σ H Q => ta σ H fun x H1 => ∃ a dx fs, x = .ref a ∧ H1 a = some (.ins C dx fs) ∧ p [x] H1 Q
def tMk (C : Addr) (p : Pr) (t : TA) : TE := fun σ H Q => t σ H fun vs H1 => ∀ x dx, H1 x = Option.none → H1 dx = Option.none → dx ≠ x →
  p (V.ref x :: vs) (upd (upd H1 dx (.own x)) x (.ins C dx [])) (fun v H2 => v = .non ∧ Q (.ref x) H2)
def tMkV (i : Nat) (C : Addr) (p : Pr) (t : TA) : TE := fun σ H Q => σ[i]? = some (some (.ref C)) ∧ tMk C p t σ H Q
def tCm (C : Addr) (p : Pr) (ta : TE) (t : TA) : TE := fun σ H Q => ta σ H fun x H1 => x = .ref C ∧ t σ H1 fun vs H2 => p (.ref C :: vs) H2 Q
section
variable {X : Cx} {k i : Nat} {f g C pa : Addr} {mc : Value} {p : Pr} {x m : Str} {e o fe : Expr} {es : List Expr} {ta te tf : TE} {t : TA} {np apos pos : Pos}
theorem pe_R (F : Fn X.prog X.w X.K X.mg X.base k f p) (hr : Room k X.A) (hm : X.mg x = some (.ref f)) (hk : PySem.W.keepIn X.K (.ref f) = true) (ha : PA X (e :: es) t) (hg : Gl X x := by rfl) (hd : (x == ("__debug__" : Str)) = false := by decide)
    (he : starEach (e :: es) X.env = (false, eval e X.env) :: starEach es X.env := by rfl) (hpl : (backTo pos (starEach es X.env)).any (·.1) = false := by rfl) :
    PE X (.Call (.Name x np) (e :: es) [] pos) (tR p t) := by
  refine ⟨fun pins s σ H Q I h => wpAny_Call_Name_kw (ld_glob I hg hm ?_ hd)⟩
  refine PySem.W.callWith_K (h₀ := X.base) I.ok.mod.kin hk (thn (ha.run pos pins s σ H _ I h) fun us s1 ⟨vs, H1, I1, r, q⟩ => ⟨I1.kIn, ?_⟩) he hpl
  exact wpAny_call (run_fnR (E := E0) F hr (fun _ _ _ _ _ _ _ z => z.elim) I1 r q)
theorem pe_M {pl : Sem Bool} (F : Fn X.prog X.w X.K X.mg X.base k f p) (hr : Room k X.A) (c : Cls X.K C) (hm : Meth X.K C m f) (he : PE X o ta) (ha : PA X (e :: es) t)
    (hst : starEach (e :: es) X.env = (false, eval e X.env) :: starEach es X.env := by rfl) (hpl : (backTo pos (starEach es X.env)).any (·.1) = false := by rfl)
    (ht : eval (.Call (.Attribute o m apos) (e :: es) [] pos) X.env = (do
      let ov ← eval o X.env
      standAt apos.atName
      let (f, first) ← holding [ov] (getMethod ov m pl)
      callWith pos f first (backTo pos (starEach (e :: es) X.env)) (backToKw pos (keywordEach [] X.env))) := by rfl) :
    PE X (.Call (.Attribute o m apos) (e :: es) [] pos) (tM C m p ta t) :=
  pe_methR (E := E0) (pl := pl) he c hm F hr (fun _ _ _ _ _ _ _ z => z.elim) ha hst hpl ht
theorem pe_M0 {pl : Sem Bool} (F : Fn X.prog X.w X.K X.mg X.base k f p) (hr : Room k X.A) (c : Cls X.K C) (hm : Meth X.K C m f) (he : PE X o ta)
    (ht : eval (.Call (.Attribute o m apos) [] [] pos) X.env = (do
      let ov ← eval o X.env
      standAt apos.atName
      let (f, first) ← holding [ov] (getMethod ov m pl)
      callWith pos f first (backTo pos (starEach [] X.env)) (backToKw pos (keywordEach [] X.env))) := by rfl) :
    PE X (.Call (.Attribute o m apos) [] [] pos) (tM C m p ta tNil) := by
  refine ⟨fun pins s σ H Q I h => PySem.W.methodCall_KW (pl := pl) (thn (he.run pins s σ H _ I h) fun u s1 ⟨x, H1, I1, rx, a, dx, fs, ex, ea, l, q⟩ => ?_) ht⟩
  subst ex
  obtain rfl : u = Value.ref a := rx
  refine getmeth_ok I1 ea c hm l ?_
  exact PySem.W.callWith_K0 (first := [.ref a]) I1.kIn hm.kp (wpAny_call (run_fnR (us := [.ref a]) (vs := [.ref a]) (E := E0) F hr (fun _ _ _ _ _ _ _ z => z.elim) I1 (.cons rfl .nil) q))
theorem pe_Mk (F : Fn X.prog X.w X.K X.mg X.base k f p) (hr : Room (k + 1) X.A) (M : Mk X.K C f) (hm : X.mg x = some (.ref C)) (ha : PA X (e :: es) t) (hg : Gl X x := by rfl) (hdb : (x == ("__debug__" : Str)) = false := by decide)
    (he : starEach (e :: es) X.env = (false, eval e X.env) :: starEach es X.env := by rfl) (hpl : (backTo pos (starEach es X.env)).any (·.1) = false := by rfl) : PE X (.Call (.Name x np) (e :: es) [] pos) (tMk C p t) :=
  StX.pe_makeR (E := E0) M F hr hg hm (fun _ _ _ _ _ _ _ z => z.elim) ha hdb he hpl
theorem pe_MkV (F : Fn X.prog X.w X.K X.mg X.base k f p) (hr : Room (k + 1) X.A) (M : Mk X.K C f) (ha : PA X (e :: es) t) (hN : X.N[i]? = some x) (hv : Vis X.env.scope x)
    (hd : (x == ("__debug__" : Str)) = false := by decide) (hcd : (x == ("__classdict__" : Str)) = false := by decide)
    (he : starEach (e :: es) X.env = (false, eval e X.env) :: starEach es X.env := by rfl) (hpl : (backTo pos (starEach es X.env)).any (·.1) = false := by rfl) : PE X (.Call (.Name x np) (e :: es) [] pos) (tMkV i C p t) := by
  refine ⟨fun pins s σ H Q I h => ?_⟩
  obtain ⟨hs, h⟩ := h
  refine wpAny_Call_Name_kw (thn ((pe_var (pos := np) (i := i) hN hv hd hcd).run pins s σ H (fun v H1 => v = .ref C ∧ H1 = H) I ⟨.ref C, hs, rfl, rfl⟩) fun u s1 ⟨v, H1, I1, r1, ev, eH⟩ => ?_)
  subst ev
  rw [eH] at I1
  cases r1
  refine PySem.W.callWith_K (h₀ := X.base) I.ok.mod.kin M.kp (thn (ha.run pos pins s1 σ H _ I1 h) fun us s2 ⟨vs, H2, I2, r, q⟩ => ⟨I2.kIn, ?_⟩) he hpl
  exact StX.run_makeR (E := E0) M F hr (fun _ _ _ _ _ _ _ z => z.elim) I2 r q
theorem pe_Cm (F : Fn X.prog X.w X.K X.mg X.base k g p) (hr : Room k X.A) (r : ClX.CRead X.K C mc) (c : ClX.CMet X.K C mc m pa g) (he : PE X o ta) (ha : PA X (e :: es) t) {pl : Sem Bool}
    (hst : starEach (e :: es) X.env = (false, eval e X.env) :: starEach es X.env := by rfl) (hpl : (backTo pos (starEach es X.env)).any (·.1) = false := by rfl)
    (ht : eval (.Call (.Attribute o m apos) (e :: es) [] pos) X.env = (do
      let ov ← eval o X.env
      standAt apos.atName
      let (f, first) ← holding [ov] (getMethod ov m pl)
      callWith pos f first (backTo pos (starEach (e :: es) X.env)) (backToKw pos (keywordEach [] X.env))) := by rfl) :
    PE X (.Call (.Attribute o m apos) (e :: es) [] pos) (tCm C p ta t) :=
  ClX.pe_cmeth (E := E0) he r c F hr (fun _ _ _ _ _ _ _ z => z.elim) ha hst hpl ht
theorem pe_Co (F : Fn X.prog X.w X.K X.mg X.base k g p) (hr : Room k X.A) (c : StX.CallO X.K C g) (hf : PE X fe tf) (ha : PA X (e :: es) t)
    (ht : eval (.Call fe (e :: es) [] pos) X.env = (do callWith pos (← eval fe X.env) [] (backTo pos (starEach (e :: es) X.env)) (backToKw pos (keywordEach [] X.env))) := by rfl)
    (he : starEach (e :: es) X.env = (false, eval e X.env) :: starEach es X.env := by rfl) (hpl : (backTo pos (starEach es X.env)).any (·.1) = false := by rfl) : PE X (.Call fe (e :: es) [] pos) (StX.tCallO X C p.sp E0 tf t) :=
  StX.pe_callO (E := E0) hf c F hr (fun _ _ _ _ _ _ _ z => z.elim) ha ht he hpl
/-- e.f, a property by a positional promise -/
theorem pe_P (F : Fn X.prog X.w X.K X.mg X.base k g p) (hr : Room (k + 1) X.A) (c : Cls X.K C) (hp : PropOf X.K C m pa g) (he : PE X e ta) (hab : attributeBase e m X.env (eval e X.env) = eval e X.env := by rfl) : PE X (.Attribute e m pos) (tP C p ta) := by
  refine ⟨fun pins s σ H Q I h => ?_⟩
  refine attr_of hab (thn (he.run pins s σ H _ I h) fun u s1 ⟨x, H1, I1, rx, a, dx, fs, ex, ea, q⟩ => ?_)
  subst ex
  obtain rfl : u = Value.ref a := rx
  obtain ⟨mA, O, _, _, _, _⟩ := ins_get I1.hok ea
  obtain ⟨od, J, _⟩ := O.look
  obtain ⟨rest, hrec⟩ := hp.rec_
  have I2 := I1.tok (s1.toks + 1)
  have hc : (PySem.W.clsIn X.K C).isSome = true := by
    obtain ⟨cd, hc, _⟩ := PySem.W.any_some c.hd
    rw [hc]
    rfl
  refine PySem.W.get_bind I1.kIn J (PySem.W.plainGet_of (c.get m)).1 (PySem.W.findObj_data hc hp.at_ hp.get hp.tak) (PySem.W.plainGet_of (c.get m)).2 (wpAny_call (PySem.W.prop_get (s := { s1 with toks := s1.toks + 1 }) I1.kIn hrec ?_))
  refine codeAny_mono (F X.A.in1 X.stack { s1 with toks := s1.toks + 1 } H1 [.ref a] [.ref a] Q E0 hr.in1 I2.env0.in1 (.cons rfl .nil) q) fun r s' hq => ?_
  cases r with
  | error er => exact False.elim hq
  | ok fl =>
    cases fl with
    | ret u =>
      obtain ⟨v, H', I3, rv, q3⟩ := I2.after hq
      exact wpAny_of_eq (PySem.W.handedOut_of (handed_of rv)) ⟨v, H', I3, rv, q3⟩
    | next => exact False.elim hq
    | brk => exact False.elim hq
    | cont => exact False.elim hq
end
/-- o[i], o an instance whose class has a def for it -/
def tGi (C : Addr) (p : Pr) (ta tb : TE) : TE := fun σ H Q => ta σ H fun x H1 => tb σ H1 fun y H2 => ∃ a dx fs, x = .ref a ∧ H2 a = some (.ins C dx fs) ∧ p [x, y] H2 Q
theorem pe_Gi {X : Cx} {k : Nat} {g C : Addr} {p : Pr} {a b : Expr} {ta tb : TE} {pos : Pos} (F : Fn X.prog X.w X.K X.mg X.base k g p) (hr : Room (k + 1) X.A) (hm : Meth X.K C "__getitem__" g) (hf : PySem.W.fnIn X.K g = true) (ha : PE X a ta) (hb : PE X b tb)
    (hsl : ∀ (x : Addr) (i : Value), subscripted b true (.ref x) i = runValue (.builtin "lifetime.subscript" ⟨[.ref x, i], []⟩) := by intro _ _; rfl) : PE X (.Subscript a b pos) (tGi C p ta tb) := by
  refine ⟨fun pins s σ H Q I h => Subscript_ (thn (ha.run pins s σ H _ I h) fun u s1 ⟨x, H1, I1, rx, q1⟩ => thn (hb.run pins s1 σ H1 _ I1 q1) fun iv s2 ⟨y, H2, I2, ry, c, dx, fs, ex, ea, q2⟩ => ?_)⟩
  subst ex
  obtain rfl : u = Value.ref c := rx
  obtain ⟨mA, O, _, _, _, _⟩ := ins_get I2.hok ea
  obtain ⟨od, J, _⟩ := O.look
  obtain ⟨m, hF⟩ := I2.fr
  refine PySem.W.sub_K hF I2.ok.mod.kin J hm.at_ hf hm.fn (wpAny_call ?_) (hsl c iv)
  refine codeAny_mono (F X.A.in1 X.stack s2 H2 [.ref c, iv] [.ref c, y] Q E0 hr.in1 I2.env0.in1 (.cons rfl (.cons ry .nil)) q2) fun r s' hq => ?_
  cases r with
  | error er => exact False.elim hq
  | ok fl =>
    cases fl with
    | ret u => exact I2.after hq
    | next => exact False.elim hq
    | brk => exact False.elim hq
    | cont => exact False.elim hq
/-! ### what is complete is frozen: from now on it is read and never written -/
inductive Gh : Hp → (Hp → Prop) → Prop where
  | now {H : Hp} {R : Hp → Prop} (h : R H) : Gh H R
  | frz {H : Hp} {R : Hp → Prop} {a : Addr} {u : HO} (e : H a = some u) (mu : Mut (some u)) (h : ∀ o, Gh (upd H a (.frz o u)) R) : Gh H R
theorem Gh.run {X : Cx} {pins : List (Addr × Obj)} {σ : L2.St} {s : Shared} {H : Hp} {R : Hp → Prop} (g : Gh H R) : Inv X pins σ H s → ∃ H', Inv X pins σ H' s ∧ R H' := by
  induction g with
  | now h => exact fun I => ⟨_, I, h⟩
  | frz e mu h ih =>
    intro I
    obtain ⟨o, I1⟩ := I.lock e mu
    exact ih o I1
/-- e's value, then something is frozen -/
def tGh (t : TE) : TE := fun σ H Q => t σ H fun v H1 => Gh H1 (Q v)
theorem pe_gh {X : Cx} {e : Expr} {t : TE} (h : PE X e t) : PE X e (tGh t) :=
  ⟨fun pins s σ H Q I q => thn (h.run pins s σ H _ I q) fun u s1 ⟨v, H1, I1, r, g⟩ => let ⟨H2, I2, q2⟩ := g.run I1; ⟨v, H2, I2, r, q2⟩⟩
/-- something is frozen ahead of a statement -/
def tGs (t : TS) : TS := fun D σ H => Gh H (t D σ)
theorem ps_gh {X : Cx} {st : Stmt} {t : TS} (h : PS X st t) : PS X st (tGs t) :=
  ⟨fun pins s σ H D I q => let ⟨_, I2, q2⟩ := Gh.run q I; h.run pins s σ _ D I2 q2⟩

/-! ### what no step changes -/
def Imm : HO → Prop
  | .tup _ => True
  | .frz _ _ => True
  | .ins _ _ _ => True
  | _ => False
/-- tuples, frozen things, instances stand -/
def Px (H H' : Hp) : Prop := ∀ a o, H a = some o → Imm o → H' a = some o
theorem Px.refl (H : Hp) : Px H H := fun _ _ e _ => e
theorem Px.trans {H H1 H2 : Hp} (a : Px H H1) (b : Px H1 H2) : Px H H2 := fun c o e m => b c o (a c o e m) m
theorem Px.of (H H' : Hp) (e : Same H H') : Px H H' := fun a o h _ => e a o h
theorem Px.new {H : Hp} {p : Addr} {o : HO} (h : H p = none) : Px H (upd H p o) := fun a u e _ => by
  rw [upd_ne (ne_of_none e h)]
  exact e
theorem Px.mut {H : Hp} {p : Addr} {u o : HO} (h : H p = some u) (n : ¬ Imm u) : Px H (upd H p o) := fun a v e m => by
  rw [upd_ne (ne_of e h fun z => n (z ▸ m))]
  exact e
theorem same_new {H : Hp} {p : Addr} {o : HO} (h : H p = none) : Same H (upd H p o) := fun a u e => by
  rw [upd_ne (ne_of_none e h)]
  exact e
/-- what H does not know may change behind it -/
theorem same_mut {H H' : Hp} {p : Addr} {o : HO} (e : Same H H') (h : H p = none) : Same H (upd H' p o) := fun a u ha => by
  rw [upd_ne (ne_of_none ha h)]
  exact e a u ha
end Cab
set_option Elab.async false
set_option linter.all false
set_option maxRecDepth 100000
set_option maxHeartbeats 2000000
/-! dicts whose keys are tuples of tuples of ints -/
namespace Cab
open PySem PySem.Spec PyProof.Rows L2

/-! ### keys -/
mutual
/-- the value v is the key k -/
inductive IsK (H : Hp) : NestedKey → V → Prop where
  | num (i : Int) : IsK H (.num i) (.int i)
  | tup {a : Addr} {xs : List V} {ks : List NestedKey} (e : H a = some (.tup xs)) (h : IsKs H ks xs) : IsK H (.tup ks) (.ref a)
inductive IsKs (H : Hp) : List NestedKey → List V → Prop where
  | nil : IsKs H [] []
  | cons {k : NestedKey} {v : V} {ks : List NestedKey} {vs : List V} (h : IsK H k v) (t : IsKs H ks vs) : IsKs H (k :: ks) (v :: vs)
end
section
variable {H H' : Hp}
mutual
theorem IsK.px (e : Px H H') : ∀ (k : NestedKey) (v : V), IsK H k v → IsK H' k v
  | _, _, .num i => .num i
  | _, _, .tup h t => .tup (e _ _ h True.intro) (IsKs.px e _ _ t)
theorem IsKs.px (e : Px H H') : ∀ (ks : List NestedKey) (vs : List V), IsKs H ks vs → IsKs H' ks vs
  | _, _, .nil => .nil
  | _, _, .cons h t => .cons (IsK.px e _ _ h) (IsKs.px e _ _ t)
end
variable {P : Program} {w : World} {h : Heap}
mutual
theorem IsK.nested (ok : HOk P w H h) : ∀ (k : NestedKey) (v : V) (u : Value), IsK H k v → RelV v u → NestedIs h k u
  | _, _, u, .num i, r => by
    obtain ⟨t, e⟩ := (show ∃ t, u = Value.int i t from r)
    rw [e]
    exact .int i t
  | _, _, u, @IsK.tup _ a xs ks e t, r => by
    obtain rfl : u = Value.ref a := r
    obtain ⟨_, its, rv, o, h1, h2, n, h3⟩ := (show ObjOk P w H h a (.tup xs) from ok a _ e)
    exact .tup h1 h2 h3 (by simpa using IsKs.nested ok _ _ its t rv)
theorem IsKs.nested (ok : HOk P w H h) : ∀ (ks : List NestedKey) (vs : List V) (us : List Value), IsKs H ks vs → Vals vs us → NestedAll h ks us
  | _, _, _, .nil, .nil => .nil
  | _, _, _, .cons hk t, .cons r rs => .cons (IsK.nested ok _ _ _ hk r) (IsKs.nested ok _ _ _ t rs)
end
end

/-! ### the dict -/
abbrev Ent := NestedKey × Addr × V
def lookE (es : List Ent) (k : NestedKey) : Option V := (es.find? fun e => decide (e.1 = k)).map (·.2.2)
def setE (k : NestedKey) (v : V) (e : Ent) : Ent := if e.1 = k then (e.1, e.2.1, v) else e
def putE (es : List Ent) (k : NestedKey) (b : Addr) (v : V) : List Ent := if (lookE es k).isSome then es.map (setE k v) else es ++ [(k, b, v)]
abbrev RelE : List Ent → List (NestedKey × Addr × Value) → Prop := Paired fun p q => p.1 = q.1 ∧ p.2.1 = q.2.1 ∧ RelV p.2.2 q.2.2
/-- what stands at the dict's address a -/
def dNo (P : Program) (w : World) (a : Addr) (es : List Ent) : HO := .ext fun h => es.length ≤ sizeLine ∧ (a == sysModules) = false ∧ (∀ e ∈ es, e.1.depth ≤ 8) ∧ ∃ xs, RelE es xs ∧
  ∃ (o : Obj) (es' : Array DictEntry) (ep : Nat), h.get? a = some o ∧ o.ExactDict ∧ o.data = .dict es' ep ∧ es'.toList = xs.map (entryOfKey (nestedKind P w)) ∧ (xs.map (·.1)).Nodup
theorem dNo_mut {P : Program} {w : World} {a : Addr} {es : List Ent} : Mut (some (dNo P w a es)) := True.intro
theorem dNo_imm {P : Program} {w : World} {a : Addr} {es : List Ent} : ¬ Imm (dNo P w a es) := fun z => z
/-- the keys of the entries stand -/
def KeysOk (H : Hp) (es : List Ent) : Prop := ∀ e ∈ es, IsK H e.1 (.ref e.2.1)
theorem KeysOk.px {H H' : Hp} {es : List Ent} (e : Px H H') (k : KeysOk H es) : KeysOk H' es := fun x hx => IsK.px e _ _ (k x hx)

section
variable {es : List Ent} {xs : List (NestedKey × Addr × Value)}
theorem RelE.look (r : RelE es xs) (k : NestedKey) : RelO (lookE es k) ((atKey xs k).map (·.2)) := by
  induction r with
  | nil => exact True.intro
  | @cons p q ps qs h t ih =>
    unfold lookE atKey at ih ⊢
    rw [List.find?_cons, List.find?_cons]
    by_cases e : p.1 = k
    · have e' : q.1 = k := h.1.symm.trans e
      rw [decide_eq_true e, decide_eq_true e']
      exact h.2.2
    · have e' : ¬ q.1 = k := fun z => e (h.1.trans z)
      rw [decide_eq_false e, decide_eq_false e']
      exact ih
theorem RelE.set (r : RelE es xs) (k : NestedKey) {v : V} {u : Value} (rv : RelV v u) : RelE (es.map (setE k v)) (xs.map (putAt k u)) := by
  induction r with
  | nil => exact .nil
  | @cons p q ps qs h t ih =>
    rw [List.map_cons, List.map_cons]
    refine .cons ?_ ih
    unfold setE putAt
    by_cases e : p.1 = k
    · rw [if_pos e, if_pos (h.1.symm.trans e)]
      exact ⟨h.1, h.2.1, rv⟩
    · rw [if_neg e, if_neg (fun z => e (h.1.trans z))]
      exact h
theorem RelE.keys (r : RelE es xs) : Vals (es.map fun e => V.ref e.2.1) (xs.map fun x => Value.ref x.2.1) := by
  induction r with
  | nil => exact .nil
  | cons h t ih => exact .cons (congrArg Value.ref h.2.1.symm) ih
theorem RelE.put (r : RelE es xs) (k : NestedKey) (b : Addr) {v : V} {u : Value} (rv : RelV v u) : RelE (putE es k b v) (storedH xs k b u) := by
  have q := (r.look k).isSome_eq
  rw [Option.isSome_map] at q
  unfold putE storedH
  rw [q]
  by_cases e : (atKey xs k).isSome = true
  · rw [if_pos e, if_pos e]
    exact r.set k rv
  · rw [if_neg e, if_neg e]
    exact Paired.snoc r ⟨rfl, rfl, rv⟩
theorem putE_mem {k : NestedKey} {b : Addr} {v : V} {e : Ent} (h : e ∈ putE es k b v) : (∃ e0 ∈ es, e0.1 = e.1 ∧ e0.2.1 = e.2.1) ∨ (e.1 = k ∧ e.2.1 = b) := by
  unfold putE at h
  by_cases q : (lookE es k).isSome = true
  · rw [if_pos q] at h
    obtain ⟨e0, h0, rfl⟩ := List.mem_map.mp h
    refine .inl ⟨e0, h0, ?_⟩
    unfold setE
    split <;> exact ⟨rfl, rfl⟩
  · rw [if_neg q] at h
    rcases List.mem_append.mp h with h | h
    · exact .inl ⟨e, h, rfl, rfl⟩
    · rw [List.mem_singleton.mp h]
      exact .inr ⟨rfl, rfl⟩
theorem putE_length (k : NestedKey) (b : Addr) (v : V) : (putE es k b v).length ≤ es.length + 1 := by
  unfold putE
  split
  · rw [List.length_map]
    exact Nat.le_succ _
  · rw [List.length_append, List.length_singleton]
    exact Nat.le_refl _
theorem KeysOk.put {H : Hp} {k : NestedKey} {b : Addr} {v : V} (ko : KeysOk H es) (hk : IsK H k (.ref b)) : KeysOk H (putE es k b v) := fun e he => by
  rcases putE_mem he with ⟨e0, h0, e1, e2⟩ | ⟨e1, e2⟩
  · rw [← e1, ← e2]
    exact ko e0 h0
  · rw [e1, e2]
    exact hk
end
section
variable {P : Program} {w : World} {H : Hp} {h : Heap} {a : Addr} {es : List Ent}
theorem dn_rd (ok : HOk P w H h) (e : Rd H a (dNo P w a es)) (ko : KeysOk H es) : es.length ≤ sizeLine ∧ (a == sysModules) = false ∧ (∀ e ∈ es, e.1.depth ≤ 8) ∧
    ∃ xs, RelE es xs ∧ h.DictOfH (nestedKind P w) a xs := by
  obtain ⟨⟨z, y, dp, xs, r, o, es', ep, h1, h2, h3, h4, h5⟩, _⟩ := (show ObjOk P w H h a (dNo P w a es) from e.ok ok)
  refine ⟨z, y, dp, xs, r, o, es', ep, h1, h2, h3, h4, ?_, h5⟩
  have all : ∀ {l : List Ent} {m : List (NestedKey × Addr × Value)}, RelE l m → (∀ e ∈ l, IsK H e.1 (.ref e.2.1) ∧ e.1.depth ≤ 8) → ∀ x ∈ m, (nestedKind P w).is h x.1 x.2.1 := by
    intro l m q
    induction q with
    | nil => intro _ x hx; exact nomatch hx
    | @cons p q ps qs hq t ih =>
      intro kl x hx
      rcases List.mem_cons.mp hx with e | hx
      · subst e
        obtain ⟨k1, k2⟩ := kl p List.mem_cons_self
        rw [← hq.1, ← hq.2.1]
        exact ⟨IsK.nested ok _ _ _ k1 rfl, k2⟩
      · exact ih (fun e he => kl e (List.mem_cons_of_mem _ he)) x hx
  exact all r fun e he => ⟨ko e he, dp e he⟩
theorem dn_ok {H' : Hp} {h' : Heap} {xs : List (NestedKey × Addr × Value)} (z : es.length ≤ sizeLine) (y : (a == sysModules) = false) (dp : ∀ e ∈ es, e.1.depth ≤ 8) (r : RelE es xs) (dd : h'.DictOfH (nestedKind P w) a xs) : ObjOk P w H' h' a (dNo P w a es) := by
  obtain ⟨o, es', ep, h1, h2, h3, h4, _, h5⟩ := dd
  refine ⟨⟨z, y, dp, xs, r, o, es', ep, h1, h2, h3, h4, h5⟩, ⟨o, h1⟩, fun k1 k2 hk k => ?_⟩
  obtain ⟨z, y, dp, xs, r, o, es', ep, h1, h2, h3, h4, h5⟩ := hk
  exact ⟨z, y, dp, xs, r, o, es', ep, k o h1, h2, h3, h4, h5⟩
theorem dn_empty {H' : Hp} (h : Heap) (hb : sysModules < h.objs.size) : ObjOk P w H' (h.push { cls := .type "dict", data := .dict #[] }) h.objs.size (dNo P w h.objs.size []) :=
  dn_ok (Nat.zero_le _) (beq_eq_false_iff_ne.mpr (Ne.symm (Nat.ne_of_lt hb))) (fun _ z => nomatch z) .nil (Heap.DictOfH.new h)
end

/-! ### the rules -/
/-- a dict may be read at H: its entries -/
def DnR (P : Program) (w : World) (H : Hp) (a : Addr) (es : List Ent) : Prop := Rd H a (dNo P w a es) ∧ KeysOk H es
section
variable {X : Cx} {pins : List (Addr × Obj)} {σ : L2.St} {H : Hp} {s : Shared} {a b : Addr} {es : List Ent} {k : NestedKey} {A : Around} {E : Value → Shared → Prop}
theorem nk_room (hr : A.units + 64 < cLine) : (nestedKind X.prog X.w).room A.in1 := by
  show A.units + 1 + 8 < cLine
  omega
theorem nk_is (I : Inv X pins σ H s) (hk : IsK H k (.ref b)) (hd : k.depth ≤ 8) : (nestedKind X.prog X.w).is s.heap k b := ⟨IsK.nested I.hok _ _ _ hk rfl, hd⟩
def rDnIn (P : Program) (w : World) (neg : Bool) : R2 := fun x y H Q => ∃ a b es k, x = .ref b ∧ y = .ref a ∧ DnR P w H a es ∧ IsK H k (.ref b) ∧ k.depth ≤ 8 ∧ Q (.bl (if neg then !(lookE es k).isSome else (lookE es k).isSome)) H
theorem op_dnIn (hu : X.A.units + 64 < cLine) : OpR X (compareOp .In) (rDnIn X.prog X.w false) := by
  intro pins s σ H x y v u Q I rx ry h
  obtain ⟨a, b, es, k, rfl, rfl, ⟨hd, ko⟩, hk, dp, q⟩ := h
  cases rx
  cases ry
  obtain ⟨z, low, _, xs, rel, dd⟩ := dn_rd I.hok hd ko
  refine wpAny_in_heap (nk_room hu) (nk_is I hk dp) low dd ?_
  have e := (rel.look k).isSome_eq
  rw [Option.isSome_map] at e
  rw [← e]
  exact ⟨.bl _, H, I.tok _, rfl, q⟩
theorem op_dnNotIn (hu : X.A.units + 64 < cLine) : OpR X (compareOp .NotIn) (rDnIn X.prog X.w true) := by
  intro pins s σ H x y v u Q I rx ry h
  obtain ⟨a, b, es, k, rfl, rfl, ⟨hd, ko⟩, hk, dp, q⟩ := h
  cases rx
  cases ry
  obtain ⟨z, low, _, xs, rel, dd⟩ := dn_rd I.hok hd ko
  refine wpAny_notIn_heap (nk_room hu) (nk_is I hk dp) low dd ?_
  have e := (rel.look k).isSome_eq
  rw [Option.isSome_map] at e
  rw [← e]
  exact ⟨.bl _, H, I.tok _, rfl, q⟩
/-- d[k], it is there -/
def tDn (P : Program) (w : World) (td ty : TE) : TE := fun σ H Q => td σ H fun x H1 => ty σ H1 fun y H2 => ∃ a b es k v, x = .ref a ∧ y = .ref b ∧ DnR P w H2 a es ∧ IsK H2 k (.ref b) ∧ k.depth ≤ 8 ∧ lookE es k = some v ∧ Q v H2
theorem pe_dn {o i : Expr} {td ty : TE} {pos : Pos} (hu : X.A.units + 64 < cLine) (ho : PE X o td) (hi : PE X i ty) (hs : NoSl i := by intro _ _; rfl) : PE X (.Subscript o i pos) (tDn X.prog X.w td ty) := by
  refine ⟨fun pins s σ H Q I h => ?_⟩
  refine subD_of PySem.F.slot_dict_getitem.lookup hs (thn (ho.run pins s σ H _ I h) fun u s1 ⟨x, H1, I1, rx, q1⟩ => thn (hi.run pins s1 σ H1 _ I1 q1) fun iv s2 ⟨y, H2, I2, ry, a, b, es, k, v, ex, ey, ⟨hd, ko⟩, hk, dp, l, q2⟩ => ?_)
  subst ex
  subst ey
  obtain rfl : u = Value.ref a := rx
  obtain rfl : iv = Value.ref b := ry
  obtain ⟨z, low, _, xs, rel, dd⟩ := dn_rd I2.hok hd ko
  obtain ⟨w', hw, rw'⟩ := RelO.some_of (v := v) (o := (atKey xs k).map (·.2)) (by rw [← l]; exact rel.look k)
  obtain ⟨p, hp, hp2⟩ := Option.map_eq_some_iff.mp hw
  refine ⟨dd.typeIs, wpAny_getItem_heap (nk_room hu) (nk_is I2 hk dp) dd hp ?_⟩
  rw [hp2]
  exact ⟨v, H2, I2.tok _, rw', q2⟩
/-- d[k] = v -/
def sDn (P : Program) (w : World) : TSet := fun x y v H Q => ∃ a b es k, x = .ref a ∧ y = .ref b ∧ H a = some (dNo P w a es) ∧ KeysOk H es ∧ IsK H k (.ref b) ∧ k.depth ≤ 8 ∧ es.length < sizeLine ∧ Q (upd H a (dNo P w a (putE es k b v)))
theorem set_dn (hu : X.A.units + 64 < cLine) : PSet X (sDn X.prog X.w) := by
  intro pins s σ H x y v ov iv u Q I rx ry rv h
  obtain ⟨a, b, es, k, rfl, rfl, hd, ko, hk, dp, hl, q⟩ := h
  cases rx
  cases ry
  obtain ⟨z, low, hdp, xs, rel, dd⟩ := dn_rd I.hok (.inl hd) ko
  have hz : xs.length ≤ sizeLine := by rw [← Paired.length rel]; exact z
  have hl2 : (putE es k b v).length ≤ sizeLine := Nat.le_trans (putE_length k b v) hl
  refine wpAny_setItem_heap (hsz := hz) (nk_room hu) (nk_is I hk dp) dd fun h' dd' hs => ⟨_, ?_, q⟩
  obtain ⟨o, es', ep, hq, _⟩ := id dd'
  refine d_write I (by rw [hd]; exact dNo_mut) hs ⟨o, hq⟩ (dn_ok hl2 low (fun e he => ?_) (rel.put k b rv) dd')
  rcases putE_mem he with ⟨e0, h0, e1, _⟩ | ⟨e1, _⟩
  · rw [← e1]
    exact hdp e0 h0
  · rw [e1]
    exact dp
/-- {}, to be such a dict -/
def tDnNew (P : Program) (w : World) : TE := fun _ H Q => ∀ p, H p = none → Q (.ref p) (upd H p (dNo P w p []))
theorem pe_dnNew {pos : Pos} : PE X (.Dict [] [] pos) (tDnNew X.prog X.w) := ⟨fun pins s σ H Q I h =>
  wpAny_Dict_empty ⟨.ref s.heap.objs.size, _, I.laid (a := s.heap.objs.size) (o := dNo X.prog X.w s.heap.objs.size []) (t' := s.toks) (fun _ _ q => Heap.get?_push_of_some _ q) (Nat.le_refl _) (dn_empty s.heap I.big), rfl, h _ (I.hok.fresh (Nat.le_refl _))⟩⟩
theorem tPairs_one {tk tv : TE} {σ : L2.St} {H : Hp} {Q : List (V × V) → Hp → Prop} (h : tk σ H fun y H1 => tv σ H1 fun v H2 => Q [(y, v)] H2) : tPairs [(tk, tv)] σ H Q := h
/-- {k: v} -/
def tDn1 (P : Program) (w : World) (tk tv : TE) : TE := fun σ H Q => ∀ p, H p = none → tk σ (upd H p (dNo P w p [])) fun y H1 => tv σ H1 fun v H2 => H2 p = some (dNo P w p []) ∧
  ∃ b k, y = .ref b ∧ IsK H2 k (.ref b) ∧ k.depth ≤ 8 ∧ Q (.ref p) (upd H2 p (dNo P w p [(k, b, v)]))
theorem pe_dn1 {kx vx : Expr} {tk tv : TE} {pos : Pos} (hu : X.A.units + 64 < cLine) (hk : PE X kx tk) (hv : PE X vx tv) : PE X (.Dict [some kx] [vx] pos) (tDn1 X.prog X.w tk tv) := by
  refine ⟨fun pins s σ H Q I h => ?_⟩
  have hn := I.hok.fresh (Nat.le_refl s.heap.objs.size)
  have I1 := I.laid (a := s.heap.objs.size) (o := dNo X.prog X.w s.heap.objs.size []) (h' := s.heap.push { cls := .type "dict", data := .dict #[] }) (t' := s.toks) (fun _ _ q => Heap.get?_push_of_some _ q) (Nat.le_refl _) (dn_empty s.heap I.big)
  have hp : PPs X pos [some kx] [vx] [(tk, tv)] := pps_cons hk hv pps_nil
  have room : (nestedKind X.prog X.w).room X.A := by
    show X.A.units + 8 < cLine
    omega
  rw [arm_eval_Dict, show (evalEachOpt [some kx] X.env).zip ((evalEach [vx] X.env).map fun v => do let x ← v; standAt pos; pure x) = (pairTrees [some kx] [vx] X.env pos).map fun p => (some p.1, p.2) from rfl,
    dictDisplay_pairs (pairTrees [some kx] [vx] X.env pos) (by intro z; cases z) (by show 1 < _; decide)]
  refine wpAny_bind (wpAny_standAt (wpAny_bind (wpAny_subDictH (knd := nestedKind X.prog X.w) (Q := fun d s' => wpAny (model X.prog X.w) X.A (pure (Value.ref d)) (EP X pins σ Q) X.xe s') room (by show 1 ≤ 15; decide) ?_)))
  refine thn (hp.run pins _ σ _ (fun ps H2 => match ps with
    | [(y, v)] => H2 s.heap.objs.size = some (dNo X.prog X.w s.heap.objs.size []) ∧ ∃ b k, y = .ref b ∧ IsK H2 k (.ref b) ∧ k.depth ≤ 8 ∧ Q (.ref s.heap.objs.size) (upd H2 s.heap.objs.size (dNo X.prog X.w s.heap.objs.size [(k, b, v)]))
    | _ => False) I1 ?_) fun ws s2 ⟨ps, H2, I2, rel, hq⟩ => ?_
  · exact tPairs_one (h _ hn)
  · cases rel with
    | nil => exact False.elim hq
    | @cons a c as bs h1 t =>
      cases t with
      | cons _ _ => exact False.elim hq
      | nil =>
      obtain ⟨y, v⟩ := a
      obtain ⟨e, b, k, ey, kk, dp, q2⟩ := hq
      subst ey
      obtain ⟨c1, c2⟩ := c
      obtain rfl : c1 = Value.ref b := h1.1
      obtain ⟨z, low, _, xs, r0, dd⟩ := dn_rd I2.hok (.inl e) (fun _ z => nomatch z)
      cases r0
      refine ⟨[(k, b, c2)], ⟨rfl, rfl, nk_is I2 kk dp, True.intro⟩, dd, fun h' tk dd' hs => wpAny_pure ⟨.ref s.heap.objs.size, _, ?_, rfl, q2⟩⟩
      obtain ⟨o, _, _, ho, _⟩ := id dd'
      exact d_write I2 (by rw [e]; exact dNo_mut) hs ⟨o, ho⟩ (dn_ok (show 1 ≤ sizeLine by decide) low (fun x hx => by rw [List.mem_singleton.mp hx]; exact dp) (.cons ⟨rfl, rfl, h1.2⟩ .nil) dd')
/-- list(d): the keys -/
def rDnList (P : Program) (w : World) : List V → Hp → VK → Prop := fun xs H Q => ∃ d es, xs = [V.ref d] ∧ DnR P w H d es ∧ ∀ p, H p = none → Q (.ref p) (upd H p (.lst (es.map fun e => V.ref e.2.1)))
theorem call_dnList (hc : X.calm = true) : CallR X (.type "list") (rDnList X.prog X.w) := by
  intro pins s σ H xs us Q I r h
  obtain ⟨d, es, rfl, ⟨hd, ko⟩, q⟩ := h
  obtain ⟨u, rfl, rx⟩ := r.one
  cases rx
  obtain ⟨z, hs, _, ks, pr, o, es', ep, ho, hx, hdt, he, _, hn⟩ := dn_rd I.hok hd ko
  have l1 : es'.size = ks.length := size_of_entries he
  have l2 : es.length = ks.length := Paired.length pr
  refine PySem.W.kdl_call (kdl_raw hs hx hdt) (I.ok.hd hc) ho (by omega) fun h' tk acc' c' kp e it => ?_
  have ea : acc'.toList = ks.map fun x => Value.ref x.2.1 := by
    apply List.ext_getElem?
    intro j
    rw [List.getElem?_map]
    cases hj : acc'.toList[j]? with
    | none =>
      have h1 := List.getElem?_eq_none_iff.mp hj
      rw [Array.length_toList, it.1] at h1
      rw [List.getElem?_eq_none (by omega)]
      rfl
    | some v =>
      obtain ⟨en, hen, hv⟩ := it.2 j v (by rw [← Array.getElem?_toList]; exact hj)
      have qe := entry_at he j
      rw [hen] at qe
      cases hb : ks[j]? with
      | none =>
        rw [hb] at qe
        exact nomatch (show some en = none from qe)
      | some b =>
        rw [hb] at qe
        rw [hv, show en = entryOfKey (nestedKind X.prog X.w) b from Option.some.inj qe]
        rfl
  have rv : Vals (es.map fun e => V.ref e.2.1) acc'.toList := by
    rw [ea]
    exact RelE.keys pr
  refine ⟨.ref s.heap.objs.size, _, I.laid (t' := tk) (o := .lst (es.map fun e => V.ref e.2.1)) kp (Nat.le_refl _) ?_, rfl, q _ (I.hok.fresh (Nat.le_refl _))⟩
  exact ⟨by rw [List.length_map]; omega, acc'.toList, c', rv, by rw [Array.toArray_toList]; exact e⟩
end
end Cab
set_option Elab.async false
set_option linter.all false
set_option maxRecDepth 100000
set_option maxHeartbeats 2000000
/-! dict comprehensions: of any kind of store, with one for or two -/
namespace Cab
open PySem PySem.Spec PyProof.Rows L2

/-- what is left of a turn behind the first target and its tests: K is wanted behind it -/
abbrev Tail := Env → Addr → (Value → Shared → Prop) → (Shared → Prop) → Shared → Prop
/-- the turns of the loop W0 over the first source -/
def Loops (prog : Program) (w : World) (A : Around) (W0 : Expr) (tg : Expr) (ifs : List Expr) (B : Tail) : Prop :=
  ∀ (env : Env) (it : Value) (D : Addr) (R : Result → Shared → Prop) (s : Shared) (I : Nat → Shared → Prop),
    (∀ n s, I n s → wpAny (model prog w) A (pyNext it) (fun r s1 => match r with
      | none => R (.ok .next) s1
      | some v => wpAny (model prog w) A (letOwnedTupleGo tg it v) (fun _ s2 => wpAny (model prog w) A (assign tg env v) (fun _ s3 =>
          wpAny (model prog w) A (forIn ifs true fun c r => if r = true then do let ok ← isTrue c env (eval c env); pure (ForInStep.yield ok) else pure (ForInStep.yield r)) (fun ok s4 =>
            if ok = true then B env D (notedBy (model prog w) A env fun e s' => R (.error e) s') (fun s' => ∃ m, m < n ∧ I m s') s4
            else ∃ m, m < n ∧ I m s4) (notedBy (model prog w) A env fun e s' => R (.error e) s') s3) (notedBy (model prog w) A env fun e s' => R (.error e) s') s2)
          (notedBy (model prog w) A env fun e s' => R (.error e) s') s1) (notedBy (model prog w) A env fun e s' => R (.error e) s') s) →
    ∀ n, I n s → codeAny (model prog w) A (.compLoop W0 0 it (.ref D) env) R s
/-- one for: the store -/
def tail1 (prog : Program) (w : World) (A : Around) (kx vx : Expr) : Tail := fun env D E K s =>
  wpAny (model prog w) A (eval kx env) (fun kv s4 => wpAny (model prog w) A (eval vx env) (fun vv s5 => wpAny (model prog w) A (dictSet D kv vv) (fun _ s6 => K s6) E s5) E s4) E s
theorem loops1 {prog : Program} {w : World} {A : Around} {kx vx tg iter : Expr} {ifs : List Expr} {scope : Scope} {pos : Pos} : Loops prog w A (.DictComp kx vx [⟨tg, iter, ifs, 0⟩] scope pos) tg ifs (tail1 prog w A kx vx) :=
  fun env it D R s I turn n h => compLoop_anyD (env := env) I turn n h

/-- {.. for tg in iter if .. (more)}: tb reads what is left of a turn -/
def tDcx (u0 : Addr → HO) (wi : TI) (g : TG) (tt : TT) (tb : L2.St → Hp → Addr → (Hp → Prop) → Prop) (vs : List Nat) : TE := fun σ H Q => wi σ H fun J H1 => ∀ D, H1 D = none → ∃ W : Nat → Nat → Hp → Prop, (∃ m, W 0 m (upd H1 D (u0 D))) ∧
  ∀ i m H, W i m H → (J.stop i H ∧ Q (.ref D) H) ∨ (J.go i H ∧ ∃ Nx : Hp → Prop, (∀ H', Nx H' → ∃ m', m' < m ∧ W (i + 1) m' H') ∧
    ∀ x H', J.yld i H x H' → g x (wipe σ vs) H' fun σ2 H2 => wipe σ2 vs = wipe σ vs ∧ tt σ2 H2 fun b H3 => if b = true then tb σ2 H3 D Nx else Nx H3)
section
variable {X : Cx}
/-- the context of the block -/
abbrev Blk (X : Cx) (s : Shared) (H : Hp) (scope : Scope) (cl : List (Str × Addr)) (C : Addr) (fp : List Addr) : Cx := X.blk s H scope (compEnvC scope cl C X.env) fp
/-- the tail does what tb reads -/
def TailOk (X : Cx) (scope : Scope) (B : Tail) (tb : L2.St → Hp → Addr → (Hp → Prop) → Prop) (vs : List Nat) : Prop :=
  ∀ (s : Shared) (H : Hp) (C : Addr) (cl : List (Str × Addr)) (fp : List Addr) (pins : List (Addr × Obj)) (σ2 : L2.St) (H3 : Hp) (s3 : Shared) (D : Addr) (Nx : Hp → Prop) (E : Value → Shared → Prop) (K : Shared → Prop),
    Inv (Blk X s H scope cl C fp) pins σ2 H3 s3 → tb σ2 H3 D Nx →
    (∀ σ9 H' s', Inv (Blk X s H scope cl C fp) pins σ9 H' s' → σ9.length = σ2.length → (∀ (j : Nat) v, (wipe σ2 vs)[j]? = some (some v) → σ9[j]? = some (some v)) → Nx H' → K s') →
    B (compEnvC scope cl C X.env) D E K s3
theorem dcx_core {pins : List (Addr × Obj)} {s : Shared} {σ : L2.St} {H : Hp} {Q : VK} {kx vx tg iter : Expr} {ifs : List Expr} {rest : List Comprehension} {scope : Scope} {own : List (Str × Nat)} {pos pos' : Pos} {u0 : Addr → HO} {wi : TI} {g : TG} {tt : TT}
    {tb : L2.St → Hp → Addr → (Hp → Prop) → Prop} {B : Tail} {use : Option (Value → Sem Unit)} {Qf : Value → Shared → Prop}
    (hc : X.calm = true) (hN : X.N.Nodup) (I : Inv X pins σ H s) (hi : PI X tg iter wi) (ok : BlkOk X.N X.env.scope scope own)
    (hg : ∀ (s : Shared) (H : Hp) (C : Addr) (cl : List (Str × Addr)) (fp : List Addr), PG (Blk X s H scope cl C fp) tg g) (ht : ∀ (s : Shared) (H : Hp) (C : Addr) (cl : List (Str × Addr)) (fp : List Addr), PTs (Blk X s H scope cl C fp) ifs tt)
    (hu : ∀ (H : Hp) (h : Heap), sysModules < h.objs.size → ObjOk X.prog X.w H (h.push { cls := .type "dict", data := .dict #[] }) h.objs.size (u0 h.objs.size))
    (hL : Loops X.prog X.w X.A (.DictComp kx vx (⟨tg, iter, ifs, 0⟩ :: rest) scope pos) tg ifs B) (hB : TailOk X scope B tb (own.map (·.2))) (hs : ∀ x, foldedSetIterable iter X.env x = pure x)
    (h : tDcx u0 wi g tt tb (own.map (·.2)) σ H Q)
    (hRR : ∀ D C s' m H', Inv X pins σ H' s' → Q (.ref D) H' → s'.heap.Ns C m → FpOk X pins H' C → compPost (model X.prog X.w) X.A X.xe use Qf (.ref D) C (.ok .next) s') :
    wpAny (model X.prog X.w) X.A (comprehension (.DictComp kx vx (⟨tg, iter, ifs, 0⟩ :: rest) scope pos) scope X.env pos' newDict false (eval iter X.env) use) Qf X.xe s := by
  have hfree : ∀ y ∈ scope.names, y.2 = .free → ∃ c, X.env.cells.lookup y.1 = some c := fun y hy e => (ok.free y hy e).elim (fun k => I.ok.has _ (.inl k)) fun k => I.ok.has _ (.inr k)
  refine wpAny_comprehension_free (use := use) rfl hs (closure_ok hfree) ok.kind (fun y hy e => by rw [ok.uniq y hy, e]) (thn (hi.run pins s σ H _ I h) fun xv s1 hx => thn hx fun itv s2 h2 => ?_)
  obtain ⟨it, fp, tn, J, H2, e, I2, T, st2, f2, q⟩ := h2
  subst e
  refine wpAny_newObj_type (newEnv_comp ?_)
  obtain ⟨D, hD⟩ : ∃ D, s2.heap.objs.size = D := ⟨_, rfl⟩
  rw [hD]
  obtain ⟨W, ⟨m0, w0⟩, turn⟩ := q D (I2.hok.fresh (Nat.le_of_eq hD))
  obtain ⟨s3, hs3⟩ : ∃ s3 : Shared, ({ s2 with heap := s2.heap.push { cls := .type "dict", data := .dict #[] } } : Shared) = s3 := ⟨_, rfl⟩
  have h3 : s3.heap = s2.heap.push { cls := .type "dict", data := .dict #[] } := by rw [← hs3]
  have I3 : Inv X pins σ (upd H2 D (u0 D)) s3 := by
    rw [← hs3, ← hD]
    exact I2.laid (t' := s2.toks) (fun b o e => Heap.get?_push_of_some _ e) (Nat.le_refl _) (hu _ _ I2.big)
  have f3 : ∀ b ∈ fp, FpOk X pins (upd H2 D (u0 D)) b ∧ b < s3.heap.objs.size := fun b hb => by
    obtain ⟨o, e, _⟩ := T.obj _ _ st2 b hb
    have lt := Heap.lt_size e
    refine ⟨⟨?_, (f2 b hb).2⟩, by rw [h3, Heap.size_push]; exact Nat.lt_succ_of_lt lt⟩
    rw [upd_ne (by rw [← hD]; exact Nat.ne_of_lt lt)]
    exact (f2 b hb).1
  have st3 : tn 0 s3.heap := T.keep _ _ _ st2 fun b _ o e => by rw [h3]; exact Heap.get?_push_of_some _ e
  have I4 := block_start I3 ok hN f3
  obtain ⟨C, hC⟩ : ∃ C, s3.heap.objs.size = C := ⟨_, rfl⟩
  obtain ⟨cl, hcl⟩ : ∃ cl, cellsFrom (s3.heap.objs.size + 1) scope.names (cloFrom X.env.cells scope.names []) = cl := ⟨_, rfl⟩
  rw [hcl, hC] at I4
  show codeAny _ _ (.compStart (.DictComp kx vx (⟨tg, iter, ifs, 0⟩ :: rest) scope pos) 0 (.ref it) (.ref D) (compEnvC scope (cellsFrom (s2.heap.push { cls := .type "dict", data := .dict #[] }).objs.size.succ scope.names (cloFrom X.env.cells scope.names [])) (s2.heap.push { cls := .type "dict", data := .dict #[] }).objs.size X.env)) (compPost (model X.prog X.w) X.A X.xe use Qf (.ref D) (s2.heap.push { cls := .type "dict", data := .dict #[] }).objs.size) _
  have eC : (s2.heap.push { cls := .type "dict", data := .dict #[] }).objs.size = C := by rw [← h3, hC]
  have ecl : cellsFrom (s2.heap.push { cls := .type "dict", data := .dict #[] }).objs.size.succ scope.names (cloFrom X.env.cells scope.names []) = cl := by rw [← h3]; exact hcl
  rw [ecl, eC]
  obtain ⟨s4, hs4⟩ : ∃ s4 : Shared, ({ s3 with heap := pushCells (s3.heap.push { cls := .type "dict", data := .dict #[] }) scope.names } : Shared) = s4 := ⟨_, rfl⟩
  rw [hs4] at I4
  have es4 : ({ s2 with heap := pushCells ((s2.heap.push { cls := .type "dict", data := .dict #[] }).push { cls := .type "dict", data := .dict #[] }) scope.names } : Shared) = s4 := by rw [← hs4, ← hs3]
  show codeAny _ _ _ _ ({ s2 with heap := pushCells ((s2.heap.push { cls := .type "dict", data := .dict #[] }).push { cls := .type "dict", data := .dict #[] }) scope.names } : Shared)
  rw [es4]
  have st4 : tn 0 s4.heap := T.keep _ _ _ st3 fun b _ o e => by rw [← hs4]; exact pushCells_keeps _ _ _ _ (Heap.get?_push_of_some _ e)
  obtain ⟨H3, hH3⟩ : ∃ H3, upd H2 D (u0 D) = H3 := ⟨_, rfl⟩
  rw [hH3] at I3 I4 w0 f3
  have nfp : ∀ b ∈ fp, H3 b = none := fun b hb => (f3 b hb).1.1
  have stat : ∀ {σ' : L2.St} {H' : Hp} {s' : Shared}, Inv (Blk X s3 H3 scope cl C fp) [] σ' H' s' → (∀ b ∈ fp, H' b = none) → ∀ b ∈ fp, FpOk (Blk X s3 H3 scope cl C fp) [] H' b := fun {σ' H' s'} I' hn b hb =>
    ⟨hn b hb, (I'.ok.exf b hb).1, I'.ok.exfs b hb, .inl hb, fun x c e => (I'.ok.exf b hb).2 x c e, fun p hp => absurd (show p ∈ ([] : List (Addr × Obj)) ++ [] from hp) (by simp)⟩
  have key : codeAny (model X.prog X.w) X.A (.compLoop (.DictComp kx vx (⟨tg, iter, ifs, 0⟩ :: rest) scope pos) 0 (.ref it) (.ref D) (compEnvC scope cl C X.env)) (compPost (model X.prog X.w) X.A X.xe use Qf (.ref D) C) s4 := by
    refine hL _ _ D _ s4 (fun n s' => ∃ i H', Inv (Blk X s3 H3 scope cl C fp) [] (wipe σ (own.map (·.2))) H' s' ∧ tn i s'.heap ∧ (∀ b ∈ fp, H' b = none) ∧ W i n H') ?_ m0 ⟨0, H3, I4, st4, nfp, w0⟩
    rintro n s5 ⟨i, H5, I5, st5, n5, w5⟩
    rcases turn i n H5 w5 with ⟨stop, qq⟩ | ⟨go, Nx, hNx, step⟩
    · refine thnF (T.done (Blk X s3 H3 scope cl C fp) rfl rfl rfl hc i [] s5 _ H5 (fun _ _ => False) I5 (stat I5 n5) st5 stop) fun r s6 ⟨hr, I6⟩ => ?_
      subst hr
      have I7 : Inv X pins σ H5 s6 := I3.call' (ch := fp) I6.os I6.base I6.hok I6.bare fun b hb => ⟨(f3 b hb).1.2.2.2.1, (f3 b hb).1.2.1, (f3 b hb).1.2.2.2.2.1, (f3 b hb).1.2.2.2.2.2⟩
      obtain ⟨m, hn, _⟩ := I6.loc
      exact hRR D C s6 m H5 I7 qq hn (I3.fpOk (Nat.le_of_eq hC) I6.free)
    · refine thnF (T.item (Blk X s3 H3 scope cl C fp) rfl rfl rfl hc i [] s5 _ H5 (fun _ _ => False) I5 (stat I5 n5) st5 go) fun r s6 ⟨u, hr, h6⟩ => ?_
      subst hr
      refine thnF h6 fun _ s7 ⟨x, H7, I7, r7, y7, st7, n7⟩ => ?_
      refine thnF ((hg s3 H3 C cl fp).run _ s7 _ H7 x u _ (I7.pinned (stat I7 n7) (T.obj _ _ st7)) r7 (step x H7 y7)) fun _ s8 ⟨σ8, H8, I8, hw8, q8⟩ => ?_
      refine thnF ((ht s3 H3 C cl fp).run _ s8 σ8 H8 _ I8 q8) fun b s9 ⟨H9, I9, q9⟩ => ?_
      have fin : ∀ (σ9 : L2.St) (H' : Hp) (s' : Shared), Inv (Blk X s3 H3 scope cl C fp) ([] ++ pinsAt fp s7.heap) σ9 H' s' → σ9.length = σ8.length → (∀ (j : Nat) v, (wipe σ8 (own.map (·.2)))[j]? = some (some v) → σ9[j]? = some (some v)) → Nx H' →
          ∃ m, m < n ∧ ∃ i H', Inv (Blk X s3 H3 scope cl C fp) [] (wipe σ (own.map (·.2))) H' s' ∧ tn i s'.heap ∧ (∀ b ∈ fp, H' b = none) ∧ W i m H' := fun σ9 H' s' I' hl hk nx => by
        obtain ⟨m', hm, w'⟩ := hNx H' nx
        have pin' : ∀ b ∈ fp, ∀ o, s7.heap.get? b = some o → s'.heap.get? b = some o ∧ H' b = none := fun b hb o e =>
          let z := I'.pin (b, o) (List.mem_append_right _ (List.mem_append_right _ (mem_pinsAt hb e)))
          ⟨z.1, z.2.1⟩
        refine ⟨m', hm, i + 1, H', (I'.unpinned (pins := [])).weak (by rw [← hw8, wipe_length, hl]) (fun j v e => hk j v (by rw [hw8]; exact e)), T.keep _ _ _ st7 fun b hb o e => (pin' b hb o e).1, fun b hb => ?_, w'⟩
        obtain ⟨o, e, _⟩ := T.obj _ _ st7 b hb
        exact (pin' b hb o e).2
      cases b with
      | false =>
        simp only [Bool.false_eq_true, if_false] at q9 ⊢
        exact fin σ8 H9 s9 I9 rfl (fun j v e => (wipe_some e).1) q9
      | true =>
        simp only [if_true] at q9 ⊢
        exact hB s3 H3 C cl fp _ σ8 H9 s9 D Nx _ _ I9 q9 fin
  exact codeAny_compStart_dict key (T.self X.A 0 _ _ _ st4 key)
theorem pe_dcx {kx vx tg iter : Expr} {ifs : List Expr} {rest : List Comprehension} {scope : Scope} {own : List (Str × Nat)} {pos : Pos} {u0 : Addr → HO} {wi : TI} {g : TG} {tt : TT} {tb : L2.St → Hp → Addr → (Hp → Prop) → Prop} {B : Tail}
    (hc : X.calm = true) (hN : X.N.Nodup) (hi : PI X tg iter wi) (ok : BlkOk X.N X.env.scope scope own)
    (hg : ∀ (s : Shared) (H : Hp) (C : Addr) (cl : List (Str × Addr)) (fp : List Addr), PG (Blk X s H scope cl C fp) tg g) (ht : ∀ (s : Shared) (H : Hp) (C : Addr) (cl : List (Str × Addr)) (fp : List Addr), PTs (Blk X s H scope cl C fp) ifs tt)
    (hu : ∀ (H : Hp) (h : Heap), sysModules < h.objs.size → ObjOk X.prog X.w H (h.push { cls := .type "dict", data := .dict #[] }) h.objs.size (u0 h.objs.size))
    (hL : Loops X.prog X.w X.A (.DictComp kx vx (⟨tg, iter, ifs, 0⟩ :: rest) scope pos) tg ifs B) (hB : TailOk X scope B tb (own.map (·.2))) (hs : ∀ x, foldedSetIterable iter X.env x = pure x) :
    PE X (.DictComp kx vx (⟨tg, iter, ifs, 0⟩ :: rest) scope pos) (tDcx u0 wi g tt tb (own.map (·.2))) := by
  refine ⟨fun pins s σ H Q I h => ?_⟩
  rw [arm_eval_DictComp]
  refine dcx_core hc hN I hi ok hg ht hu hL hB hs h fun D C s' m H' I' q hn f => ⟨m, hn, fun h'' sb => ?_⟩
  obtain ⟨f0, f1, f2, f3, f4, f5⟩ := f
  exact ⟨.ref D, H', I'.turned (t' := s'.toks) (fun b o hb e => (sb.2 b hb).trans e) f0 f1 f3 f4 f5, rfl, q⟩
end
/-! ### one for, nested tuple keys -/
def tbN (P : Program) (w : World) (tk tv : TE) : L2.St → Hp → Addr → (Hp → Prop) → Prop := fun σ2 H3 D Nx => tk σ2 H3 fun y H4 => tv σ2 H4 fun z H5 =>
  ∃ es b k, y = .ref b ∧ H5 D = some (dNo P w D es) ∧ KeysOk H5 es ∧ IsK H5 k (.ref b) ∧ k.depth ≤ 8 ∧ es.length < sizeLine ∧ Nx (upd H5 D (dNo P w D (putE es k b z)))
theorem dn_dictSet {X : Cx} {pins : List (Addr × Obj)} {σ : L2.St} {H : Hp} {s : Shared} {E : Value → Shared → Prop} {D b : Addr} {es : List Ent} {k : NestedKey} {v : V} {r : Value} {Q : Unit → Shared → Prop} (hu : X.A.units + 64 < cLine) (I : Inv X pins σ H s) (hD : H D = some (dNo X.prog X.w D es))
    (ko : KeysOk H es) (hk : IsK H k (.ref b)) (dp : k.depth ≤ 8) (hl : es.length < sizeLine) (rv : RelV v r) (h : ∀ s', Inv X pins σ (upd H D (dNo X.prog X.w D (putE es k b v))) s' → Q () s') : wpAny (model X.prog X.w) X.A (dictSet D (.ref b) r) Q E s := by
  obtain ⟨z, low, hdp, xs, rel, dd⟩ := dn_rd I.hok (.inl hD) ko
  have hz : xs.length ≤ sizeLine := by rw [← Paired.length rel]; exact z
  have room : (nestedKind X.prog X.w).room X.A := by
    show X.A.units + 8 < cLine
    omega
  refine wpAny_dictSet_heap (hsz := hz) room (nk_is I hk dp) dd fun h' dd' hs => h _ ?_
  obtain ⟨o, es', ep, hq, _⟩ := id dd'
  refine d_write I (by rw [hD]; exact dNo_mut) hs ⟨o, hq⟩ (dn_ok (Nat.le_trans (putE_length k b v) hl) low (fun e he => ?_) (rel.put k b rv) dd')
  rcases putE_mem he with ⟨e0, h0, e1, _⟩ | ⟨e1, _⟩
  · rw [← e1]
    exact hdp e0 h0
  · rw [e1]
    exact dp
theorem pe_dcN {X : Cx} {kx vx tg iter : Expr} {ifs : List Expr} {scope : Scope} {own : List (Str × Nat)} {pos : Pos} {wi : TI} {g : TG} {tt : TT} {tk tv : TE} (hu : X.A.units + 64 < cLine)
    (hc : X.calm = true) (hN : X.N.Nodup) (hi : PI X tg iter wi) (ok : BlkOk X.N X.env.scope scope own)
    (hg : ∀ (s : Shared) (H : Hp) (C : Addr) (cl : List (Str × Addr)) (fp : List Addr), PG (Blk X s H scope cl C fp) tg g) (ht : ∀ (s : Shared) (H : Hp) (C : Addr) (cl : List (Str × Addr)) (fp : List Addr), PTs (Blk X s H scope cl C fp) ifs tt)
    (hk : ∀ (s : Shared) (H : Hp) (C : Addr) (cl : List (Str × Addr)) (fp : List Addr), PE (Blk X s H scope cl C fp) kx tk) (hv : ∀ (s : Shared) (H : Hp) (C : Addr) (cl : List (Str × Addr)) (fp : List Addr), PE (Blk X s H scope cl C fp) vx tv)
    (hs : ∀ x, foldedSetIterable iter X.env x = pure x := by intro _; rfl) :
    PE X (.DictComp kx vx [⟨tg, iter, ifs, 0⟩] scope pos) (tDcx (fun D => dNo X.prog X.w D []) wi g tt (tbN X.prog X.w tk tv) (own.map (·.2))) := by
  refine pe_dcx hc hN hi ok hg ht (fun H h hb => dn_empty h hb) loops1 (fun s H C cl fp pins σ2 H3 s3 D Nx E K I q fin => ?_) hs
  refine thnF ((hk s H C cl fp).run _ s3 σ2 H3 _ I q) fun kv s4 ⟨y, H4, I4, r4, q4⟩ => ?_
  refine thnF ((hv s H C cl fp).run _ s4 σ2 H4 _ I4 q4) fun vv s5 ⟨z, H5, I5, r5, es, b, k, ey, hD, ko, hk, dp, hl, nx⟩ => ?_
  subst ey
  obtain rfl : kv = Value.ref b := r4
  exact dn_dictSet (X := Blk X s H scope cl C fp) hu I5 hD ko hk dp hl r5 fun s6 I6 => fin σ2 _ s6 I6 rfl (fun j v e => (wipe_some e).1) nx

/-! ### two for, keys ints and texts -/
section
variable {prog : Program} {w : World} {A : Around} {kx vx t0 i0 t1 i1 : Expr} {c0 c1 : List Expr} {scope : Scope} {pos : Pos}
abbrev DC2 (kx vx t0 i0 t1 i1 : Expr) (c0 c1 : List Expr) (scope : Scope) (pos : Pos) : Expr := .DictComp kx vx [⟨t0, i0, c0, 0⟩, ⟨t1, i1, c1, 0⟩] scope pos
def tail2 (prog : Program) (w : World) (A : Around) (W0 i1 : Expr) : Tail := fun env D E K s =>
  wpAny (model prog w) A (eval i1 env) (fun x s4 => wpAny (model prog w) A (pyIter x) (fun it1 s5 => codeAny (model prog w) A (.compStart W0 1 it1 (.ref D) env) (fun r s' => match r with
    | .ok _ => K s'
    | .error _ => False) s5) E s4) E s
theorem turn_out (it acc : Value) (env : Env) : compTurn (DC2 kx vx t0 i0 t1 i1 c0 c1 scope pos) 0 it acc env = (do
      standAt i0.pos
      match ← pyNext it with
      | none => pure (.done .next)
      | some v =>
        letOwnedTupleGo t0 it v
        assign t0 env v
        let mut ok := true
        for c in c0 do
          if ok then ok ← isTrue c env (eval c env)
        if ok then
          let x ← eval i1 env
          standAt i1.pos
          let x ← foldedSetIterable i1 env x
          let _ ← runOwn (.compStart (DC2 kx vx t0 i0 t1 i1 c0 c1 scope pos) 1 (← holding [x] (pyIter x)) acc env) env
        again (.compLoop (DC2 kx vx t0 i0 t1 i1 c0 c1 scope pos) 0 it acc env)) := by rfl
theorem turn_in (it : Value) (D : Addr) (env : Env) : compTurn (DC2 kx vx t0 i0 t1 i1 c0 c1 scope pos) 1 it (.ref D) env = (do
      standAt i1.pos
      match ← pyNext it with
      | none => pure (.done .next)
      | some v =>
        letOwnedTupleGo t1 it v
        assign t1 env v
        let mut ok := true
        for c in c1 do
          if ok then ok ← isTrue c env (eval c env)
        if ok then
          (do
            let kv ← eval kx env
            let vv ← holding [kv] (eval vx env)
            standAt { kx.pos with endLine := vx.pos.endLine, endCol := vx.pos.endCol }
            holding [kv, vv] (dictSet D kv vv))
        again (.compLoop (DC2 kx vx t0 i0 t1 i1 c0 c1 scope pos) 1 it (.ref D) env)) := by rfl
theorem loops2 (hs : ∀ env x, foldedSetIterable i1 env x = pure x) : Loops prog w A (DC2 kx vx t0 i0 t1 i1 c0 c1 scope pos) t0 c0 (tail2 prog w A (DC2 kx vx t0 i0 t1 i1 c0 c1 scope pos) i1) := by
  intro env it D R s I turn n h
  refine codeAny_loop rfl I (fun n s hI => ?_) n h
  show wpAny _ A ((compTurn (DC2 kx vx t0 i0 t1 i1 c0 c1 scope pos) 0 it (.ref D) env).onRaise (fun x => do noteFrame x env; theTreesLotGoes x)) _ _ s
  refine wpAny_noted ?_
  rw [turn_out]
  refine wpAny_bind (wpAny_standAt (wpAny_bind (wpAny_mono (turn n s hI) (fun r s1 h1 => ?_) fun _ _ z => z)))
  cases r with
  | none => exact wpAny_pure h1
  | some v =>
    refine wpAny_bind (wpAny_mono h1 (fun _ s2 h2 => wpAny_bind (wpAny_mono h2 (fun _ s3 h3 => wpAny_bind (wpAny_mono h3 (fun ok s4 h4 => ?_) fun _ _ z => z)) fun _ _ z => z)) fun _ _ z => z)
    cases ok with
    | false => exact wpAny_pure ⟨rfl, h4⟩
    | true =>
      have h4 : tail2 prog w A (DC2 kx vx t0 i0 t1 i1 c0 c1 scope pos) i1 env D _ _ s4 := h4
      refine wpAny_bind (wpAny_mono h4 (fun x s5 h5 => ?_) fun _ _ z => z)
      refine wpAny_bind (wpAny_standAt (wpAny_bind (wpAny_of_eq (hs env x) (wpAny_bind (wpAny_holding (wpAny_mono h5 (fun it1 s6 h6 => ?_) fun _ _ z => z))))))
      refine wpAny_bind (wpAny_runOwn ?_)
      rw [Around.mark_none]
      refine codeAny_mono h6 fun r s' hr => ?_
      cases r with
      | ok f =>
        first
          | exact wpAny_pure ⟨rfl, hr⟩
          | exact wpAny_bind (wpAny_pure (wpAny_pure ⟨rfl, hr⟩))
      | error e => exact hr.elim
/-- the second source's turns -/
theorem loop_in {env : Env} {it : Value} {D : Addr} {R : Result → Shared → Prop} {s : Shared} (I : Nat → Shared → Prop)
    (turn : ∀ n s, I n s → wpAny (model prog w) A (pyNext it) (fun r s1 => match r with
      | none => R (.ok .next) s1
      | some v => wpAny (model prog w) A (letOwnedTupleGo t1 it v) (fun _ s2 => wpAny (model prog w) A (assign t1 env v) (fun _ s3 =>
          wpAny (model prog w) A (forIn c1 true fun c r => if r = true then do let ok ← isTrue c env (eval c env); pure (ForInStep.yield ok) else pure (ForInStep.yield r)) (fun ok s4 =>
            if ok = true then tail1 prog w A kx vx env D (notedBy (model prog w) A env fun e s' => R (.error e) s') (fun s' => ∃ m, m < n ∧ I m s') s4
            else ∃ m, m < n ∧ I m s4) (notedBy (model prog w) A env fun e s' => R (.error e) s') s3) (notedBy (model prog w) A env fun e s' => R (.error e) s') s2)
          (notedBy (model prog w) A env fun e s' => R (.error e) s') s1) (notedBy (model prog w) A env fun e s' => R (.error e) s') s)
    (n : Nat) (h : I n s) : codeAny (model prog w) A (.compLoop (DC2 kx vx t0 i0 t1 i1 c0 c1 scope pos) 1 it (.ref D) env) R s := by
  refine codeAny_loop rfl I (fun n s hI => ?_) n h
  show wpAny _ A ((compTurn (DC2 kx vx t0 i0 t1 i1 c0 c1 scope pos) 1 it (.ref D) env).onRaise (fun x => do noteFrame x env; theTreesLotGoes x)) _ _ s
  refine wpAny_noted ?_
  rw [turn_in]
  refine wpAny_bind (wpAny_standAt (wpAny_bind (wpAny_mono (turn n s hI) (fun r s1 h1 => ?_) fun _ _ z => z)))
  cases r with
  | none => exact wpAny_pure h1
  | some v =>
    refine wpAny_bind (wpAny_mono h1 (fun _ s2 h2 => wpAny_bind (wpAny_mono h2 (fun _ s3 h3 => wpAny_bind (wpAny_mono h3 (fun ok s4 h4 => ?_) fun _ _ z => z)) fun _ _ z => z)) fun _ _ z => z)
    cases ok with
    | false => exact wpAny_pure ⟨rfl, h4⟩
    | true =>
      have h4 : tail1 prog w A kx vx env D _ _ s4 := h4
      exact wpAny_bind (wpAny_bind (wpAny_mono h4 (fun kv s5 h5 => wpAny_bind (wpAny_holding (wpAny_mono h5 (fun vv s6 h6 => wpAny_bind (wpAny_standAt (wpAny_holding (wpAny_mono h6 (fun _ s7 h7 => wpAny_pure ⟨rfl, h7⟩) fun _ _ z => z)))) fun _ _ z => z))) fun _ _ z => z))
theorem start_in {env : Env} {it acc : Value} {R : Result → Shared → Prop} {s : Shared} (h0 : codeAny (model prog w) A (.compLoop (DC2 kx vx t0 i0 t1 i1 c0 c1 scope pos) 1 it acc env) R s)
    (h : wpAny (model prog w) A (pyIter it) (fun it' s' => codeAny (model prog w) A (.compLoop (DC2 kx vx t0 i0 t1 i1 c0 c1 scope pos) 1 it' acc env) R s') (notedBy (model prog w) A env fun x s' => R (.error x) s') s) :
    codeAny (model prog w) A (.compStart (DC2 kx vx t0 i0 t1 i1 c0 c1 scope pos) 1 it acc env) R s := by
  refine codeAny_of_tree ?_
  show wpAny _ _ ((compStart (DC2 kx vx t0 i0 t1 i1 c0 c1 scope pos) 1 it acc env).onRaise (fun x => do noteFrame x env; standAt theWindowsPlace)) _ _ s
  refine wpAny_notedAt ?_
  unfold compStart
  show wpAny _ _ (ask >>= _) _ _ s
  refine wpAny_bind (wpAny_askSetting (wpAny_ite ?_))
  split
  · first
      | exact wpAny_bind (wpAny_pure (wpAny_pure (And.intro rfl h0)))
      | exact wpAny_pure (And.intro rfl h0)
  · first
      | exact wpAny_bind (wpAny_rule (wpAny_bind (wpAny_standAt (wpAny_bind (wpAny_mono h (fun it' s' z => wpAny_pure (And.intro rfl z)) fun _ _ x => x)))))
      | (refine wpAny_bind (wpAny_rule ?_); show wpAny _ _ (standAt i1.pos >>= _) _ _ s; exact wpAny_bind (wpAny_standAt (wpAny_bind (wpAny_mono h (fun it' s' z => wpAny_pure (And.intro rfl z)) fun _ _ x => x))))
end
/-- the second source's loop, as it is read -/
def tb2 (wi1 : TI) (g1 : TG) (tt1 : TT) (tk tv : TE) (vs1 : List Nat) : L2.St → Hp → Addr → (Hp → Prop) → Prop := fun σ2 H3 D Nx => wi1 σ2 H3 fun J1 H4 => ∃ W1 : Nat → Nat → Hp → Prop, (∃ m, W1 0 m H4) ∧ ∀ j k H, W1 j k H →
  (J1.stop j H ∧ Nx H) ∨ (J1.go j H ∧ ∃ Nx1 : Hp → Prop, (∀ H', Nx1 H' → ∃ k', k' < k ∧ W1 (j + 1) k' H') ∧ ∀ x H', J1.yld j H x H' → g1 x (wipe σ2 vs1) H' fun σ3 H5 => wipe σ3 vs1 = wipe σ2 vs1 ∧ tt1 σ3 H5 fun b H6 =>
    if b = true then tk σ3 H6 fun y H7 => tv σ3 H7 fun z H8 => ∃ kvs k, y = kV k ∧ H8 D = some (.dK kvs) ∧ kvs.length < sizeLine ∧ Nx1 (upd H8 D (.dK (putK kvs k z))) else Nx1 H6)
theorem pe_dc2 {X : Cx} {kx vx tg iter tg1 iter1 : Expr} {ifs ifs1 : List Expr} {scope : Scope} {own : List (Str × Nat)} {vs1 : List Nat} {pos : Pos} {wi wi1 : TI} {g g1 : TG} {tt tt1 : TT} {tk tv : TE}
    (hc : X.calm = true) (hN : X.N.Nodup) (hi : PI X tg iter wi) (ok : BlkOk X.N X.env.scope scope own) (hv1 : ∀ i ∈ vs1, i ∈ own.map (·.2))
    (hg : ∀ (s : Shared) (H : Hp) (C : Addr) (cl : List (Str × Addr)) (fp : List Addr), PG (Blk X s H scope cl C fp) tg g) (ht : ∀ (s : Shared) (H : Hp) (C : Addr) (cl : List (Str × Addr)) (fp : List Addr), PTs (Blk X s H scope cl C fp) ifs tt)
    (hi1 : ∀ (s : Shared) (H : Hp) (C : Addr) (cl : List (Str × Addr)) (fp : List Addr), PI (Blk X s H scope cl C fp) tg1 iter1 wi1)
    (hg1 : ∀ (s : Shared) (H : Hp) (C : Addr) (cl : List (Str × Addr)) (fp : List Addr), PG (Blk X s H scope cl C fp) tg1 g1) (ht1 : ∀ (s : Shared) (H : Hp) (C : Addr) (cl : List (Str × Addr)) (fp : List Addr), PTs (Blk X s H scope cl C fp) ifs1 tt1)
    (hk : ∀ (s : Shared) (H : Hp) (C : Addr) (cl : List (Str × Addr)) (fp : List Addr), PE (Blk X s H scope cl C fp) kx tk) (hv : ∀ (s : Shared) (H : Hp) (C : Addr) (cl : List (Str × Addr)) (fp : List Addr), PE (Blk X s H scope cl C fp) vx tv)
    (hs : ∀ x, foldedSetIterable iter X.env x = pure x := by intro _; rfl) (hs1 : ∀ env x, foldedSetIterable iter1 env x = pure x := by intro _ _; rfl) :
    PE X (.DictComp kx vx [⟨tg, iter, ifs, 0⟩, ⟨tg1, iter1, ifs1, 0⟩] scope pos) (tDcx (fun _ => .dK []) wi g tt (tb2 wi1 g1 tt1 tk tv vs1) (own.map (·.2))) := by
  refine pe_dcx hc hN hi ok hg ht (fun H h hb => dk_empty h hb) (loops2 hs1) (fun s H C cl fp pins σ2 H3 s3 D Nx E K I q fin => ?_) hs
  refine thnF ((hi1 s H C cl fp).run _ s3 σ2 H3 _ I q) fun xv s4 hx => thnF hx fun itv s5 h5 => ?_
  obtain ⟨it1, fp1, tn1, J1, H5, e1, I5, T1, st5, f5, W1, ⟨m1, w1⟩, turn1⟩ := h5
  subst e1
  have stat1 : ∀ {H' : Hp}, (∀ b ∈ fp1, H' b = none) → ∀ b ∈ fp1, FpOk (Blk X s H scope cl C fp) pins H' b := fun hn b hb => ⟨hn b hb, (f5 b hb).2⟩
  have key : codeAny (model X.prog X.w) X.A (.compLoop (DC2 kx vx tg iter tg1 iter1 ifs ifs1 scope pos) 1 (.ref it1) (.ref D) (compEnvC scope cl C X.env)) (fun r s' => match r with
      | .ok _ => K s'
      | .error _ => False) s5 := by
    refine loop_in (fun k s' => ∃ j H', Inv (Blk X s H scope cl C fp) pins (wipe σ2 vs1) H' s' ∧ tn1 j s'.heap ∧ (∀ b ∈ fp1, H' b = none) ∧ W1 j k H') ?_ m1 ⟨0, H5, I5.weak (wipe_length _ _) (fun j v e => (wipe_some e).1), st5, fun b hb => (f5 b hb).1, w1⟩
    rintro k s6 ⟨j, H6, I6, st6, n6, w6⟩
    rcases turn1 j k H6 w6 with ⟨stop1, nx1⟩ | ⟨go1, Nx1, hNx1, step1⟩
    · refine thnF (T1.done (Blk X s H scope cl C fp) rfl rfl rfl hc j _ s6 (wipe σ2 vs1) H6 (fun _ _ => False) I6 (stat1 n6) st6 stop1) fun r s7 ⟨hr, I7⟩ => ?_
      subst hr
      refine fin (wipe σ2 vs1) H6 s7 I7 (wipe_length _ _) (fun j v e => ?_) nx1
      obtain ⟨e1, e2⟩ := wipe_some e
      rw [wipe_out fun z => e2 (hv1 j z)]
      exact e1
    · refine thnF (T1.item (Blk X s H scope cl C fp) rfl rfl rfl hc j _ s6 (wipe σ2 vs1) H6 (fun _ _ => False) I6 (stat1 n6) st6 go1) fun r s7 ⟨u1, hr, h7⟩ => ?_
      subst hr
      refine thnF h7 fun _ s8 ⟨x1, H8, I8, r8, y8, st8, n8⟩ => ?_
      refine thnF ((hg1 s H C cl fp).run _ s8 (wipe σ2 vs1) H8 x1 u1 _ (I8.pinned (stat1 n8) (T1.obj _ _ st8)) r8 (step1 x1 H8 y8)) fun _ s9 ⟨σ9, H9, I9, hw9, q9⟩ => ?_
      refine thnF ((ht1 s H C cl fp).run _ s9 σ9 H9 _ I9 q9) fun b1 s10 ⟨H10, I10, q10⟩ => ?_
      have fin1 : ∀ {s' : Shared} {H' : Hp}, Inv (Blk X s H scope cl C fp) (pins ++ pinsAt fp1 s8.heap) σ9 H' s' → Nx1 H' → ∃ m, m < k ∧ ∃ j H', Inv (Blk X s H scope cl C fp) pins (wipe σ2 vs1) H' s' ∧ tn1 j s'.heap ∧ (∀ b ∈ fp1, H' b = none) ∧ W1 j m H' := fun {s' H'} I' nx => by
        obtain ⟨m', hm, w'⟩ := hNx1 H' nx
        have pin' : ∀ b ∈ fp1, ∀ o, s8.heap.get? b = some o → s'.heap.get? b = some o ∧ H' b = none := fun b hb o e =>
          let z := I'.pin (b, o) (List.mem_append_right _ (List.mem_append_right _ (mem_pinsAt hb e)))
          ⟨z.1, z.2.1⟩
        refine ⟨m', hm, j + 1, H', I'.unpinned.weak (by rw [← hw9, wipe_length]) (fun j v e => by rw [← hw9] at e; exact (wipe_some e).1), T1.keep _ _ _ st8 fun b hb o e => (pin' b hb o e).1, fun b hb => ?_, w'⟩
        obtain ⟨o, e, _⟩ := T1.obj _ _ st8 b hb
        exact (pin' b hb o e).2
      cases b1 with
      | false =>
        simp only [Bool.false_eq_true, if_false] at q10 ⊢
        exact fin1 I10 q10
      | true =>
        simp only [if_true] at q10 ⊢
        refine thnF ((hk s H C cl fp).run _ s10 σ9 H10 _ I10 q10) fun kv s11 ⟨y, H11, I11, r11, q11⟩ => ?_
        refine thnF ((hv s H C cl fp).run _ s11 σ9 H11 _ I11 q11) fun vv s12 ⟨z, H12, I12, r12, kvs, k0, ey, hD, hz, nx⟩ => ?_
        subst ey
        exact d_dictSet (X := Blk X s H scope cl C fp) I12 hD hz r11 r12 fun s13 I13 => fin1 I13 nx
  exact start_in key (T1.self X.A 0 _ _ _ st5 key)
end Cab
set_option Elab.async false
set_option linter.all false
set_option maxRecDepth 100000
set_option maxHeartbeats 3200000
/-! sorted(set(..)), min of data, text * int, the keys of a dict walked -/
namespace Cab
open PySem PySem.Spec PyProof.Rows L2

/-! ### set(l), l a list of ints -/
section
variable {P : Program} {w : World} {A : Around} {E : Value → Shared → Prop} {s : Shared} {l : Addr} {items : Array Value}
/-- the set as set.__new__ lays it -/
abbrev bare (w : World) : Obj := { cls := .type "set", dict := none, data := .set #[] 0 (.fresh 0 0 (!w.params.followText "set-order")) }
/-- what set.__init__ brings about -/
def Filled (w : World) (s : Shared) (ns : List Int) (r : Value) (s2 : Shared) : Prop := r = .none ∧ ∃ h' tk c, s2 = { s with heap := h', toks := tk } ∧ SetR w h' s.heap.objs.size (fun j => decide (j ∈ ns)) c ∧ c ≤ ns.length ∧ (∀ b o, s.heap.get? b = some o → h'.get? b = some o)
theorem set_filled (ns : List Int) (hh : A.handled = none) (hl : s.heap.IsList l items) (hi : IntsAre items.toList ns) (hb : ns.length + 1 < scanBound) :
    codeAny (model P w) A (.call (.builtin "set.__init__") ⟨[.ref s.heap.objs.size, .ref l], []⟩) (wants (Filled w s ns) E) { s with heap := s.heap.push (bare w) } := by
  have hsz : items.size = ns.length := by rw [← Array.length_toList]; exact IntsAre.length hi
  have new : (s.heap.push (bare w)).get? s.heap.objs.size = some (bare w) := Heap.get?_push_size _ rfl
  refine codeAny_call_builtin F.called_set.init.plain F.entry_set_init (check_set_init_1 ⟨_, new, rfl⟩ ?_)
  obtain ⟨⟨ocls, odict, odata, osl⟩, hol, hcl, nl, hdl⟩ := hl
  simp only at hcl hdl
  subst hcl hdl
  have at_ : (s.heap.push (bare w)).get? l = some { cls := .type "list", dict := odict, data := .seq items nl, slots := osl } := Heap.get?_push_of_some _ hol
  have il : (s.heap.push (bare w)).IsList l items := ⟨_, at_, rfl, nl, rfl⟩
  have h1 := F.sub_list_set
  have h2 := F.sub_list_frozenset
  have h3 : (Value.type "list" == Value.type "dict") = false := by decide
  have lt : l < s.heap.objs.size := Heap.lt_size hol
  have z1 : (s.heap.push (bare w)).objs.size = s.heap.objs.size + 1 := Heap.size_push ..
  unfold Builtin.«set.__init__» noKeywords Builtin.Frozenset.updateFrom
  generalize hPI : pyIter = PI
  wp_walk
  subst hPI
  refine wpAny_pyIter_list il (wpAny_bind (wpAny_runValue ?_))
  refine set_update_ints ((Walks.list (by simp [hh]) _ l (by rw [z1]; exact Nat.ne_of_lt (Nat.lt_succ_of_lt lt)) items).toS) s.heap.objs.size ?nf ns hsz hb ?val (items.size - 0) 0 _ (by omega) (Nat.zero_le _) ⟨⟨_, Heap.get?_push_size _ rfl, rfl, rfl⟩, (il.push _)⟩ ⟨0, Nat.le_refl 0, setR_new_at (Heap.get?_push_of_some _ new)⟩ ?fin
  case nf =>
    rw [z1]
    simp only [List.mem_cons, List.mem_singleton, List.not_mem_nil, or_false, not_or]
    exact ⟨Nat.ne_of_lt (Nat.lt_succ_self _), Nat.ne_of_gt lt⟩
  case val =>
    intro i v hv
    have hi' : i < ns.length := by rw [← hsz]; exact (Array.getElem?_eq_some_iff.mp hv).1
    obtain ⟨t, e⟩ := PyProof.Rows.IntsAre.int_at hi i v (by rw [Array.getElem?_toList]; exact hv)
    exact ⟨ns[i], t, List.getElem?_eq_getElem hi', by rw [e, List.getD_eq_getElem?_getD, List.getElem?_eq_getElem hi'] <;> rfl⟩
  case fin =>
    intro s' c' hm hc' hS'
    obtain ⟨h', g2, d', tk', os'⟩ := s'
    obtain rfl : g2 = s.gens := hm.gens
    obtain rfl : d' = s.drawn := hm.drawn
    obtain rfl : os' = s.os := hm.os
    refine wpAny_pure (show wpAny _ _ (ret Value.none) _ _ _ from wpAny_pure ⟨rfl, h', tk', c', rfl, hS', by rw [← hsz]; exact hc', fun b o e => ?_⟩)
    have b0 : b < s.heap.objs.size := Heap.lt_size e
    refine hm.heap b o ?_ (Heap.get?_push_of_some _ (Heap.get?_push_of_some _ e))
    rw [z1]
    simp only [List.mem_cons, List.mem_singleton, List.not_mem_nil, or_false, not_or]
    exact ⟨Nat.ne_of_lt b0, Nat.ne_of_lt (Nat.lt_succ_of_lt b0)⟩
theorem set_of_ints (ns : List Int) {Q : Value → Shared → Prop} (hh : A.handled = none) (hl : s.heap.IsList l items) (hi : IntsAre items.toList ns) (hb : ns.length + 1 < scanBound)
    (h : ∀ (h' : Heap) (tk c : Nat), SetR w h' s.heap.objs.size (fun j => decide (j ∈ ns)) c → c ≤ ns.length → (∀ b o, s.heap.get? b = some o → h'.get? b = some o) → Q (.ref s.heap.objs.size) { s with heap := h', toks := tk }) :
    wpAny (model P w) A (call (.type "set") [.ref l]) Q E s := by
  obtain ⟨c, tl, hmro⟩ := F.called_set.mro
  have m1 := F.called_set.made
  have m2 := F.called_set.sub
  refine wpAny_call (codeAny_of_tree ?_)
  show wpAny _ _ (callAny (.type "set") _) _ _ _
  refine wpAny_pure ⟨Code.quiet_builtin _ (by decide +kernel), codeAny_builtin F.entry_type_call ?_⟩
  rw [Around.under_plain (weight_type_call_type "set" [.ref l] []) rfl]
  have m3 := F.called_set.notType
  have m4 := F.called_set.canCreate
  have m5 := F.typeCall_set_1 (.ref l)
  repeat (any_goals (first | assumption | wp_step))
  refine codeAny_mono (code_set_led1 (.ref l) (E := E) (Q₁ := fun obj s1 => obj = .ref s.heap.objs.size ∧ s1 = { s with heap := s.heap.push (bare w) }) ⟨rfl, rfl⟩) fun r s1 hr => ?_
  cases r with
  | error e => exact hr
  | ok fl =>
    cases fl with
    | ret obj =>
      obtain ⟨rfl, rfl⟩ := hr
      have new : Shared.TypeIs { s with heap := s.heap.push (bare w) } (.ref s.heap.objs.size) "set" := ⟨_, Heap.get?_push_size _ rfl, rfl⟩
      have m6 := F.called_set.init.lookup
      have m7 := F.called_set.init.bind (.ref s.heap.objs.size)
      repeat (any_goals (first | assumption | wp_step))
      refine codeAny_mono (set_filled (E := E) ns ?_ hl hi hb) fun r s2 hr2 => ?_
      · simp [hh]
      · cases r with
        | error e => exact hr2
        | ok fl2 =>
          cases fl2 with
          | ret r =>
            obtain ⟨rfl, h', tk, c', rfl, hS', hc', hk'⟩ := hr2
            repeat (any_goals (first | assumption | wp_step))
            exact h _ _ _ hS' hc' hk'
          | _ => exact hr2.elim
    | _ => exact hr.elim
end
section
variable {X : Cx}
def rSetL (K : PySem.W.Frag) (w : World) : List V → Hp → VK → Prop := fun vs H Q => ∃ (a : Addr) (ns : List Int), vs = [V.ref a] ∧ SqL K H a (ns.map V.int) ∧ ns.length < 4000 ∧
  ∀ p n, H p = none → n ≤ ns.length → Q (.ref p) (upd H p (SetO w p (fun j => decide (j ∈ ns)) n))
theorem cr_setL (hc : X.calm = true) : CallR X (.type "set") (rSetL X.K X.w) := by
  intro pins s σ H vs us Q I r h
  obtain ⟨a, ns, rfl, hs, hz, q⟩ := h
  obtain ⟨its, rv, hl, _⟩ := I.list hs
  rw [Vals.ref1 r]
  refine set_of_ints ns (I.ok.hd hc) hl.isList (by simpa using rv.ints) (by show ns.length + 1 < 4096; omega) fun h' tk c R hc' k => ?_
  exact ⟨.ref _, upd H s.heap.objs.size (SetO X.w s.heap.objs.size (fun j => decide (j ∈ ns)) c), I.laid (t' := tk) k (Nat.le_refl _) (setO_new R), rfl, q _ c (I.hok.fresh (Nat.le_refl _)) hc'⟩
/-- sorted(a set of ints), of any size -/
def rSortedSetI (w : World) : List V → Hp → VK → Prop := fun vs H Q => ∃ (a : Addr) (S : Int → Bool) (n : Nat), vs = [V.ref a] ∧ H a = some (SetO w a S n) ∧ n < 4000 ∧
  ∀ (ns : List Int) (p : Addr), ns.Pairwise (· < ·) → (∀ k : Int, k ∈ ns ↔ S k = true) → ns.length = n → H p = none → Q (.ref p) (upd H p (.lst (ns.map V.int)))
theorem cr_sortedSetI (hc : X.calm = true) : CallR X (.builtin "sorted") (rSortedSetI X.w) := by
  intro pins s σ H vs us Q I r h
  obtain ⟨a, S, n, rfl, ha, hn4, q⟩ := h
  obtain ⟨o, es, ep, t, ho, hex, hd, g, nd, hm, hb, hf, hn, hr, hl⟩ := setO_get I ha
  rw [Vals.ref1 r]
  refine Calls.call_function_entry kind_sorted plain_sorted entry_sorted (args_sorted1 _) ?_
  unfold Builtin.«sorted»
  refine wpAny_bind (m := checkCount "sorted" 1 1 _) (wpAny_pure ?_)
  refine wpAny_bind (collect_set (A := X.A.in1) (I.ok.hd hc) ⟨o, ho, hex.1, hd⟩ hf hb hr hl fun s1 vs k1 hz g1 o1 pm => ?_)
  have hvl : vs.length = n := by rw [pm.length_eq, List.length_map, Array.length_toList]; exact hn
  have hI : IntsAre vs (vs.map Builtin.Re.reRawOf) := ints_of vs fun v hv => by
    obtain ⟨e, he, q⟩ := List.mem_map.mp (pm.mem_iff.mp hv)
    obtain ⟨k, tk, h1, _⟩ := g e he
    exact ⟨k, tk, by rw [← q]; exact h1⟩
  have pk : (vs.map Builtin.Re.reRawOf).Perm (es.toList.map keyOf) := by
    have q := pm.map Builtin.Re.reRawOf
    rw [List.map_map] at q
    exact q
  have zv : vs.length ≤ sizeLine := by rw [hvl, sizeLine_eq]; omega
  refine wpAny_bind (wpAny_newList ?_ zv)
  have hoL : (s1.heap.push (seqObj "list" vs.toArray 0)).get? s1.heap.objs.size = some (seqObj "list" vs.toArray 0) := Heap.get?_push_size _ rfl
  refine wpAny_bind (wpAny_holding (wpAny_call_entry slot_list_sort ⟨_, hoL, rfl⟩ entry_list_sort (SrtO.list_sort_ord SrtO.swo_int hoL zv (fun h2 => SrtO.ints_sortable hI h2) fun out h1 h2 => ⟨_, rfl, ?_⟩) (args_list_sort _)))
  obtain ⟨c, hc2⟩ := sortedHeap_at (vs := vs) (out := out.toArray) hoL
  obtain ⟨a1, a2, a3⟩ := SrtO.ints_out hI h1 h2
  have pn : (out.map SrtO.iv).Perm (es.toList.map keyOf) := a2.trans pk
  have lo : (out.map SrtO.iv).length = n := by rw [pn.length_eq, List.length_map, Array.length_toList]; exact hn
  have k2 : ∀ b u, s.heap.get? b = some u → (sortedHeap (s1.heap.push (seqObj "list" vs.toArray 0)) s1.heap.objs.size vs out.toArray).get? b = some u := fun b u e => by
    have q := k1 b u e
    have lt := Heap.lt_size q
    rw [sortedHeap_old (Nat.ne_of_lt lt) (by rw [size_push']; exact Nat.lt_succ_of_lt lt)]
    exact Heap.get?_push_of_some _ q
  have fr : H s1.heap.objs.size = none := I.hok.fresh hz
  have J : Inv X pins σ (upd H s1.heap.objs.size (.lst ((out.map SrtO.iv).map V.int))) { s with heap := sortedHeap (s1.heap.push (seqObj "list" vs.toArray 0)) s1.heap.objs.size vs out.toArray, gens := s1.gens, drawn := s1.drawn, toks := s1.toks } :=
    I.call (ch := []) (Un.laid k2 hz fr) (I.hok.laid k2 hz ⟨by rw [List.length_map, lo, sizeLine_eq]; omega, out, c, vals_of_ints a1, hc2⟩) (by rw [g1]; exact I.bare) (fun _ z => nomatch z)
  have e : ({ s1 with heap := sortedHeap (s1.heap.push (seqObj "list" vs.toArray 0)) s1.heap.objs.size vs out.toArray } : Shared) = { s with heap := sortedHeap (s1.heap.push (seqObj "list" vs.toArray 0)) s1.heap.objs.size vs out.toArray, gens := s1.gens, drawn := s1.drawn, toks := s1.toks } := by
    obtain ⟨sh, sg, sd, st, so⟩ := s
    obtain ⟨th, tg, td, tt, to⟩ := s1
    obtain rfl : to = so := o1
    rfl
  have fin : EP X pins σ Q (.ref s1.heap.objs.size) ({ s1 with heap := sortedHeap (s1.heap.push (seqObj "list" vs.toArray 0)) s1.heap.objs.size vs out.toArray } : Shared) := by
    rw [e]
    exact ⟨.ref s1.heap.objs.size, _, J, rfl, q _ _ (lt_of_le_nodup _ a3 (pn.nodup_iff.mpr nd)) (fun k => by rw [pn.mem_iff, ← hm k]) lo fr⟩
  exact wpAny_pure ⟨_, rfl, fin⟩
/-- "0" * int -/
def rMulS : R2 := fun x y H Q => ∃ n : Nat, x = .str "0" ∧ y = .int n ∧ n < 10 ∧ Q (.str ⟨(List.replicate n 48).toArray⟩) H
theorem mul_zero : ∀ n : Nat, n < 10 → MulOk "0" (n : Int) ∧ Txt.mul "0" (n : Int) = ⟨(List.replicate n 48).toArray⟩ := by
  intro n hn
  match n, hn with
  | 0, _ => exact ⟨⟨by decide, by decide, by decide⟩, by decide⟩
  | 1, _ => exact ⟨⟨by decide, by decide, by decide⟩, by decide⟩
  | 2, _ => exact ⟨⟨by decide, by decide, by decide⟩, by decide⟩
  | 3, _ => exact ⟨⟨by decide, by decide, by decide⟩, by decide⟩
  | 4, _ => exact ⟨⟨by decide, by decide, by decide⟩, by decide⟩
  | 5, _ => exact ⟨⟨by decide, by decide, by decide⟩, by decide⟩
  | 6, _ => exact ⟨⟨by decide, by decide, by decide⟩, by decide⟩
  | 7, _ => exact ⟨⟨by decide, by decide, by decide⟩, by decide⟩
  | 8, _ => exact ⟨⟨by decide, by decide, by decide⟩, by decide⟩
  | 9, _ => exact ⟨⟨by decide, by decide, by decide⟩, by decide⟩
  | n + 10, h => exact absurd h (by omega)
theorem op_mulS : OpR X (binaryOp .Mult) rMulS := by
  intro pins s σ H x y v u Q I rx ry h
  obtain ⟨n, rfl, rfl, hn, q⟩ := h
  obtain ⟨t, rfl⟩ := rx
  obtain ⟨t', rfl⟩ := ry
  obtain ⟨m1, m2⟩ := mul_zero n hn
  rw [← m2] at q
  exact SB.mul m1 fun t2 k => ⟨.str _, H, I.tok _, ⟨_, rfl⟩, q⟩
/-! ### the keys of a dict with nested tuple keys, walked -/
def ItN (P : Program) (w : World) (d : Addr) (o : Obj) (es : List Ent) : It :=
  ⟨fun i H => H d = some (.frz o (dNo P w d es)) ∧ i < es.length, fun i H x H' => H' = H ∧ ∃ e, es[i]? = some e ∧ x = .ref e.2.1, fun i H => H d = some (.frz o (dNo P w d es)) ∧ es.length ≤ i⟩
theorem dn_frz {X : Cx} {pins : List (Addr × Obj)} {σ : L2.St} {H : Hp} {s : Shared} {d : Addr} {o : Obj} {es : List Ent} (I : Inv X pins σ H s) (h : H d = some (.frz o (dNo X.prog X.w d es))) :
    (d == sysModules) = false ∧ s.heap.get? d = some o ∧ o.ExactDict ∧ ∃ (es' : Array DictEntry) (ep : Nat), o.data = .dict es' ep ∧ es'.size = es.length ∧ ∀ (i : Nat) (e : Ent), es[i]? = some e → ∃ en : DictEntry, es'[i]? = some en ∧ en.key = .ref e.2.1 := by
  obtain ⟨hd, ⟨z, low, _, xs, pr, o', es', ep, ho, hx, hdt, he, _⟩, _⟩ := I.hok d _ h
  rw [hd] at ho
  cases ho
  refine ⟨low, hd, hx, es', ep, hdt, ?_, fun i e q => ?_⟩
  · have l1 : es'.size = xs.length := size_of_entries he
    have l2 : es.length = xs.length := Paired.length pr
    omega
  · obtain ⟨b, hb, e1, e2, _⟩ := paired_get pr q
    have q2 := entry_at he i
    rw [hb] at q2
    exact ⟨_, q2, congrArg Value.ref e2.symm⟩
theorem turn_keysN {P : Program} {w : World} {K : PySem.W.Frag} {tg : Expr} {d : Addr} {o : Obj} {es' : Array DictEntry} {ep : Nat} {es : List Ent} (it : Addr) (hod : o.data = .dict es' ep) :
    Turn P w K tg (ItN P w d o es) [it] it (fun i h => h.IsKeyIter it d i es.length ep) where
  mem := List.mem_singleton.mpr rfl
  obj := fun i h st b hb => by
    obtain rfl : b = it := List.mem_singleton.mp hb
    obtain ⟨oi, e, c, dd⟩ := st
    exact ⟨oi, e, fun v z => by rw [dd] at z; cases z⟩
  keep := fun i h h' st k => st.at fun oi e => k it (List.mem_singleton.mpr rfl) oi e
  item := by
    intro X hP hw hK hc i pins s σ H E I hf st hg
    subst hP hw hK
    obtain ⟨hd, hi⟩ := hg
    obtain ⟨f0, f1, f2, f3, f4, f5⟩ := hf it (List.mem_singleton.mpr rfl)
    obtain ⟨hs, hgd, hx, es2, ep2, hdt, hsz, ent⟩ := dn_frz I hd
    obtain ⟨rfl, rfl⟩ := dict_ep hod hdt
    obtain ⟨e, he⟩ : ∃ e, es[i]? = some e := ⟨es[i], List.getElem?_eq_getElem hi⟩
    obtain ⟨en, hen, hkey⟩ := ent i e he
    refine next_key_item st hgd hdt hsz hen fun h' st' sb => ?_
    have I1 : Inv X pins σ H { s with heap := h' } := I.turned (t' := s.toks) (fun b ob hb e => (sb.2 b hb).trans e) f0 f1 f3 f4 f5
    obtain ⟨oi, e1, c, dd⟩ := id st'
    exact ⟨en.key, rfl, go_of (s := { s with heap := h' }) e1 c dd (by decide) ⟨.ref e.2.1, H, I1, hkey, ⟨rfl, e, he, rfl⟩, st', fun b hb => (hf b hb).1⟩⟩
  done := by
    intro X hP hw hK hc i pins s σ H E I hf st hg
    subst hP hw hK
    obtain ⟨hd, hi⟩ := hg
    obtain ⟨f0, f1, f2, f3, f4, f5⟩ := hf it (List.mem_singleton.mpr rfl)
    obtain ⟨hs, hgd, hx, es2, ep2, hdt, hsz, ent⟩ := dn_frz I hd
    obtain ⟨rfl, rfl⟩ := dict_ep hod hdt
    exact next_key_end (I.ok.hd hc) st hgd hdt hsz hi fun h' eb => ⟨rfl, I.turned (t' := s.toks) (fun b ob hb e => eb b ob hb e) f0 f1 f3 f4 f5⟩
  self := fun A i s Q E st h => wpAny_pyIter_keyiter st h
def iKeysN (P : Program) (w : World) (td : TE) : TI := fun σ H R => td σ H fun x H1 => ∃ d o es, x = .ref d ∧ H1 d = some (.frz o (dNo P w d es)) ∧ R (ItN P w d o es) H1
theorem pi_keysN {tg e : Expr} {td : TE} (he : PE X e td) : PI X tg e (iKeysN X.prog X.w td) := by
  refine ⟨fun pins s σ H R I h => thn (he.run pins s σ H _ I h) fun u s1 ⟨x, H1, I1, rx, d, o, es, ex, hd, q⟩ => ?_⟩
  subst ex
  obtain rfl : u = Value.ref d := rx
  obtain ⟨hs, hgd, hx, es', ep, hdt, hsz, ent⟩ := dn_frz I1 hd
  refine iter_keys hs hgd hx hdt (pi_one (tk := s1.toks) I1 _ (turn_keysN _ hdt) ⟨_, Heap.get?_push_size _ rfl, rfl, ?_⟩ q)
  rw [hsz] <;> rfl
/-! ### min of data -/
def rMinD (K : PySem.W.Frag) : List V → Hp → VK → Prop := fun vs H Q => ∃ (a : Addr) (xs : List V) (d : PyData) (ds : List PyData), vs = [V.ref a] ∧ SqL K H a xs ∧ DpAll K H xs (d :: ds) ∧ PySem.W.AlikeAll (d :: ds) ∧ PyData.depthAll (d :: ds) ≤ 8 ∧
  ∀ (i : Nat) (v : V), xs[i]? = some v → (d :: ds)[i]? = some (PySem.W.minD d ds) → Q v H
theorem cr_minD (hc : X.calm = true) (hu : X.A.units + 200 < cLine) : CallR X (.builtin "min") (rMinD X.K) := by
  intro pins s σ H vs us Q I r h
  obtain ⟨a, xs, d, ds, rfl, hs, hd, al, dp, q⟩ := h
  obtain ⟨its, rv, hl, hz⟩ := I.list hs
  rw [Vals.ref1 r]
  obtain ⟨as, hr⟩ := Dp.readsAll I _ _ _ hd rv
  refine PySem.W.min_list_data (I.ok.hd hc) hl.isList (by simpa using hr) al (by show X.A.units + 1 + PyData.depthAll (d :: ds) < cLine; omega) fun i v h' tk bs hi r2 hk => ?_
  obtain ⟨cs, r3, lt, _, _⟩ := PySem.W.readsAll_atA (vs := its.toArray) (by simpa using hr) i v hi
  have e := (PySem.Reads.unique (PyProof.Rows.Reads.keeps hk r3) _ _ r2).1
  obtain ⟨x, hx⟩ : ∃ x, xs[i]? = some x := by
    have l1 := rv.length
    have l2 : i < its.length := by
      have := (List.getElem?_eq_some_iff.mp (show its[i]? = some v by simpa using hi)).1
      exact this
    exact ⟨xs[i]'(by omega), List.getElem?_eq_getElem (by omega)⟩
  obtain ⟨u, hu2, ru⟩ := Vals.get rv hx
  have ev : u = v := by
    have : its[i]? = some v := by simpa using hi
    rw [this] at hu2
    exact (Option.some.inj hu2).symm
  subst ev
  refine ⟨x, H, I.kept (t' := tk) hk, ru, q i x hx ?_⟩
  rw [← e, List.getD_eq_getElem?_getD, List.getElem?_eq_getElem lt]
  rfl
end
end Cab
set_option Elab.async false
set_option linter.all false
set_option maxRecDepth 100000
set_option maxHeartbeats 2000000
namespace Cab
open PySem PySem.Spec PyProof.Rows L2
section
variable {K : PySem.W.Frag} {mg : Str → Option Value} {base : Heap}

theorem Wd.g_is_whole (T : Wd K mg base) : mg "is_whole" = some (.ref (He.ga K "is_whole")) := He.glo_ok T.kin T.ns (T.fact 0 (f := .glo "is_whole"))
theorem Wd.g_is_between (T : Wd K mg base) : mg "is_between" = some (.ref (He.ga K "is_between")) := He.glo_ok T.kin T.ns (T.fact 1 (f := .glo "is_between"))
theorem Wd.g_is_speed (T : Wd K mg base) : mg "is_speed" = some (.ref (He.ga K "is_speed")) := He.glo_ok T.kin T.ns (T.fact 2 (f := .glo "is_speed"))
theorem Wd.g_is_trip (T : Wd K mg base) : mg "is_trip" = some (.ref (He.ga K "is_trip")) := He.glo_ok T.kin T.ns (T.fact 3 (f := .glo "is_trip"))
theorem Wd.g_check_trip (T : Wd K mg base) : mg "check_trip" = some (.ref (He.ga K "check_trip")) := He.glo_ok T.kin T.ns (T.fact 4 (f := .glo "check_trip"))
theorem Wd.g_are_worths (T : Wd K mg base) : mg "are_worths" = some (.ref (He.ga K "are_worths")) := He.glo_ok T.kin T.ns (T.fact 5 (f := .glo "are_worths"))
theorem Wd.g_check_numbers (T : Wd K mg base) : mg "check_numbers" = some (.ref (He.ga K "check_numbers")) := He.glo_ok T.kin T.ns (T.fact 6 (f := .glo "check_numbers"))
theorem Wd.g_check_number (T : Wd K mg base) : mg "check_number" = some (.ref (He.ga K "check_number")) := He.glo_ok T.kin T.ns (T.fact 7 (f := .glo "check_number"))
theorem Wd.g_check_top (T : Wd K mg base) : mg "check_top" = some (.ref (He.ga K "check_top")) := He.glo_ok T.kin T.ns (T.fact 8 (f := .glo "check_top"))
theorem Wd.g_are_turns (T : Wd K mg base) : mg "are_turns" = some (.ref (He.ga K "are_turns")) := He.glo_ok T.kin T.ns (T.fact 9 (f := .glo "are_turns"))
theorem Wd.g_is_plain (T : Wd K mg base) : mg "is_plain" = some (.ref (He.ga K "is_plain")) := He.glo_ok T.kin T.ns (T.fact 10 (f := .glo "is_plain"))
theorem Wd.g_pair_steps (T : Wd K mg base) : mg "pair_steps" = some (.ref (He.ga K "pair_steps")) := He.glo_ok T.kin T.ns (T.fact 11 (f := .glo "pair_steps"))
theorem Wd.g_parting_trip (T : Wd K mg base) : mg "parting_trip" = some (.ref (He.ga K "parting_trip")) := He.glo_ok T.kin T.ns (T.fact 12 (f := .glo "parting_trip"))
theorem Wd.g_pairs_from (T : Wd K mg base) : mg "pairs_from" = some (.ref (He.ga K "pairs_from")) := He.glo_ok T.kin T.ns (T.fact 13 (f := .glo "pairs_from"))
theorem Wd.g_are_pairs (T : Wd K mg base) : mg "are_pairs" = some (.ref (He.ga K "are_pairs")) := He.glo_ok T.kin T.ns (T.fact 14 (f := .glo "are_pairs"))
theorem Wd.g_ring_in (T : Wd K mg base) : mg "ring_in" = some (.ref (He.ga K "ring_in")) := He.glo_ok T.kin T.ns (T.fact 15 (f := .glo "ring_in"))
theorem Wd.g_raised (T : Wd K mg base) : mg "raised" = some (.ref (He.ga K "raised")) := He.glo_ok T.kin T.ns (T.fact 16 (f := .glo "raised"))
theorem Wd.g_trip_to (T : Wd K mg base) : mg "trip_to" = some (.ref (He.ga K "trip_to")) := He.glo_ok T.kin T.ns (T.fact 17 (f := .glo "trip_to"))
theorem Wd.g_greatest_excess (T : Wd K mg base) : mg "greatest_excess" = some (.ref (He.ga K "greatest_excess")) := He.glo_ok T.kin T.ns (T.fact 18 (f := .glo "greatest_excess"))
theorem Wd.g_never_dearer (T : Wd K mg base) : mg "never_dearer" = some (.ref (He.ga K "never_dearer")) := He.glo_ok T.kin T.ns (T.fact 19 (f := .glo "never_dearer"))
theorem Wd.g_amounts_of (T : Wd K mg base) : mg "amounts_of" = some (.ref (He.ga K "amounts_of")) := He.glo_ok T.kin T.ns (T.fact 20 (f := .glo "amounts_of"))
theorem Wd.g_excess_amounts (T : Wd K mg base) : mg "excess_amounts" = some (.ref (He.ga K "excess_amounts")) := He.glo_ok T.kin T.ns (T.fact 21 (f := .glo "excess_amounts"))
theorem Wd.g_is_excess_amounts (T : Wd K mg base) : mg "is_excess_amounts" = some (.ref (He.ga K "is_excess_amounts")) := He.glo_ok T.kin T.ns (T.fact 22 (f := .glo "is_excess_amounts"))
theorem Wd.g_is_split (T : Wd K mg base) : mg "is_split" = some (.ref (He.ga K "is_split")) := He.glo_ok T.kin T.ns (T.fact 23 (f := .glo "is_split"))
theorem Wd.g_split_price (T : Wd K mg base) : mg "split_price" = some (.ref (He.ga K "split_price")) := He.glo_ok T.kin T.ns (T.fact 24 (f := .glo "split_price"))
theorem Wd.g_hires_on (T : Wd K mg base) : mg "hires_on" = some (.ref (He.ga K "hires_on")) := He.glo_ok T.kin T.ns (T.fact 25 (f := .glo "hires_on"))
theorem Wd.g_best_split (T : Wd K mg base) : mg "best_split" = some (.ref (He.ga K "best_split")) := He.glo_ok T.kin T.ns (T.fact 26 (f := .glo "best_split"))
theorem Wd.g_is_stretch (T : Wd K mg base) : mg "is_stretch" = some (.ref (He.ga K "is_stretch")) := He.glo_ok T.kin T.ns (T.fact 27 (f := .glo "is_stretch"))
theorem Wd.g_road_counts (T : Wd K mg base) : mg "road_counts" = some (.ref (He.ga K "road_counts")) := He.glo_ok T.kin T.ns (T.fact 28 (f := .glo "road_counts"))
theorem Wd.g_count_waited (T : Wd K mg base) : mg "count_waited" = some (.ref (He.ga K "count_waited")) := He.glo_ok T.kin T.ns (T.fact 29 (f := .glo "count_waited"))
theorem Wd.g_ends_in (T : Wd K mg base) : mg "ends_in" = some (.ref (He.ga K "ends_in")) := He.glo_ok T.kin T.ns (T.fact 30 (f := .glo "ends_in"))
theorem Wd.g__law_bag (T : Wd K mg base) : mg "_law_bag" = some (.ref (He.ga K "_law_bag")) := He.glo_ok T.kin T.ns (T.fact 31 (f := .glo "_law_bag"))
theorem Wd.g__law_draw (T : Wd K mg base) : mg "_law_draw" = some (.ref (He.ga K "_law_draw")) := He.glo_ok T.kin T.ns (T.fact 32 (f := .glo "_law_draw"))
theorem Wd.g__law_pick (T : Wd K mg base) : mg "_law_pick" = some (.ref (He.ga K "_law_pick")) := He.glo_ok T.kin T.ns (T.fact 33 (f := .glo "_law_pick"))
theorem Wd.g__law_drawn_trip (T : Wd K mg base) : mg "_law_drawn_trip" = some (.ref (He.ga K "_law_drawn_trip")) := He.glo_ok T.kin T.ns (T.fact 34 (f := .glo "_law_drawn_trip"))
theorem Wd.g__law_small_worths (T : Wd K mg base) : mg "_law_small_worths" = some (.ref (He.ga K "_law_small_worths")) := He.glo_ok T.kin T.ns (T.fact 35 (f := .glo "_law_small_worths"))
theorem Wd.g__law_meter (T : Wd K mg base) : mg "_law_meter" = some (.ref (He.ga K "_law_meter")) := He.glo_ok T.kin T.ns (T.fact 36 (f := .glo "_law_meter"))
theorem Wd.g__law_made_table (T : Wd K mg base) : mg "_law_made_table" = some (.ref (He.ga K "_law_made_table")) := He.glo_ok T.kin T.ns (T.fact 37 (f := .glo "_law_made_table"))
theorem Wd.g__law_made (T : Wd K mg base) : mg "_law_made" = some (.ref (He.ga K "_law_made")) := He.glo_ok T.kin T.ns (T.fact 38 (f := .glo "_law_made"))
theorem Wd.g__law_road_trips (T : Wd K mg base) : mg "_law_road_trips" = some (.ref (He.ga K "_law_road_trips")) := He.glo_ok T.kin T.ns (T.fact 39 (f := .glo "_law_road_trips"))
theorem Wd.g__law_route (T : Wd K mg base) : mg "_law_route" = some (.ref (He.ga K "_law_route")) := He.glo_ok T.kin T.ns (T.fact 40 (f := .glo "_law_route"))
theorem Wd.g__law_trips_by_waits (T : Wd K mg base) : mg "_law_trips_by_waits" = some (.ref (He.ga K "_law_trips_by_waits")) := He.glo_ok T.kin T.ns (T.fact 41 (f := .glo "_law_trips_by_waits"))
theorem Wd.g__law_dearer (T : Wd K mg base) : mg "_law_dearer" = some (.ref (He.ga K "_law_dearer")) := He.glo_ok T.kin T.ns (T.fact 42 (f := .glo "_law_dearer"))
theorem Wd.g__law_routes_right (T : Wd K mg base) : mg "_law_routes_right" = some (.ref (He.ga K "_law_routes_right")) := He.glo_ok T.kin T.ns (T.fact 43 (f := .glo "_law_routes_right"))
theorem Wd.g__law_hires_right (T : Wd K mg base) : mg "_law_hires_right" = some (.ref (He.ga K "_law_hires_right")) := He.glo_ok T.kin T.ns (T.fact 44 (f := .glo "_law_hires_right"))
theorem Wd.g_law (T : Wd K mg base) : mg "law" = some (.ref (He.ga K "law")) := He.glo_ok T.kin T.ns (T.fact 45 (f := .glo "law"))
theorem Wd.g_number_in_trips (T : Wd K mg base) : mg "number_in_trips" = some (.ref (He.ga K "number_in_trips")) := He.glo_ok T.kin T.ns (T.fact 46 (f := .glo "number_in_trips"))
theorem Wd.g_Table (T : Wd K mg base) : mg "Table" = some (.ref (He.ga K "Table")) := He.glo_ok T.kin T.ns (T.fact 47 (f := .glo "Table"))
theorem Wd.g_Meter (T : Wd K mg base) : mg "Meter" = some (.ref (He.ga K "Meter")) := He.glo_ok T.kin T.ns (T.fact 48 (f := .glo "Meter"))
theorem Wd.g_Route (T : Wd K mg base) : mg "Route" = some (.ref (He.ga K "Route")) := He.glo_ok T.kin T.ns (T.fact 49 (f := .glo "Route"))
theorem Wd.f_isinstance (T : Wd K mg base) : mg "isinstance" = none := He.free_ok T.kin T.ns (T.fact 50 (f := .free "isinstance"))
theorem Wd.f_len (T : Wd K mg base) : mg "len" = none := He.free_ok T.kin T.ns (T.fact 51 (f := .free "len"))
theorem Wd.f_all (T : Wd K mg base) : mg "all" = none := He.free_ok T.kin T.ns (T.fact 52 (f := .free "all"))
theorem Wd.f_any (T : Wd K mg base) : mg "any" = none := He.free_ok T.kin T.ns (T.fact 53 (f := .free "any"))
theorem Wd.f_max (T : Wd K mg base) : mg "max" = none := He.free_ok T.kin T.ns (T.fact 54 (f := .free "max"))
theorem Wd.f_min (T : Wd K mg base) : mg "min" = none := He.free_ok T.kin T.ns (T.fact 55 (f := .free "min"))
theorem Wd.f_sum (T : Wd K mg base) : mg "sum" = none := He.free_ok T.kin T.ns (T.fact 56 (f := .free "sum"))
theorem Wd.f_sorted (T : Wd K mg base) : mg "sorted" = none := He.free_ok T.kin T.ns (T.fact 57 (f := .free "sorted"))
theorem Wd.f_range (T : Wd K mg base) : mg "range" = none := He.free_ok T.kin T.ns (T.fact 58 (f := .free "range"))
theorem Wd.f_list (T : Wd K mg base) : mg "list" = none := He.free_ok T.kin T.ns (T.fact 59 (f := .free "list"))
theorem Wd.f_tuple (T : Wd K mg base) : mg "tuple" = none := He.free_ok T.kin T.ns (T.fact 60 (f := .free "tuple"))
theorem Wd.f_set (T : Wd K mg base) : mg "set" = none := He.free_ok T.kin T.ns (T.fact 61 (f := .free "set"))
theorem Wd.f_str (T : Wd K mg base) : mg "str" = none := He.free_ok T.kin T.ns (T.fact 62 (f := .free "str"))
theorem Wd.f_int (T : Wd K mg base) : mg "int" = none := He.free_ok T.kin T.ns (T.fact 63 (f := .free "int"))
theorem Wd.f_bool (T : Wd K mg base) : mg "bool" = none := He.free_ok T.kin T.ns (T.fact 64 (f := .free "bool"))
theorem Wd.f_abs (T : Wd K mg base) : mg "abs" = none := He.free_ok T.kin T.ns (T.fact 65 (f := .free "abs"))
theorem Wd.c_MOST_TICKS (T : Wd K mg base) : ∃ u, mg "MOST_TICKS" = some u ∧ RelV (.int 2000) u := let ⟨t, e⟩ := He.int_ok T.kin T.ns (T.fact 66 (f := .int "MOST_TICKS" 2000)); ⟨_, e, t, rfl⟩
theorem Wd.c_GREATEST_SPEED_trips (T : Wd K mg base) : ∃ u, mg "GREATEST_SPEED_trips" = some u ∧ RelV (.int 9) u := let ⟨t, e⟩ := He.int_ok T.kin T.ns (T.fact 67 (f := .int "GREATEST_SPEED_trips" 9)); ⟨_, e, t, rfl⟩
theorem Wd.c_GREATEST_WORTH (T : Wd K mg base) : ∃ u, mg "GREATEST_WORTH" = some u ∧ RelV (.int 60) u := let ⟨t, e⟩ := He.int_ok T.kin T.ns (T.fact 68 (f := .int "GREATEST_WORTH" 60)); ⟨_, e, t, rfl⟩
theorem Wd.c_GREATEST_DROP (T : Wd K mg base) : ∃ u, mg "GREATEST_DROP" = some u ∧ RelV (.int 60) u := let ⟨t, e⟩ := He.int_ok T.kin T.ns (T.fact 69 (f := .int "GREATEST_DROP" 60)); ⟨_, e, t, rfl⟩
theorem Wd.c_GREATEST_FLAG (T : Wd K mg base) : ∃ u, mg "GREATEST_FLAG" = some u ∧ RelV (.int 1000) u := let ⟨t, e⟩ := He.int_ok T.kin T.ns (T.fact 70 (f := .int "GREATEST_FLAG" 1000)); ⟨_, e, t, rfl⟩
theorem Wd.c_GREATEST_EACH (T : Wd K mg base) : ∃ u, mg "GREATEST_EACH" = some u ∧ RelV (.int 100) u := let ⟨t, e⟩ := He.int_ok T.kin T.ns (T.fact 71 (f := .int "GREATEST_EACH" 100)); ⟨_, e, t, rfl⟩
theorem Wd.c_GREATEST_TURN (T : Wd K mg base) : ∃ u, mg "GREATEST_TURN" = some u ∧ RelV (.int 9) u := let ⟨t, e⟩ := He.int_ok T.kin T.ns (T.fact 72 (f := .int "GREATEST_TURN" 9)); ⟨_, e, t, rfl⟩
theorem Wd.c_MOST_TABLES (T : Wd K mg base) : ∃ u, mg "MOST_TABLES" = some u ∧ RelV (.int 3) u := let ⟨t, e⟩ := He.int_ok T.kin T.ns (T.fact 73 (f := .int "MOST_TABLES" 3)); ⟨_, e, t, rfl⟩
theorem Wd.c_SPEEDS (T : Wd K mg base) : ∃ u, mg "SPEEDS" = some u ∧ RelV (.int 10) u := let ⟨t, e⟩ := He.int_ok T.kin T.ns (T.fact 74 (f := .int "SPEEDS" 10)); ⟨_, e, t, rfl⟩
theorem Wd.c_MOST_STRETCHES (T : Wd K mg base) : ∃ u, mg "MOST_STRETCHES" = some u ∧ RelV (.int 12) u := let ⟨t, e⟩ := He.int_ok T.kin T.ns (T.fact 75 (f := .int "MOST_STRETCHES" 12)); ⟨_, e, t, rfl⟩
theorem Wd.c_LONGEST_ROAD (T : Wd K mg base) : ∃ u, mg "LONGEST_ROAD" = some u ∧ RelV (.int 60) u := let ⟨t, e⟩ := He.int_ok T.kin T.ns (T.fact 76 (f := .int "LONGEST_ROAD" 60)); ⟨_, e, t, rfl⟩
theorem Wd.c_LONGEST_HOLD (T : Wd K mg base) : ∃ u, mg "LONGEST_HOLD" = some u ∧ RelV (.int 9) u := let ⟨t, e⟩ := He.int_ok T.kin T.ns (T.fact 77 (f := .int "LONGEST_HOLD" 9)); ⟨_, e, t, rfl⟩
theorem Wd.c_GREATEST_SPEED_town (T : Wd K mg base) : ∃ u, mg "GREATEST_SPEED_town" = some u ∧ RelV (.int 9) u := let ⟨t, e⟩ := He.int_ok T.kin T.ns (T.fact 78 (f := .int "GREATEST_SPEED_town" 9)); ⟨_, e, t, rfl⟩
theorem Wd.c_DIGITS (T : Wd K mg base) : ∃ u, mg "DIGITS" = some u ∧ RelV (.str "0123456789") u := let ⟨t, e⟩ := He.str_ok T.kin T.ns (T.fact 79 (f := .str "DIGITS" "0123456789")); ⟨_, e, t, rfl⟩
theorem Wd.cls_Table (T : Wd K mg base) : Cls K (He.ga K "Table") := He.cls_ok (T.fact 80 (f := .cls "Table"))
theorem Wd.mk_Table (T : Wd K mg base) : Mk K (He.ga K "Table") (He.ma K (He.ga K "Table") "__init__") := He.mkr_ok (T.fact 81 (f := .mkr "Table"))
theorem Wd.n_Table_row (T : Wd K mg base) : NoAttr K (He.ga K "Table") "row" := He.noat_ok (T.fact 82 (f := .noat "Table" "row"))
theorem Wd.m_Table_init (T : Wd K mg base) : Meth K (He.ga K "Table") "__init__" (He.ma K (He.ga K "Table") "__init__") := He.meth_ok (T.fact 83 (f := .meth "Table" "__init__"))
theorem Wd.m_Table_getitem (T : Wd K mg base) : Meth K (He.ga K "Table") "__getitem__" (He.ma K (He.ga K "Table") "__getitem__") := He.meth_ok (T.fact 84 (f := .meth "Table" "__getitem__"))
theorem Wd.cls_Meter (T : Wd K mg base) : Cls K (He.ga K "Meter") := He.cls_ok (T.fact 85 (f := .cls "Meter"))
theorem Wd.mk_Meter (T : Wd K mg base) : Mk K (He.ga K "Meter") (He.ma K (He.ga K "Meter") "__init__") := He.mkr_ok (T.fact 86 (f := .mkr "Meter"))
theorem Wd.n_Meter_own_numbers (T : Wd K mg base) : NoAttr K (He.ga K "Meter") "own_numbers" := He.noat_ok (T.fact 87 (f := .noat "Meter" "own_numbers"))
theorem Wd.n_Meter_own_tables (T : Wd K mg base) : NoAttr K (He.ga K "Meter") "own_tables" := He.noat_ok (T.fact 88 (f := .noat "Meter" "own_tables"))
theorem Wd.n_Meter_own_turns (T : Wd K mg base) : NoAttr K (He.ga K "Meter") "own_turns" := He.noat_ok (T.fact 89 (f := .noat "Meter" "own_turns"))
theorem Wd.n_Meter_own_steps (T : Wd K mg base) : NoAttr K (He.ga K "Meter") "own_steps" := He.noat_ok (T.fact 90 (f := .noat "Meter" "own_steps"))
theorem Wd.m_Meter_init (T : Wd K mg base) : Meth K (He.ga K "Meter") "__init__" (He.ma K (He.ga K "Meter") "__init__") := He.meth_ok (T.fact 91 (f := .meth "Meter" "__init__"))
theorem Wd.m_Meter_table_at (T : Wd K mg base) : Meth K (He.ga K "Meter") "table_at" (He.ma K (He.ga K "Meter") "table_at") := He.meth_ok (T.fact 92 (f := .meth "Meter" "table_at"))
theorem Wd.m_Meter_jumps_at (T : Wd K mg base) : Meth K (He.ga K "Meter") "jumps_at" (He.ma K (He.ga K "Meter") "jumps_at") := He.meth_ok (T.fact 93 (f := .meth "Meter" "jumps_at"))
theorem Wd.m_Meter_count_on (T : Wd K mg base) : Meth K (He.ga K "Meter") "count_on" (He.ma K (He.ga K "Meter") "count_on") := He.meth_ok (T.fact 94 (f := .meth "Meter" "count_on"))
theorem Wd.m_Meter_counts (T : Wd K mg base) : Meth K (He.ga K "Meter") "counts" (He.ma K (He.ga K "Meter") "counts") := He.meth_ok (T.fact 95 (f := .meth "Meter" "counts"))
theorem Wd.m_Meter_count (T : Wd K mg base) : Meth K (He.ga K "Meter") "count" (He.ma K (He.ga K "Meter") "count") := He.meth_ok (T.fact 96 (f := .meth "Meter" "count"))
theorem Wd.m_Meter_price_at (T : Wd K mg base) : Meth K (He.ga K "Meter") "price_at" (He.ma K (He.ga K "Meter") "price_at") := He.meth_ok (T.fact 97 (f := .meth "Meter" "price_at"))
theorem Wd.m_Meter_prices (T : Wd K mg base) : Meth K (He.ga K "Meter") "prices" (He.ma K (He.ga K "Meter") "prices") := He.meth_ok (T.fact 98 (f := .meth "Meter" "prices"))
theorem Wd.m_Meter_call (T : Wd K mg base) : Meth K (He.ga K "Meter") "__call__" (He.ma K (He.ga K "Meter") "__call__") := He.meth_ok (T.fact 99 (f := .meth "Meter" "__call__"))
theorem Wd.m_Meter_last_turn (T : Wd K mg base) : Meth K (He.ga K "Meter") "last_turn" (He.ma K (He.ga K "Meter") "last_turn") := He.meth_ok (T.fact 100 (f := .meth "Meter" "last_turn"))
theorem Wd.m_Meter_step_from (T : Wd K mg base) : Meth K (He.ga K "Meter") "step_from" (He.ma K (He.ga K "Meter") "step_from") := He.meth_ok (T.fact 101 (f := .meth "Meter" "step_from"))
theorem Wd.m_Meter_after (T : Wd K mg base) : Meth K (He.ga K "Meter") "after" (He.ma K (He.ga K "Meter") "after") := He.meth_ok (T.fact 102 (f := .meth "Meter" "after"))
theorem Wd.m_Meter_stands (T : Wd K mg base) : Meth K (He.ga K "Meter") "stands" (He.ma K (He.ga K "Meter") "stands") := He.meth_ok (T.fact 103 (f := .meth "Meter" "stands"))
theorem Wd.cls_Route (T : Wd K mg base) : Cls K (He.ga K "Route") := He.cls_ok (T.fact 104 (f := .cls "Route"))
theorem Wd.mk_Route (T : Wd K mg base) : Mk K (He.ga K "Route") (He.ma K (He.ga K "Route") "__init__") := He.mkr_ok (T.fact 105 (f := .mkr "Route"))
theorem Wd.n_Route_row (T : Wd K mg base) : NoAttr K (He.ga K "Route") "row" := He.noat_ok (T.fact 106 (f := .noat "Route" "row"))
theorem Wd.m_Route_init (T : Wd K mg base) : Meth K (He.ga K "Route") "__init__" (He.ma K (He.ga K "Route") "__init__") := He.meth_ok (T.fact 107 (f := .meth "Route" "__init__"))
theorem Wd.m_Route_has (T : Wd K mg base) : Meth K (He.ga K "Route") "has" (He.ma K (He.ga K "Route") "has") := He.meth_ok (T.fact 108 (f := .meth "Route" "has"))
theorem Wd.m_Route_counts_along (T : Wd K mg base) : Meth K (He.ga K "Route") "counts_along" (He.ma K (He.ga K "Route") "counts_along") := He.meth_ok (T.fact 109 (f := .meth "Route" "counts_along"))
theorem Wd.m_Route_prices (T : Wd K mg base) : Meth K (He.ga K "Route") "prices" (He.ma K (He.ga K "Route") "prices") := He.meth_ok (T.fact 110 (f := .meth "Route" "prices"))
theorem Wd.k_is_whole (T : Wd K mg base) : PySem.W.keepIn K (.ref (d_is_whole.at_ K)) = true := let ⟨_, F⟩ := T.fdef 0 (d := d_is_whole); F.kp
theorem Wd.k_is_between (T : Wd K mg base) : PySem.W.keepIn K (.ref (d_is_between.at_ K)) = true := let ⟨_, F⟩ := T.fdef 1 (d := d_is_between); F.kp
theorem Wd.k_is_speed (T : Wd K mg base) : PySem.W.keepIn K (.ref (d_is_speed.at_ K)) = true := let ⟨_, F⟩ := T.fdef 2 (d := d_is_speed); F.kp
theorem Wd.k_is_trip (T : Wd K mg base) : PySem.W.keepIn K (.ref (d_is_trip.at_ K)) = true := let ⟨_, F⟩ := T.fdef 3 (d := d_is_trip); F.kp
theorem Wd.k_check_trip (T : Wd K mg base) : PySem.W.keepIn K (.ref (d_check_trip.at_ K)) = true := let ⟨_, F⟩ := T.fdef 4 (d := d_check_trip); F.kp
theorem Wd.k_number_in (T : Wd K mg base) : PySem.W.keepIn K (.ref (d_number_in.at_ K)) = true := let ⟨_, F⟩ := T.fdef 5 (d := d_number_in); F.kp
theorem Wd.k_are_worths (T : Wd K mg base) : PySem.W.keepIn K (.ref (d_are_worths.at_ K)) = true := let ⟨_, F⟩ := T.fdef 6 (d := d_are_worths); F.kp
theorem Wd.k_check_numbers (T : Wd K mg base) : PySem.W.keepIn K (.ref (d_check_numbers.at_ K)) = true := let ⟨_, F⟩ := T.fdef 7 (d := d_check_numbers); F.kp
theorem Wd.k_check_number (T : Wd K mg base) : PySem.W.keepIn K (.ref (d_check_number.at_ K)) = true := let ⟨_, F⟩ := T.fdef 8 (d := d_check_number); F.kp
theorem Wd.k_check_top (T : Wd K mg base) : PySem.W.keepIn K (.ref (d_check_top.at_ K)) = true := let ⟨_, F⟩ := T.fdef 9 (d := d_check_top); F.kp
theorem Wd.k_are_turns (T : Wd K mg base) : PySem.W.keepIn K (.ref (d_are_turns.at_ K)) = true := let ⟨_, F⟩ := T.fdef 10 (d := d_are_turns); F.kp
theorem Wd.k_is_plain (T : Wd K mg base) : PySem.W.keepIn K (.ref (d_is_plain.at_ K)) = true := let ⟨_, F⟩ := T.fdef 11 (d := d_is_plain); F.kp
theorem Wd.k_pair_steps (T : Wd K mg base) : PySem.W.keepIn K (.ref (d_pair_steps.at_ K)) = true := let ⟨_, F⟩ := T.fdef 12 (d := d_pair_steps); F.kp
theorem Wd.k_parting_trip (T : Wd K mg base) : PySem.W.keepIn K (.ref (d_parting_trip.at_ K)) = true := let ⟨_, F⟩ := T.fdef 13 (d := d_parting_trip); F.kp
theorem Wd.k_pairs_from (T : Wd K mg base) : PySem.W.keepIn K (.ref (d_pairs_from.at_ K)) = true := let ⟨_, F⟩ := T.fdef 14 (d := d_pairs_from); F.kp
theorem Wd.k_are_pairs (T : Wd K mg base) : PySem.W.keepIn K (.ref (d_are_pairs.at_ K)) = true := let ⟨_, F⟩ := T.fdef 15 (d := d_are_pairs); F.kp
theorem Wd.k_ring_in (T : Wd K mg base) : PySem.W.keepIn K (.ref (d_ring_in.at_ K)) = true := let ⟨_, F⟩ := T.fdef 16 (d := d_ring_in); F.kp
theorem Wd.k_raised (T : Wd K mg base) : PySem.W.keepIn K (.ref (d_raised.at_ K)) = true := let ⟨_, F⟩ := T.fdef 17 (d := d_raised); F.kp
theorem Wd.k_trip_to (T : Wd K mg base) : PySem.W.keepIn K (.ref (d_trip_to.at_ K)) = true := let ⟨_, F⟩ := T.fdef 18 (d := d_trip_to); F.kp
theorem Wd.k_greatest_excess (T : Wd K mg base) : PySem.W.keepIn K (.ref (d_greatest_excess.at_ K)) = true := let ⟨_, F⟩ := T.fdef 19 (d := d_greatest_excess); F.kp
theorem Wd.k_never_dearer (T : Wd K mg base) : PySem.W.keepIn K (.ref (d_never_dearer.at_ K)) = true := let ⟨_, F⟩ := T.fdef 20 (d := d_never_dearer); F.kp
theorem Wd.k_amounts_of (T : Wd K mg base) : PySem.W.keepIn K (.ref (d_amounts_of.at_ K)) = true := let ⟨_, F⟩ := T.fdef 21 (d := d_amounts_of); F.kp
theorem Wd.k_excess_amounts (T : Wd K mg base) : PySem.W.keepIn K (.ref (d_excess_amounts.at_ K)) = true := let ⟨_, F⟩ := T.fdef 22 (d := d_excess_amounts); F.kp
theorem Wd.k_is_excess_amounts (T : Wd K mg base) : PySem.W.keepIn K (.ref (d_is_excess_amounts.at_ K)) = true := let ⟨_, F⟩ := T.fdef 23 (d := d_is_excess_amounts); F.kp
theorem Wd.k_is_split (T : Wd K mg base) : PySem.W.keepIn K (.ref (d_is_split.at_ K)) = true := let ⟨_, F⟩ := T.fdef 24 (d := d_is_split); F.kp
theorem Wd.k_split_price (T : Wd K mg base) : PySem.W.keepIn K (.ref (d_split_price.at_ K)) = true := let ⟨_, F⟩ := T.fdef 25 (d := d_split_price); F.kp
theorem Wd.k_hires_on (T : Wd K mg base) : PySem.W.keepIn K (.ref (d_hires_on.at_ K)) = true := let ⟨_, F⟩ := T.fdef 26 (d := d_hires_on); F.kp
theorem Wd.k_best_split (T : Wd K mg base) : PySem.W.keepIn K (.ref (d_best_split.at_ K)) = true := let ⟨_, F⟩ := T.fdef 27 (d := d_best_split); F.kp
theorem Wd.k_is_stretch (T : Wd K mg base) : PySem.W.keepIn K (.ref (d_is_stretch.at_ K)) = true := let ⟨_, F⟩ := T.fdef 28 (d := d_is_stretch); F.kp
theorem Wd.k_road_counts (T : Wd K mg base) : PySem.W.keepIn K (.ref (d_road_counts.at_ K)) = true := let ⟨_, F⟩ := T.fdef 29 (d := d_road_counts); F.kp
theorem Wd.k_count_waited (T : Wd K mg base) : PySem.W.keepIn K (.ref (d_count_waited.at_ K)) = true := let ⟨_, F⟩ := T.fdef 30 (d := d_count_waited); F.kp
theorem Wd.k_ends_in (T : Wd K mg base) : PySem.W.keepIn K (.ref (d_ends_in.at_ K)) = true := let ⟨_, F⟩ := T.fdef 31 (d := d_ends_in); F.kp
theorem Wd.k_law_bag (T : Wd K mg base) : PySem.W.keepIn K (.ref (d_law_bag.at_ K)) = true := let ⟨_, F⟩ := T.fdef 32 (d := d_law_bag); F.kp
theorem Wd.k_law_draw (T : Wd K mg base) : PySem.W.keepIn K (.ref (d_law_draw.at_ K)) = true := let ⟨_, F⟩ := T.fdef 33 (d := d_law_draw); F.kp
theorem Wd.k_law_pick (T : Wd K mg base) : PySem.W.keepIn K (.ref (d_law_pick.at_ K)) = true := let ⟨_, F⟩ := T.fdef 34 (d := d_law_pick); F.kp
theorem Wd.k_law_drawn_trip (T : Wd K mg base) : PySem.W.keepIn K (.ref (d_law_drawn_trip.at_ K)) = true := let ⟨_, F⟩ := T.fdef 35 (d := d_law_drawn_trip); F.kp
theorem Wd.k_law_small_worths (T : Wd K mg base) : PySem.W.keepIn K (.ref (d_law_small_worths.at_ K)) = true := let ⟨_, F⟩ := T.fdef 36 (d := d_law_small_worths); F.kp
theorem Wd.k_law_meter (T : Wd K mg base) : PySem.W.keepIn K (.ref (d_law_meter.at_ K)) = true := let ⟨_, F⟩ := T.fdef 37 (d := d_law_meter); F.kp
theorem Wd.k_law_made_table (T : Wd K mg base) : PySem.W.keepIn K (.ref (d_law_made_table.at_ K)) = true := let ⟨_, F⟩ := T.fdef 38 (d := d_law_made_table); F.kp
theorem Wd.k_law_made (T : Wd K mg base) : PySem.W.keepIn K (.ref (d_law_made.at_ K)) = true := let ⟨_, F⟩ := T.fdef 39 (d := d_law_made); F.kp
theorem Wd.k_law_road_trips (T : Wd K mg base) : PySem.W.keepIn K (.ref (d_law_road_trips.at_ K)) = true := let ⟨_, F⟩ := T.fdef 40 (d := d_law_road_trips); F.kp
theorem Wd.k_law_route (T : Wd K mg base) : PySem.W.keepIn K (.ref (d_law_route.at_ K)) = true := let ⟨_, F⟩ := T.fdef 41 (d := d_law_route); F.kp
theorem Wd.k_law_trips_by_waits (T : Wd K mg base) : PySem.W.keepIn K (.ref (d_law_trips_by_waits.at_ K)) = true := let ⟨_, F⟩ := T.fdef 42 (d := d_law_trips_by_waits); F.kp
theorem Wd.k_law_dearer (T : Wd K mg base) : PySem.W.keepIn K (.ref (d_law_dearer.at_ K)) = true := let ⟨_, F⟩ := T.fdef 43 (d := d_law_dearer); F.kp
theorem Wd.k_law_routes_right (T : Wd K mg base) : PySem.W.keepIn K (.ref (d_law_routes_right.at_ K)) = true := let ⟨_, F⟩ := T.fdef 44 (d := d_law_routes_right); F.kp
theorem Wd.k_law_hires_right (T : Wd K mg base) : PySem.W.keepIn K (.ref (d_law_hires_right.at_ K)) = true := let ⟨_, F⟩ := T.fdef 45 (d := d_law_hires_right); F.kp
theorem Wd.k_law (T : Wd K mg base) : PySem.W.keepIn K (.ref (d_law.at_ K)) = true := let ⟨_, F⟩ := T.fdef 46 (d := d_law); F.kp
theorem Wd.k_Table_init (T : Wd K mg base) : PySem.W.keepIn K (.ref (d_Table_init.at_ K)) = true := let ⟨_, F⟩ := T.fdef 47 (d := d_Table_init); F.kp
theorem Wd.k_Table_either (T : Wd K mg base) : PySem.W.keepIn K (.ref (d_Table_either.at_ K)) = true := let ⟨_, F⟩ := T.fdef 48 (d := d_Table_either); F.kp
theorem Wd.k_Table_both (T : Wd K mg base) : PySem.W.keepIn K (.ref (d_Table_both.at_ K)) = true := let ⟨_, F⟩ := T.fdef 49 (d := d_Table_both); F.kp
theorem Wd.k_Table_changing (T : Wd K mg base) : PySem.W.keepIn K (.ref (d_Table_changing.at_ K)) = true := let ⟨_, F⟩ := T.fdef 50 (d := d_Table_changing); F.kp
theorem Wd.k_Table_read (T : Wd K mg base) : PySem.W.keepIn K (.ref (d_Table_read.at_ K)) = true := let ⟨_, F⟩ := T.fdef 51 (d := d_Table_read); F.kp
theorem Wd.k_Table_getitem (T : Wd K mg base) : PySem.W.keepIn K (.ref (d_Table_getitem.at_ K)) = true := let ⟨_, F⟩ := T.fdef 52 (d := d_Table_getitem); F.kp
theorem Wd.k_Meter_init (T : Wd K mg base) : PySem.W.keepIn K (.ref (d_Meter_init.at_ K)) = true := let ⟨_, F⟩ := T.fdef 53 (d := d_Meter_init); F.kp
theorem Wd.k_Meter_drop (T : Wd K mg base) : PySem.W.keepIn K (.ref (d_Meter_drop.at_ K)) = true := let ⟨_, F⟩ := T.fdef 54 (d := d_Meter_drop); F.kp
theorem Wd.k_Meter_flag (T : Wd K mg base) : PySem.W.keepIn K (.ref (d_Meter_flag.at_ K)) = true := let ⟨_, F⟩ := T.fdef 55 (d := d_Meter_flag); F.kp
theorem Wd.k_Meter_each (T : Wd K mg base) : PySem.W.keepIn K (.ref (d_Meter_each.at_ K)) = true := let ⟨_, F⟩ := T.fdef 56 (d := d_Meter_each); F.kp
theorem Wd.k_Meter_start (T : Wd K mg base) : PySem.W.keepIn K (.ref (d_Meter_start.at_ K)) = true := let ⟨_, F⟩ := T.fdef 57 (d := d_Meter_start); F.kp
theorem Wd.k_Meter_table_at (T : Wd K mg base) : PySem.W.keepIn K (.ref (d_Meter_table_at.at_ K)) = true := let ⟨_, F⟩ := T.fdef 58 (d := d_Meter_table_at); F.kp
theorem Wd.k_Meter_jumps_at (T : Wd K mg base) : PySem.W.keepIn K (.ref (d_Meter_jumps_at.at_ K)) = true := let ⟨_, F⟩ := T.fdef 59 (d := d_Meter_jumps_at); F.kp
theorem Wd.k_Meter_count_on (T : Wd K mg base) : PySem.W.keepIn K (.ref (d_Meter_count_on.at_ K)) = true := let ⟨_, F⟩ := T.fdef 60 (d := d_Meter_count_on); F.kp
theorem Wd.k_Meter_counts (T : Wd K mg base) : PySem.W.keepIn K (.ref (d_Meter_counts.at_ K)) = true := let ⟨_, F⟩ := T.fdef 61 (d := d_Meter_counts); F.kp
theorem Wd.k_Meter_count (T : Wd K mg base) : PySem.W.keepIn K (.ref (d_Meter_count.at_ K)) = true := let ⟨_, F⟩ := T.fdef 62 (d := d_Meter_count); F.kp
theorem Wd.k_Meter_price_at (T : Wd K mg base) : PySem.W.keepIn K (.ref (d_Meter_price_at.at_ K)) = true := let ⟨_, F⟩ := T.fdef 63 (d := d_Meter_price_at); F.kp
theorem Wd.k_Meter_prices (T : Wd K mg base) : PySem.W.keepIn K (.ref (d_Meter_prices.at_ K)) = true := let ⟨_, F⟩ := T.fdef 64 (d := d_Meter_prices); F.kp
theorem Wd.k_Meter_call (T : Wd K mg base) : PySem.W.keepIn K (.ref (d_Meter_call.at_ K)) = true := let ⟨_, F⟩ := T.fdef 65 (d := d_Meter_call); F.kp
theorem Wd.k_Meter_last_turn (T : Wd K mg base) : PySem.W.keepIn K (.ref (d_Meter_last_turn.at_ K)) = true := let ⟨_, F⟩ := T.fdef 66 (d := d_Meter_last_turn); F.kp
theorem Wd.k_Meter_step_from (T : Wd K mg base) : PySem.W.keepIn K (.ref (d_Meter_step_from.at_ K)) = true := let ⟨_, F⟩ := T.fdef 67 (d := d_Meter_step_from); F.kp
theorem Wd.k_Meter_after (T : Wd K mg base) : PySem.W.keepIn K (.ref (d_Meter_after.at_ K)) = true := let ⟨_, F⟩ := T.fdef 68 (d := d_Meter_after); F.kp
theorem Wd.k_Meter_stands (T : Wd K mg base) : PySem.W.keepIn K (.ref (d_Meter_stands.at_ K)) = true := let ⟨_, F⟩ := T.fdef 69 (d := d_Meter_stands); F.kp
theorem Wd.k_Route_init (T : Wd K mg base) : PySem.W.keepIn K (.ref (d_Route_init.at_ K)) = true := let ⟨_, F⟩ := T.fdef 70 (d := d_Route_init); F.kp
theorem Wd.k_Route_steps (T : Wd K mg base) : PySem.W.keepIn K (.ref (d_Route_steps.at_ K)) = true := let ⟨_, F⟩ := T.fdef 71 (d := d_Route_steps); F.kp
theorem Wd.k_Route_has (T : Wd K mg base) : PySem.W.keepIn K (.ref (d_Route_has.at_ K)) = true := let ⟨_, F⟩ := T.fdef 72 (d := d_Route_has); F.kp
theorem Wd.k_Route_counts_along (T : Wd K mg base) : PySem.W.keepIn K (.ref (d_Route_counts_along.at_ K)) = true := let ⟨_, F⟩ := T.fdef 73 (d := d_Route_counts_along); F.kp
theorem Wd.k_Route_prices (T : Wd K mg base) : PySem.W.keepIn K (.ref (d_Route_prices.at_ K)) = true := let ⟨_, F⟩ := T.fdef 74 (d := d_Route_prices); F.kp
theorem Wd.cm_Table_either (T : Wd K mg base) : ClX.CMet K (He.ga K "Table") (.type "type") "either" (He.ma K (He.ga K "Table") "either") (He5.wf K (He.ga K "Table") "classmethod" "either") := cmet_ok (T.exf 0 (e := cmetB "Table" "either"))
theorem Wd.cm_Table_both (T : Wd K mg base) : ClX.CMet K (He.ga K "Table") (.type "type") "both" (He.ma K (He.ga K "Table") "both") (He5.wf K (He.ga K "Table") "classmethod" "both") := cmet_ok (T.exf 1 (e := cmetB "Table" "both"))
theorem Wd.cm_Table_changing (T : Wd K mg base) : ClX.CMet K (He.ga K "Table") (.type "type") "changing" (He.ma K (He.ga K "Table") "changing") (He5.wf K (He.ga K "Table") "classmethod" "changing") := cmet_ok (T.exf 2 (e := cmetB "Table" "changing"))
theorem Wd.cm_Table_read (T : Wd K mg base) : ClX.CMet K (He.ga K "Table") (.type "type") "read" (He.ma K (He.ga K "Table") "read") (He5.wf K (He.ga K "Table") "classmethod" "read") := cmet_ok (T.exf 3 (e := cmetB "Table" "read"))
theorem Wd.p_Meter_drop (T : Wd K mg base) : PropOf K (He.ga K "Meter") "drop" (He.ma K (He.ga K "Meter") "drop") (He5.wf K (He.ga K "Meter") "property" "drop") := prop_ok (T.exf 4 (e := propB "Meter" "drop"))
theorem Wd.p_Meter_flag (T : Wd K mg base) : PropOf K (He.ga K "Meter") "flag" (He.ma K (He.ga K "Meter") "flag") (He5.wf K (He.ga K "Meter") "property" "flag") := prop_ok (T.exf 5 (e := propB "Meter" "flag"))
theorem Wd.p_Meter_each (T : Wd K mg base) : PropOf K (He.ga K "Meter") "each" (He.ma K (He.ga K "Meter") "each") (He5.wf K (He.ga K "Meter") "property" "each") := prop_ok (T.exf 6 (e := propB "Meter" "each"))
theorem Wd.p_Meter_start (T : Wd K mg base) : PropOf K (He.ga K "Meter") "start" (He.ma K (He.ga K "Meter") "start") (He5.wf K (He.ga K "Meter") "property" "start") := prop_ok (T.exf 7 (e := propB "Meter" "start"))
theorem Wd.p_Route_steps (T : Wd K mg base) : PropOf K (He.ga K "Route") "steps" (He.ma K (He.ga K "Route") "steps") (He5.wf K (He.ga K "Route") "property" "steps") := prop_ok (T.exf 8 (e := propB "Route" "steps"))
theorem Wd.crd_Table (T : Wd K mg base) : ClX.CRead K (He.ga K "Table") (.type "type") := cread_ok (T.exf 9 (e := creadB "Table"))
theorem Wd.co_Meter (T : Wd K mg base) : StX.CallO K (He.ga K "Meter") (He.ma K (He.ga K "Meter") "__call__") := ⟨T.m_Meter_call.at_, T.m_Meter_call.fn, (T.exf 10 (e := calloB "Meter"))⟩
theorem Wd.isc_Table (T : Wd K mg base) : C8.InsC K (He.ga K "Table") := insc_ok T.cls_Table (T.exf 12 (e := inscB "Table"))
theorem Wd.fi_getitem (T : Wd K mg base) : PySem.W.fnIn K (He.ma K (He.ga K "Table") "__getitem__") = true := by
  obtain ⟨fd, F⟩ := T.fdef 52 (d := d_Table_getitem)
  obtain ⟨oc, od, dV, kV, doc, pm, an, cdv, ct, osl, rfl, lk, _⟩ := F.ex
  have lk2 : K.lookup (He.ma K (He.ga K "Table") "__getitem__") = _ := lk
  unfold PySem.W.fnIn
  rw [lk2]
end
abbrev N_is_whole : List Str := ["value"]
theorem sc_is_whole : FnScope N_is_whole ["value"] (defScope s_is_whole) := ⟨rfl, rfl, rfl, by decide +kernel, rfl, by decide +kernel, by decide +kernel⟩
abbrev N_is_between : List Str := ["value", "least", "most"]
theorem sc_is_between : FnScope N_is_between ["value", "least", "most"] (defScope s_is_between) := ⟨rfl, rfl, rfl, by decide +kernel, rfl, by decide +kernel, by decide +kernel⟩
abbrev N_is_speed : List Str := ["value"]
theorem sc_is_speed : FnScope N_is_speed ["value"] (defScope s_is_speed) := ⟨rfl, rfl, rfl, by decide +kernel, rfl, by decide +kernel, by decide +kernel⟩
abbrev N_is_trip : List Str := ["value", "digit"]
theorem sc_is_trip : FnScope N_is_trip ["value"] (defScope s_is_trip) := ⟨rfl, rfl, rfl, by decide +kernel, rfl, by decide +kernel, by decide +kernel⟩
abbrev N_check_trip : List Str := ["trip"]
theorem sc_check_trip : FnScope N_check_trip ["trip"] (defScope s_check_trip) := ⟨rfl, rfl, rfl, by decide +kernel, rfl, by decide +kernel, by decide +kernel⟩
abbrev N_number_in : List Str := ["word", "most", "sign"]
theorem sc_number_in : FnScope N_number_in ["word", "most"] (defScope s_number_in) := ⟨rfl, rfl, rfl, by decide +kernel, rfl, by decide +kernel, by decide +kernel⟩
abbrev N_are_worths : List Str := ["value", "item"]
theorem sc_are_worths : FnScope N_are_worths ["value"] (defScope s_are_worths) := ⟨rfl, rfl, rfl, by decide +kernel, rfl, by decide +kernel, by decide +kernel⟩
abbrev N_check_numbers : List Str := ["time", "way", "number"]
theorem sc_check_numbers : FnScope N_check_numbers ["time", "way"] (defScope s_check_numbers) := ⟨rfl, rfl, rfl, by decide +kernel, rfl, by decide +kernel, by decide +kernel⟩
abbrev N_Table_init : List Str := ["self", "worths"]
theorem sc_Table_init : FnScope N_Table_init ["self", "worths"] (defScope s_Table_init) := ⟨rfl, rfl, rfl, by decide +kernel, rfl, by decide +kernel, by decide +kernel⟩
abbrev N_Table_either : List Str := ["cls", "time", "way", "speed"]
theorem sc_Table_either : FnScope N_Table_either ["cls", "time", "way"] (defScope s_Table_either) := ⟨rfl, rfl, rfl, by decide +kernel, rfl, by decide +kernel, by decide +kernel⟩
abbrev N_Table_both : List Str := ["cls", "time", "way", "speed"]
theorem sc_Table_both : FnScope N_Table_both ["cls", "time", "way"] (defScope s_Table_both) := ⟨rfl, rfl, rfl, by decide +kernel, rfl, by decide +kernel, by decide +kernel⟩
abbrev N_Table_changing : List Str := ["cls", "time", "way", "speed", "own"]
theorem sc_Table_changing : FnScope N_Table_changing ["cls", "time", "way", "speed"] (defScope s_Table_changing) := ⟨rfl, rfl, rfl, by decide +kernel, rfl, by decide +kernel, by decide +kernel⟩
abbrev N_Table_read : List Str := ["cls", "text", "words", "worths", "word", "worth"]
theorem sc_Table_read : FnScope N_Table_read ["cls", "text"] (defScope s_Table_read) := ⟨rfl, rfl, rfl, by decide +kernel, rfl, by decide +kernel, by decide +kernel⟩
abbrev N_Table_getitem : List Str := ["self", "speed"]
theorem sc_Table_getitem : FnScope N_Table_getitem ["self", "speed"] (defScope s_Table_getitem) := ⟨rfl, rfl, rfl, by decide +kernel, rfl, by decide +kernel, by decide +kernel⟩
abbrev N_check_number : List Str := ["value", "least", "most"]
theorem sc_check_number : FnScope N_check_number ["value", "least", "most"] (defScope s_check_number) := ⟨rfl, rfl, rfl, by decide +kernel, rfl, by decide +kernel, by decide +kernel⟩
abbrev N_check_top : List Str := ["top"]
theorem sc_check_top : FnScope N_check_top ["top"] (defScope s_check_top) := ⟨rfl, rfl, rfl, by decide +kernel, rfl, by decide +kernel, by decide +kernel⟩
abbrev N_are_turns : List Str := ["turns", "many", "place", "turn"]
theorem sc_are_turns : FnScope N_are_turns ["turns", "many"] (defScope s_are_turns) := ⟨rfl, rfl, rfl, by decide +kernel, rfl, by decide +kernel, by decide +kernel⟩
abbrev N_is_plain : List Str := ["value", "item"]
theorem sc_is_plain : FnScope N_is_plain ["value"] (defScope s_is_plain) := ⟨rfl, rfl, rfl, by decide +kernel, rfl, by decide +kernel, by decide +kernel⟩
abbrev N_Meter_init : List Str := ["self", "first", "drop", "tables", "turns", "flag", "each", "line", "stand", "table", "speed", "goal", "many"]
theorem sc_Meter_init : FnScope N_Meter_init ["self", "first", "drop", "tables", "turns", "flag", "each"] (defScope s_Meter_init) := ⟨rfl, rfl, rfl, by decide +kernel, rfl, by decide +kernel, by decide +kernel⟩
abbrev N_Meter_drop : List Str := ["self"]
theorem sc_Meter_drop : FnScope N_Meter_drop ["self"] (defScope s_Meter_drop) := ⟨rfl, rfl, rfl, by decide +kernel, rfl, by decide +kernel, by decide +kernel⟩
abbrev N_Meter_flag : List Str := ["self"]
theorem sc_Meter_flag : FnScope N_Meter_flag ["self"] (defScope s_Meter_flag) := ⟨rfl, rfl, rfl, by decide +kernel, rfl, by decide +kernel, by decide +kernel⟩
abbrev N_Meter_each : List Str := ["self"]
theorem sc_Meter_each : FnScope N_Meter_each ["self"] (defScope s_Meter_each) := ⟨rfl, rfl, rfl, by decide +kernel, rfl, by decide +kernel, by decide +kernel⟩
abbrev N_Meter_start : List Str := ["self"]
theorem sc_Meter_start : FnScope N_Meter_start ["self"] (defScope s_Meter_start) := ⟨rfl, rfl, rfl, by decide +kernel, rfl, by decide +kernel, by decide +kernel⟩
abbrev N_Meter_table_at : List Str := ["self", "jumps", "turn"]
theorem sc_Meter_table_at : FnScope N_Meter_table_at ["self", "jumps"] (defScope s_Meter_table_at) := ⟨rfl, rfl, rfl, by decide +kernel, rfl, by decide +kernel, by decide +kernel⟩
abbrev N_Meter_jumps_at : List Str := ["self", "count", "first", "drop"]
theorem sc_Meter_jumps_at : FnScope N_Meter_jumps_at ["self", "count"] (defScope s_Meter_jumps_at) := ⟨rfl, rfl, rfl, by decide +kernel, rfl, by decide +kernel, by decide +kernel⟩
abbrev N_Meter_count_on : List Str := ["self", "count", "speed"]
theorem sc_Meter_count_on : FnScope N_Meter_count_on ["self", "count", "speed"] (defScope s_Meter_count_on) := ⟨rfl, rfl, rfl, by decide +kernel, rfl, by decide +kernel, by decide +kernel⟩
abbrev N_Meter_counts : List Str := ["self", "trip", "found", "figure"]
theorem sc_Meter_counts : FnScope N_Meter_counts ["self", "trip"] (defScope s_Meter_counts) := ⟨rfl, rfl, rfl, by decide +kernel, rfl, by decide +kernel, by decide +kernel⟩
abbrev N_Meter_count : List Str := ["self", "trip"]
theorem sc_Meter_count : FnScope N_Meter_count ["self", "trip"] (defScope s_Meter_count) := ⟨rfl, rfl, rfl, by decide +kernel, rfl, by decide +kernel, by decide +kernel⟩
abbrev N_Meter_price_at : List Str := ["self", "count"]
theorem sc_Meter_price_at : FnScope N_Meter_price_at ["self", "count"] (defScope s_Meter_price_at) := ⟨rfl, rfl, rfl, by decide +kernel, rfl, by decide +kernel, by decide +kernel⟩
abbrev N_Meter_prices : List Str := ["self", "trip", "count"]
theorem sc_Meter_prices : FnScope N_Meter_prices ["self", "trip"] (defScope s_Meter_prices) := ⟨rfl, rfl, rfl, by decide +kernel, rfl, by decide +kernel, by decide +kernel⟩
abbrev N_Meter_call : List Str := ["self", "trip"]
theorem sc_Meter_call : FnScope N_Meter_call ["self", "trip"] (defScope s_Meter_call) := ⟨rfl, rfl, rfl, by decide +kernel, rfl, by decide +kernel, by decide +kernel⟩
abbrev N_Meter_last_turn : List Str := ["self"]
theorem sc_Meter_last_turn : FnScope N_Meter_last_turn ["self"] (defScope s_Meter_last_turn) := ⟨rfl, rfl, rfl, by decide +kernel, rfl, by decide +kernel, by decide +kernel⟩
abbrev N_Meter_step_from : List Str := ["self", "stand", "speed", "stage", "left", "worth", "beyond", "many"]
theorem sc_Meter_step_from : FnScope N_Meter_step_from ["self", "stand", "speed"] (defScope s_Meter_step_from) := ⟨rfl, rfl, rfl, by decide +kernel, rfl, by decide +kernel, by decide +kernel⟩
abbrev N_Meter_after : List Str := ["self", "stand", "speed"]
theorem sc_Meter_after : FnScope N_Meter_after ["self", "stand", "speed"] (defScope s_Meter_after) := ⟨rfl, rfl, rfl, by decide +kernel, rfl, by decide +kernel, by decide +kernel⟩
abbrev N_Meter_stands : List Str := ["self", "top", "found", "line", "goal", "many"]
theorem sc_Meter_stands : FnScope N_Meter_stands ["self", "top"] (defScope s_Meter_stands) := ⟨rfl, rfl, rfl, by decide +kernel, rfl, by decide +kernel, by decide +kernel⟩
abbrev N_pair_steps : List Str := ["one", "other", "pair", "top", "found", "speed", "goal", "jumps", "end", "more"]
theorem sc_pair_steps : FnScope N_pair_steps ["one", "other", "pair", "top"] (defScope s_pair_steps) := ⟨rfl, rfl, rfl, by decide +kernel, rfl, by decide +kernel, by decide +kernel⟩
abbrev N_parting_trip : List Str := ["one", "other", "top", "trips", "line", "pair", "speed", "gain", "goal"]
theorem sc_parting_trip : FnScope N_parting_trip ["one", "other", "top"] (defScope s_parting_trip) := ⟨rfl, rfl, rfl, by decide +kernel, rfl, by decide +kernel, by decide +kernel⟩
abbrev N_pairs_from : List Str := ["one", "other", "top", "sources", "found", "line", "pair", "speed", "gain", "goal"]
theorem sc_pairs_from : FnScope N_pairs_from ["one", "other", "top", "sources"] (defScope s_pairs_from) := ⟨rfl, rfl, rfl, by decide +kernel, rfl, by decide +kernel, by decide +kernel⟩
abbrev N_are_pairs : List Str := ["one", "other", "pairs", "top", "stands", "meter", "stand", "pair"]
theorem sc_are_pairs : FnScope N_are_pairs ["one", "other", "pairs", "top"] (defScope s_are_pairs) := ⟨rfl, rfl, rfl, by decide +kernel, rfl, by decide +kernel, by decide +kernel⟩
abbrev N_ring_in : List Str := ["led", "done", "pair", "now", "line"]
theorem sc_ring_in : FnScope N_ring_in ["led"] (defScope s_ring_in) := ⟨rfl, rfl, rfl, by decide +kernel, rfl, by decide +kernel, by decide +kernel⟩
abbrev N_raised : List Str := ["steps", "sources", "best", "led", "turned", "pair", "speed", "gain", "goal"]
theorem sc_raised : FnScope N_raised ["steps", "sources"] (defScope s_raised) := ⟨rfl, rfl, rfl, by decide +kernel, rfl, by decide +kernel, by decide +kernel⟩
abbrev N_trip_to : List Str := ["led", "pair", "trip", "speed"]
theorem sc_trip_to : FnScope N_trip_to ["led", "pair"] (defScope s_trip_to) := ⟨rfl, rfl, rfl, by decide +kernel, rfl, by decide +kernel, by decide +kernel⟩
abbrev N_greatest_excess : List Str := ["one", "other", "top", "first", "best", "led", "ring", "most", "pair"]
theorem sc_greatest_excess : FnScope N_greatest_excess ["one", "other", "top"] (defScope s_greatest_excess) := ⟨rfl, rfl, rfl, by decide +kernel, rfl, by decide +kernel, by decide +kernel⟩
abbrev N_never_dearer : List Str := ["one", "other", "top", "found"]
theorem sc_never_dearer : FnScope N_never_dearer ["one", "other", "top"] (defScope s_never_dearer) := ⟨rfl, rfl, rfl, by decide +kernel, rfl, by decide +kernel, by decide +kernel⟩
abbrev N_amounts_of : List Str := ["steps", "amounts", "turned", "pair", "most", "speed", "gain", "goal"]
theorem sc_amounts_of : FnScope N_amounts_of ["steps"] (defScope s_amounts_of) := ⟨rfl, rfl, rfl, by decide +kernel, rfl, by decide +kernel, by decide +kernel⟩
abbrev N_excess_amounts : List Str := ["one", "other", "top"]
theorem sc_excess_amounts : FnScope N_excess_amounts ["one", "other", "top"] (defScope s_excess_amounts) := ⟨rfl, rfl, rfl, by decide +kernel, rfl, by decide +kernel, by decide +kernel⟩
abbrev N_is_excess_amounts : List Str := ["one", "other", "amounts", "excess", "top", "pair", "speed", "gain", "goal"]
theorem sc_is_excess_amounts : FnScope N_is_excess_amounts ["one", "other", "amounts", "excess", "top"] (defScope s_is_excess_amounts) := ⟨rfl, rfl, rfl, by decide +kernel, rfl, by decide +kernel, by decide +kernel⟩
abbrev N_is_split : List Str := ["trip", "ticks", "place", "tick"]
theorem sc_is_split : FnScope N_is_split ["trip", "ticks"] (defScope s_is_split) := ⟨rfl, rfl, rfl, by decide +kernel, rfl, by decide +kernel, by decide +kernel⟩
abbrev N_split_price : List Str := ["meter", "trip", "ticks", "marks", "place"]
theorem sc_split_price : FnScope N_split_price ["meter", "trip", "ticks"] (defScope s_split_price) := ⟨rfl, rfl, rfl, by decide +kernel, rfl, by decide +kernel, by decide +kernel⟩
abbrev N_hires_on : List Str := ["best", "prices", "end", "options", "begin", "price", "ticks"]
theorem sc_hires_on : FnScope N_hires_on ["best", "prices", "end"] (defScope s_hires_on) := ⟨rfl, rfl, rfl, by decide +kernel, rfl, by decide +kernel, by decide +kernel⟩
abbrev N_best_split : List Str := ["meter", "trip", "most", "prices", "best", "end", "ends", "hire", "told", "begin", "found"]
theorem sc_best_split : FnScope N_best_split ["meter", "trip", "most"] (defScope s_best_split) := ⟨rfl, rfl, rfl, by decide +kernel, rfl, by decide +kernel, by decide +kernel⟩
abbrev N_is_stretch : List Str := ["value"]
theorem sc_is_stretch : FnScope N_is_stretch ["value"] (defScope s_is_stretch) := ⟨rfl, rfl, rfl, by decide +kernel, rfl, by decide +kernel, by decide +kernel⟩
abbrev N_road_counts : List Str := ["meter", "counts", "road", "found", "step", "count", "speed"]
theorem sc_road_counts : FnScope N_road_counts ["meter", "counts", "road"] (defScope s_road_counts) := ⟨rfl, rfl, rfl, by decide +kernel, rfl, by decide +kernel, by decide +kernel⟩
abbrev N_count_waited : List Str := ["meter", "count", "ticks", "tick"]
theorem sc_count_waited : FnScope N_count_waited ["meter", "count", "ticks"] (defScope s_count_waited) := ⟨rfl, rfl, rfl, by decide +kernel, rfl, by decide +kernel, by decide +kernel⟩
abbrev N_Route_init : List Str := ["self", "stretches", "stretch"]
theorem sc_Route_init : FnScope N_Route_init ["self", "stretches"] (defScope s_Route_init) := ⟨rfl, rfl, rfl, by decide +kernel, rfl, by decide +kernel, by decide +kernel⟩
abbrev N_Route_steps : List Str := ["self", "stretch"]
theorem sc_Route_steps : FnScope N_Route_steps ["self"] (defScope s_Route_steps) := ⟨rfl, rfl, rfl, by decide +kernel, rfl, by decide +kernel, by decide +kernel⟩
abbrev N_Route_has : List Str := ["self", "trip", "ticks", "stretch", "tick", "end"]
theorem sc_Route_has : FnScope N_Route_has ["self", "trip"] (defScope s_Route_has) := ⟨rfl, rfl, rfl, by decide +kernel, rfl, by decide +kernel, by decide +kernel⟩
abbrev N_Route_counts_along : List Str := ["self", "meter", "found", "stretch", "later", "count", "ends", "end", "trip", "wait"]
theorem sc_Route_counts_along : FnScope N_Route_counts_along ["self", "meter"] (defScope s_Route_counts_along) := ⟨rfl, rfl, rfl, by decide +kernel, rfl, by decide +kernel, by decide +kernel⟩
abbrev N_Route_prices : List Str := ["self", "meter", "count"]
theorem sc_Route_prices : FnScope N_Route_prices ["self", "meter"] (defScope s_Route_prices) := ⟨rfl, rfl, rfl, by decide +kernel, rfl, by decide +kernel, by decide +kernel⟩
abbrev N_ends_in : List Str := ["trip", "tick", "stretch", "found", "way"]
theorem sc_ends_in : FnScope N_ends_in ["trip", "tick", "stretch"] (defScope s_ends_in) := ⟨rfl, rfl, rfl, by decide +kernel, rfl, by decide +kernel, by decide +kernel⟩
abbrev N_law_bag : List Str := ["_law_script"]
theorem sc_law_bag : FnScope N_law_bag ["_law_script"] (defScope s_law_bag) := ⟨rfl, rfl, rfl, by decide +kernel, rfl, by decide +kernel, by decide +kernel⟩
abbrev N_law_draw : List Str := ["_law_bag_here", "_law_size", "_law_cell", "_law_digit", "_law_mixed"]
theorem sc_law_draw : FnScope N_law_draw ["_law_bag_here", "_law_size"] (defScope s_law_draw) := ⟨rfl, rfl, rfl, by decide +kernel, rfl, by decide +kernel, by decide +kernel⟩
abbrev N_law_pick : List Str := ["_law_bag_here", "_law_items"]
theorem sc_law_pick : FnScope N_law_pick ["_law_bag_here", "_law_items"] (defScope s_law_pick) := ⟨rfl, rfl, rfl, by decide +kernel, rfl, by decide +kernel, by decide +kernel⟩
abbrev N_law_drawn_trip : List Str := ["_law_bag_here", "_law_most", "_law_top", "_law_digits", "_law_trip", "_law_k"]
theorem sc_law_drawn_trip : FnScope N_law_drawn_trip ["_law_bag_here", "_law_most", "_law_top"] (defScope s_law_drawn_trip) := ⟨rfl, rfl, rfl, by decide +kernel, rfl, by decide +kernel, by decide +kernel⟩
abbrev N_law_small_worths : List Str := ["_law_bag_here", "_law_most", "_law_time", "_law_way", "_law_choice", "_law_change", "_law_speed"]
theorem sc_law_small_worths : FnScope N_law_small_worths ["_law_bag_here", "_law_most"] (defScope s_law_small_worths) := ⟨rfl, rfl, rfl, by decide +kernel, rfl, by decide +kernel, by decide +kernel⟩
abbrev N_law_meter : List Str := ["_law_bag_here", "_law_drops", "_law_turns", "_law_tables", "_law_floor_price", "_law_jump_price", "_law_first", "_law_k"]
theorem sc_law_meter : FnScope N_law_meter ["_law_bag_here", "_law_drops"] (defScope s_law_meter) := ⟨rfl, rfl, rfl, by decide +kernel, rfl, by decide +kernel, by decide +kernel⟩
abbrev N_law_made_table : List Str := ["_law_worths", "_law_place", "_law_choice", "_law_way", "_law_speed", "_law_worth"]
theorem sc_law_made_table : FnScope N_law_made_table ["_law_worths", "_law_place"] (defScope s_law_made_table) := ⟨rfl, rfl, rfl, by decide +kernel, rfl, by decide +kernel, by decide +kernel⟩
abbrev N_law_made : List Str := ["_law_plain", "_law_tables", "_law_turns", "_law_place"]
theorem sc_law_made : FnScope N_law_made ["_law_plain"] (defScope s_law_made) := ⟨rfl, rfl, rfl, by decide +kernel, rfl, by decide +kernel, by decide +kernel⟩
abbrev N_law_road_trips : List Str := ["_law_steps", "_law_most", "_law_found", "_law_way", "_law_now", "_law_speed", "_law_trip"]
theorem sc_law_road_trips : FnScope N_law_road_trips ["_law_steps", "_law_most"] (defScope s_law_road_trips) := ⟨rfl, rfl, rfl, by decide +kernel, rfl, by decide +kernel, by decide +kernel⟩
abbrev N_law_route : List Str := ["_law_bag_here", "_law_many", "_law_most_steps", "_law_stretches", "_law_k", "_law_most"]
theorem sc_law_route : FnScope N_law_route ["_law_bag_here", "_law_many", "_law_most_steps"] (defScope s_law_route) := ⟨rfl, rfl, rfl, by decide +kernel, rfl, by decide +kernel, by decide +kernel⟩
abbrev N_law_trips_by_waits : List Str := ["_law_stretches", "_law_found", "_law_stretch", "_law_now", "_law_waits", "_law_trip", "_law_wait", "_law_part"]
theorem sc_law_trips_by_waits : FnScope N_law_trips_by_waits ["_law_stretches"] (defScope s_law_trips_by_waits) := ⟨rfl, rfl, rfl, by decide +kernel, rfl, by decide +kernel, by decide +kernel⟩
abbrev N_law_dearer : List Str := ["_law_bag_here", "_law_plain", "_law_first", "_law_drop", "_law_tables", "_law_turns", "_law_floor_price", "_law_jump_price", "_law_worths", "_law_choice", "_law_speed"]
theorem sc_law_dearer : FnScope N_law_dearer ["_law_bag_here", "_law_plain"] (defScope s_law_dearer) := ⟨rfl, rfl, rfl, by decide +kernel, rfl, by decide +kernel, by decide +kernel⟩
abbrev N_law_routes_right : List Str := ["_law_bag_here", "_law_made_here", "_law_stretches", "_law_route_here", "_law_prices", "_law_longer", "_law_fast", "_law_trip", "_law_meter_here", "_law_waits"]
theorem sc_law_routes_right : FnScope N_law_routes_right ["_law_bag_here", "_law_made_here"] (defScope s_law_routes_right) := ⟨rfl, rfl, rfl, by decide +kernel, rfl, by decide +kernel, by decide +kernel⟩
abbrev N_law_hires_right : List Str := ["_law_bag_here", "_law_made_here", "_law_top", "_law_trip", "_law_ticks", "_law_tick"]
theorem sc_law_hires_right : FnScope N_law_hires_right ["_law_bag_here", "_law_made_here", "_law_top"] (defScope s_law_hires_right) := ⟨rfl, rfl, rfl, by decide +kernel, rfl, by decide +kernel, by decide +kernel⟩
abbrev N_law : List Str := ["_law_script", "_law_bag_here", "_law_whole", "_law_plain", "_law_plains", "_law_made_here", "_law_top", "_law_told", "_law_part", "_law_turn", "_law_trip", "_law_shown", "_law_one_plain", "_law_meter_here", "_law_tick"]
theorem sc_law : FnScope N_law ["_law_script"] (defScope s_law) := ⟨rfl, rfl, rfl, by decide +kernel, rfl, by decide +kernel, by decide +kernel⟩
end Cab
set_option Elab.async false
set_option linter.all false
set_option maxRecDepth 100000
set_option maxHeartbeats 2000000
/-! small rules and the answers to loops that are alike everywhere -/
namespace Cab
open PySem PySem.Spec PyProof.Rows L2
theorem hu64 {A : Around} {k : Nat} (hr : Room k A) : A.units + 64 < cLine := by have := hr.un; omega
theorem hu65 {A : Around} {k : Nat} (hr : Room k A) : A.units + 65 < cLine := by have := hr.un; omega
theorem hu200 {A : Around} {k : Nat} (hr : Room k A) : A.units + 200 < cLine := by have := hr.un; omega
def tSeqG (t u : TS) : TS := fun D σ H => t { D with nx := fun σ' H' => Gh H' (fun H2 => u D σ' H2) } σ H
theorem pss_gcons {X : Cx} {st : Stmt} {rest : List Stmt} {t u : TS} (h1 : PS X st t) (h2 : PSs X rest u) : PSs X (st :: rest) (tSeqG t u) := by
  refine ⟨fun pins s σ H D I h => ?_⟩
  refine wpAny_execs_cons (thn (h1.run pins s σ H { D with nx := fun σ' H' => Gh H' (fun H2 => u D σ' H2) } I h) fun f s1 q => ?_)
  cases f with
  | next =>
    obtain ⟨σ', H', I', q⟩ := q
    obtain ⟨H2, I2, q2⟩ := Gh.run q I'
    exact h2.run pins s1 σ' H2 D I2 q2
  | ret v => exact q
  | brk => exact q
  | cont => exact q
theorem pg_tupK {X : Cx} {K : PySem.W.Frag} {es : List Expr} {k : Nat} {t : TGs} {n : Nat} {pos : Pos} (hc : X.calm = true) (h : PGs X es t)
    (hn : (assignEach es X.env).length = n := by rfl) (hst : (assignEach es X.env).findIdx? (·.1) = none := by rfl) (hK : X.K = K := by rfl) : PG X (.Tuple es k pos) (gTup K n t) := by
  subst hK
  exact pg_tup hc h hn hst
theorem pe_dnK {X : Cx} {P : Program} {w : World} {o i : Expr} {td ty : TE} {pos : Pos} (hu : X.A.units + 64 < cLine) (ho : PE X o td) (hi : PE X i ty) (hs : NoSl i := by intro _ _; rfl) (hP : X.prog = P := by rfl) (hW : X.w = w := by rfl) : PE X (.Subscript o i pos) (tDn P w td ty) := by
  subst hP
  subst hW
  exact pe_dn hu ho hi hs
theorem pi_listK {X : Cx} {K : PySem.W.Frag} {tg l : Expr} {tl : TE} (hl : PE X l tl) (hK : X.K = K := by rfl) : PI X tg l (iList K tl) := by
  subst hK
  exact pi_list hl
abbrev rLenQ (K : PySem.W.Frag) : List V → Hp → VK → Prop := fun xs H Q => ∃ p ys, xs = [.ref p] ∧ (SqL K H p ys ∨ SqT K H p ys) ∧ Q (.int ys.length) H
theorem call_lenK {X : Cx} {K : PySem.W.Frag} (hK : X.K = K := by rfl) : CallR X (.builtin "len") (rLenQ K) := by
  subst hK
  exact call_len_seq
/-! ### comprehensions -/
section
variable {g : TG} {tt : TT} {te : TE} {vs : List Nat} {σ : L2.St} {H1 : Hp} {D : Addr} {J : It} {Qd : Hp → Prop}
/-- what a comprehension's turn leaves: N -/
def TurnC (g : TG) (tt : TT) (te : TE) (vs : List Nat) (σ : L2.St) (D : Addr) (x : V) (N : Hp → Prop) (H' : Hp) : Prop := g x (wipe σ vs) H' fun σ2 H2 => wipe σ2 vs = wipe σ vs ∧ tt σ2 H2 fun b H3 =>
  if b = true then te σ2 H3 fun y H4 => ∃ acc, H4 D = some (.lst acc) ∧ acc.length < sizeLine ∧ N (upd H4 D (.lst (acc ++ [y]))) else N H3
theorem lc_go (n : Nat) (N : Nat → Hp → Prop) (w0 : N 0 (upd H1 D (.lst [])))
    (each : ∀ i H', i < n → N i H' → J.go i H' ∧ ∀ x H'', J.yld i H' x H'' → TurnC g tt te vs σ D x (N (i + 1)) H'')
    (done : ∀ H', N n H' → J.stop n H' ∧ Qd H') :
    ∃ W : Nat → Nat → Hp → Prop, (∃ m, W 0 m (upd H1 D (.lst []))) ∧ ∀ i m H, W i m H →
      (J.stop i H ∧ Qd H) ∨ (J.go i H ∧ ∃ Nx : Hp → Prop, (∀ H', Nx H' → ∃ m', m' < m ∧ W (i + 1) m' H') ∧ ∀ x H', J.yld i H x H' → g x (wipe σ vs) H' fun σ2 H2 => wipe σ2 vs = wipe σ vs ∧ tt σ2 H2 fun b H3 =>
        if b = true then te σ2 H3 fun y H4 => ∃ acc, H4 D = some (.lst acc) ∧ acc.length < sizeLine ∧ Nx (upd H4 D (.lst (acc ++ [y]))) else Nx H3) := by
  refine ⟨fun i m H => m = n - i ∧ i ≤ n ∧ N i H, ⟨n, rfl, Nat.zero_le _, w0⟩, ?_⟩
  rintro i m H ⟨rfl, hi, hW⟩
  by_cases hlt : i < n
  · obtain ⟨g1, g2⟩ := each i H hlt hW
    exact .inr ⟨g1, fun H' => N (i + 1) H', fun H' p => ⟨n - (i + 1), by omega, rfl, hlt, p⟩, g2⟩
  · have e : i = n := by omega
    rw [e] at hW ⊢
    exact .inl (done H hW)
/-- each turn adds one value, of which R tells what stands -/
def CR (D : Addr) (H1 : Hp) (R : Nat → V → Hp → Prop) (i : Nat) (H' : Hp) : Prop := ∃ acc, acc.length = i ∧ Same H1 H' ∧ H' D = some (.lst acc) ∧ H1 D = none ∧ ∀ j y, acc[j]? = some y → R j y H'
theorem CR.zero {R : Nat → V → Hp → Prop} (h : H1 D = none) : CR D H1 R 0 (upd H1 D (.lst [])) := ⟨[], rfl, same_new h, upd_same, h, fun j y z => by simp at z⟩
theorem CR.same {R : Nat → V → Hp → Prop} {i : Nat} {H' : Hp} (c : CR D H1 R i H') : Same H1 H' := c.elim fun _ h => h.2.1
theorem CR.px {R : Nat → V → Hp → Prop} {i : Nat} {H' : Hp} (c : CR D H1 R i H') : Px H1 H' := Px.of _ _ c.same
theorem CR.fin {R : Nat → V → Hp → Prop} (mono : ∀ i y H H', Px H H' → R i y H → R i y H') {i : Nat} {H' H4 : Hp} {y : V} (c : CR D H1 R i H') (hi : i < 100000) (e : Same H' H4) (hy : R i y H4) :
    ∃ acc, H4 D = some (.lst acc) ∧ acc.length < sizeLine ∧ CR D H1 R (i + 1) (upd H4 D (.lst (acc ++ [y]))) := by
  obtain ⟨acc, hl, s, hD, hn, hR⟩ := c
  have h4 := e D _ hD
  refine ⟨acc, h4, Nat.lt_of_lt_of_le (by omega : acc.length < 100000) (by decide), acc ++ [y], by rw [List.length_append, List.length_singleton, hl], same_mut (s.trans e) hn, upd_same, hn, fun j z hz => ?_⟩
  have pm : Px H4 (upd H4 D (.lst (acc ++ [y]))) := Px.mut h4 (fun z => z)
  by_cases hj : j < acc.length
  · rw [List.getElem?_append_left hj] at hz
    exact mono _ _ _ _ ((Px.of _ _ e).trans pm) (hR j z hz)
  · have : j = acc.length := by
      have := (List.getElem?_eq_some_iff.mp hz).1
      rw [List.length_append, List.length_singleton] at this
      omega
    subst this
    rw [List.getElem?_append_right (Nat.le_refl _), Nat.sub_self] at hz
    cases hz
    rw [hl]
    exact mono _ _ _ _ pm hy
theorem lc_rel (n : Nat) (R : Nat → V → Hp → Prop) (hD : H1 D = none)
    (each : ∀ i H', i < n → CR D H1 R i H' → J.go i H' ∧ ∀ x H'', J.yld i H' x H'' → TurnC g tt te vs σ D x (CR D H1 R (i + 1)) H'')
    (done : ∀ acc H', acc.length = n → Same H1 H' → H' D = some (.lst acc) → (∀ j y, acc[j]? = some y → R j y H') → J.stop n H' ∧ Qd H') :
    ∃ W : Nat → Nat → Hp → Prop, (∃ m, W 0 m (upd H1 D (.lst []))) ∧ ∀ i m H, W i m H →
      (J.stop i H ∧ Qd H) ∨ (J.go i H ∧ ∃ Nx : Hp → Prop, (∀ H', Nx H' → ∃ m', m' < m ∧ W (i + 1) m' H') ∧ ∀ x H', J.yld i H x H' → g x (wipe σ vs) H' fun σ2 H2 => wipe σ2 vs = wipe σ vs ∧ tt σ2 H2 fun b H3 =>
        if b = true then te σ2 H3 fun y H4 => ∃ acc, H4 D = some (.lst acc) ∧ acc.length < sizeLine ∧ Nx (upd H4 D (.lst (acc ++ [y]))) else Nx H3) :=
  lc_go n (CR D H1 R) (CR.zero hD) each fun H' ⟨acc, hl, s, h, _, r⟩ => done acc H' hl s h r
/-- the values are known -/
abbrev Rz (zs : List V) : Nat → V → Hp → Prop := fun i y _ => zs[i]? = some y
theorem Rz.mono {zs : List V} : ∀ i y H H', Px H H' → Rz zs i y H → Rz zs i y H' := fun _ _ _ _ _ h => h
theorem eq_of_rz {acc zs : List V} {H : Hp} (hl : acc.length = zs.length) (h : ∀ j y, acc[j]? = some y → Rz zs j y H) : acc = zs := by
  refine List.ext_getElem? fun j => ?_
  by_cases hj : j < acc.length
  · rw [List.getElem?_eq_getElem hj]
    exact (h j _ (List.getElem?_eq_getElem hj)).symm
  · rw [List.getElem?_eq_none (by omega), List.getElem?_eq_none (by omega)]
theorem lc_map (zs : List V) (hD : H1 D = none)
    (each : ∀ i H', i < zs.length → CR D H1 (Rz zs) i H' → J.go i H' ∧ ∀ x H'', J.yld i H' x H'' → TurnC g tt te vs σ D x (CR D H1 (Rz zs) (i + 1)) H'')
    (done : ∀ H', Same H1 H' → H' D = some (.lst zs) → J.stop zs.length H' ∧ Qd H') :
    ∃ W : Nat → Nat → Hp → Prop, (∃ m, W 0 m (upd H1 D (.lst []))) ∧ ∀ i m H, W i m H →
      (J.stop i H ∧ Qd H) ∨ (J.go i H ∧ ∃ Nx : Hp → Prop, (∀ H', Nx H' → ∃ m', m' < m ∧ W (i + 1) m' H') ∧ ∀ x H', J.yld i H x H' → g x (wipe σ vs) H' fun σ2 H2 => wipe σ2 vs = wipe σ vs ∧ tt σ2 H2 fun b H3 =>
        if b = true then te σ2 H3 fun y H4 => ∃ acc, H4 D = some (.lst acc) ∧ acc.length < sizeLine ∧ Nx (upd H4 D (.lst (acc ++ [y]))) else Nx H3) :=
  lc_rel zs.length (Rz zs) hD each fun acc H' hl s h r => by
    rw [eq_of_rz hl r] at h
    exact done H' s h
end
/-! ### over a list, over a range -/
section
variable {K : PySem.W.Frag} {H H' : Hp} {a : Addr} {xs ys : List V}
/-- a list that no step of the callee changes -/
theorem SqL.same (e : Same H H') (h : SqL K H a xs) : SqL K H' a xs := by
  rcases h with (h | ⟨o, h⟩) | h
  · exact .inl (.inl (e _ _ h))
  · exact .inl (.inr ⟨o, e _ _ h⟩)
  · exact .inr h
theorem SqT.same (e : Same H H') (h : SqT K H a xs) : SqT K H' a xs := by
  rcases h with (h | ⟨o, h⟩) | h
  · exact .inl (.inl (e _ _ h))
  · exact .inl (.inr ⟨o, e _ _ h⟩)
  · exact .inr h
theorem SqT.px (e : Px H H') (h : SqT K H a xs) : SqT K H' a xs := by
  rcases h with (h | ⟨o, h⟩) | h
  · exact .inl (.inl (e _ _ h True.intro))
  · exact .inl (.inr ⟨o, e _ _ h True.intro⟩)
  · exact .inr h
theorem sqL_of (h : H a = some (.lst xs)) : SqL K H a xs := .inl (.inl h)
theorem sqL_fz {o : Obj} (h : H a = some (.frz o (.lst xs))) : SqL K H a xs := .inl (.inr ⟨o, h⟩)
theorem sqT_of (h : H a = some (.tup xs)) : SqT K H a xs := .inl (.inl h)
theorem itl_go {i : Nat} (h : SqL K H a xs) (hi : i < xs.length) : (Itl K a).go i H := ⟨xs, xs[i], h, List.getElem?_eq_getElem hi⟩
theorem itt_go {i : Nat} (h : SqT K H a xs) (hi : i < xs.length) : (Itt K a).go i H := ⟨xs, xs[i], h, List.getElem?_eq_getElem hi⟩
end
/-- a list that stands -/
structure Ls (H : Hp) (a : Addr) (xs : List V) : Prop where
  ex : ∃ o, H a = some (.frz o (.lst xs))
theorem Ls.px {H H' : Hp} {a : Addr} {xs : List V} (e : Px H H') (h : Ls H a xs) : Ls H' a xs := ⟨h.ex.elim fun o h => ⟨o, e _ _ h True.intro⟩⟩
theorem Ls.sq {K : PySem.W.Frag} {H : Hp} {a : Addr} {xs : List V} (h : Ls H a xs) : SqL K H a xs := h.ex.elim fun o h => sqL_fz h
theorem Ls.eq {H : Hp} {a : Addr} {xs ys : List V} (h : Ls H a xs) (k : Ls H a ys) : xs = ys := by
  obtain ⟨o, h⟩ := h.ex
  obtain ⟨o', k⟩ := k.ex
  rw [h] at k
  cases k
  rfl
theorem Px.frz {H : Hp} {a : Addr} {u : HO} {o : Obj} (h : H a = some u) (n : ¬ Imm u) : Px H (upd H a (.frz o u)) := Px.mut h n
theorem Ls.mk' {H : Hp} {a : Addr} {xs : List V} {o : Obj} : Ls (upd H a (.frz o (.lst xs))) a xs := ⟨o, upd_same⟩
/-- a loop over a tuple that stands -/
theorem Itt_for {K : PySem.W.Frag} {a : Addr} {xs : List V} {g : TG} {tb : TS} {D : Ends} {σ : L2.St} {H : Hp} (Pv : Nat → L2.St → Hp → Prop) (h0 : Pv 0 σ H) (hl : ∀ i σ H, i ≤ xs.length → Pv i σ H → SqT K H a xs)
    (hs : ∀ i x σ H, xs[i]? = some x → Pv i σ H → g x σ H fun σ2 H2 => tb { D with nx := Pv (i + 1), ct := Pv (i + 1), bk := D.nx } σ2 H2) (hd : ∀ σ H, Pv xs.length σ H → D.nx σ H) :
    ∃ W : Nat → Nat → L2.St → Hp → Prop, (∃ m, W 0 m σ H) ∧ ∀ i m σ H, W i m σ H →
      ((Itt K a).stop i H ∧ D.nx σ H) ∨ ((Itt K a).go i H ∧ ∃ N : L2.St → Hp → Prop, (∀ σ' H', N σ' H' → ∃ m', m' < m ∧ W (i + 1) m' σ' H') ∧ ∀ x H', (Itt K a).yld i H x H' → g x σ H' fun σ2 H2 => tb { D with nx := N, ct := N, bk := D.nx } σ2 H2) := by
  refine ⟨fun i m σ H => m = xs.length - i ∧ i ≤ xs.length ∧ Pv i σ H, ⟨xs.length, by simp, Nat.zero_le _, h0⟩, ?_⟩
  rintro i m σ H ⟨rfl, hi, p⟩
  have q := hl i σ H hi p
  by_cases hlt : i < xs.length
  · refine .inr ⟨⟨xs, xs[i], q, by simp [hlt]⟩, Pv (i + 1), fun σ' H' p' => ⟨xs.length - (i + 1), by omega, rfl, hlt, p'⟩, fun x H' y => ?_⟩
    obtain ⟨rfl, y⟩ := y
    exact hs i x σ _ (y xs q) p
  · have e : i = xs.length := by omega
    rw [e] at p
    exact .inl ⟨⟨xs, q, by omega⟩, hd σ H p⟩
theorem iT {b : Bool} {A B : Prop} (h : b = true) (a : A) : (if b = true then A else B) := by rw [if_pos h]; exact a
theorem iF {b : Bool} {A B : Prop} (h : b = false) (a : B) : (if b = true then A else B) := by rw [h]; exact a
theorem iB {b : Bool} {A B : Prop} (ha : b = true → A) (hb : b = false → B) : (if b = true then A else B) := by cases b with
  | true => exact ha rfl
  | false => exact hb rfl
theorem dT {p : Prop} [Decidable p] (h : p) : decide p = true := decide_eq_true h
theorem dF {p : Prop} [Decidable p] (h : ¬ p) : decide p = false := decide_eq_false h
theorem szl {n : Nat} (h : n ≤ 100000) : n ≤ sizeLine := Nat.le_trans h (by decide)
theorem sz {n : Nat} (h : Nat.ble n 1000 = true := by rfl) : n ≤ sizeLine := Nat.le_trans (Nat.le_of_ble_eq_true h) (by decide)
theorem szL {n : Nat} (h : n < 100000) : n < sizeLine := Nat.lt_of_lt_of_le h (by decide)
theorem allB (n : Nat) : (List.replicate n true).all id = true := by simp
theorem rz_rep {α : Type} {f : α → V} {b : α} {n i : Nat} {H : Hp} (h : i < n) : Rz ((List.replicate n b).map f) i (f b) H := by
  show ((List.replicate n b).map f)[i]? = _
  rw [List.getElem?_map, List.getElem?_replicate, if_pos h]
  rfl
theorem fresh_of {H H' : Hp} {p : Addr} (e : Same H H') (h : H' p = none) : H p = none := by
  cases h1 : H p with
  | none => rfl
  | some o =>
    rw [e p o h1] at h
    cases h
theorem atI_nat {α : Type} {xs : List α} {i : Nat} {v : α} (h : xs[i]? = some v) : atI xs (i : Int) = some v := by
  have hi := (List.getElem?_eq_some_iff.mp h).1
  unfold atI ixN
  rw [if_pos (by omega)]
  have : ((i : Int) < (xs.length : Int)) := by omega
  rw [if_pos this]
  exact h
theorem getD_get {xs : List Int} {i : Nat} (h : i < xs.length) : xs.getD i 0 = xs[i] := by
  rw [List.getD_eq_getElem?_getD, List.getElem?_eq_getElem h]
  rfl
theorem qv_eq {Q : VK} {v v' : V} {H : Hp} (e : v = v') (q : Q v' H) : Q v H := e ▸ q
theorem qv_h {Q : VK} {v : V} {H H' : Hp} (e : H = H') (q : Q v H') : Q v H := e ▸ q
end Cab
set_option Elab.async false
set_option linter.all false
set_option maxRecDepth 100000
set_option maxHeartbeats 2000000
set_option pp.maxSteps 1500
namespace Cab
open PySem PySem.Spec PyProof.Rows L2

local macro_rules | `(tactic| walk_at "w") => `(tactic| repeat (first | refine Gh.now ?_ | refine ⟨_, rfl, ?_⟩ | refine ⟨_, _, rfl, rfl, ?_⟩ | refine ⟨rfl, ?_⟩))
local macro_rules | `(tactic| walk_at "g") => `(tactic| repeat (first | refine ⟨_, _, rfl, rfl, ?_⟩ | refine ⟨_, _, rfl, ?_⟩ | refine ⟨rfl, ?_⟩ | refine Gh.now ?_ | refine ⟨_, rfl, ?_⟩))
local macro_rules | `(tactic| walk_at "len") => `(tactic| first | (intro hh; obtain ⟨e, _⟩ := hh; exact congrArg List.length e) | (intro hh; obtain ⟨_, e, _⟩ := hh; exact congrArg List.length e) | (intro hh; obtain ⟨_, _, e, _⟩ := hh; exact congrArg List.length e) | (intro hh; obtain ⟨_, _, _, e, _⟩ := hh; exact congrArg List.length e) | (intro hh; obtain ⟨_, _, _, _, e, _⟩ := hh; exact congrArg List.length e) | (intro hh; obtain ⟨_, _, _, _, _, e, _⟩ := hh; exact congrArg List.length e) | (intro hh; obtain ⟨_, _, _, _, _, _, e, _⟩ := hh; exact congrArg List.length e) | (intro hh; obtain ⟨_, _, _, _, _, _, _, e, _⟩ := hh; exact congrArg List.length e) | (intro hh; obtain ⟨_, _, _, _, _, _, _, _, e, _⟩ := hh; exact congrArg List.length e) | (intro hh; obtain ⟨_, _, _, _, _, _, _, _, _, e, _⟩ := hh; exact congrArg List.length e) | (intro hh; obtain ⟨_, _, _, _, _, _, _, _, _, _, e, _⟩ := hh; exact congrArg List.length e) | (intro hh; obtain ⟨_, _, _, _, _, _, _, _, _, _, _, e, _⟩ := hh; exact congrArg List.length e) | (intro hh; obtain ⟨_, _, _, _, _, _, _, _, _, _, _, _, e, _⟩ := hh; exact congrArg List.length e))
variable {P : Program} {w : World} {K : PySem.W.Frag} {mg : Str → Option Value} {base : Heap}

def pr_is_whole (P : Program) (w : World) (K : PySem.W.Frag) : Pr := fun vs H Q => ∃ i : Int, vs = [.int i] ∧ Q (.bl true) H
theorem ok_is_whole (T : Wd K mg base) : Fn P w K mg base 1 (He.ga K "is_whole") (pr_is_whole P w K) := by
  obtain ⟨fd, F0⟩ := T.fdef 0 (d := d_is_whole)
  have F : FunD K "is_whole" "is_whole" (defArgs s_is_whole) (defBody s_is_whole) (defScope s_is_whole) [] [] (He.ga K "is_whole") fd := F0
  refine fn_mk (N := N_is_whole) (ps := ["value"]) F sc_is_whole (fun kV doc pm an cdv ct us hl => match us, hl with | [u0], _ => rfl) (fun vs H Q => by walk_at "len") fun cdv A outer s H vs Q E hr h => ?_
  refine ⟨_, (pss_one (ps_ret (pe_gh (pe_and (pe_callB call_isi (by rfl) T.f_isinstance (by decide +kernel) (pa_cons (pv 0) (pa_cons (pe_bltn (v := .ty "int") (u := .type "int") (by rfl) T.f_int (by decide +kernel) rfl) pa_nil))) (pe_one (pe_not (pe_callB call_isi (by rfl) T.f_isinstance (by decide +kernel) (pa_cons (pv 0) (pa_cons (pe_bltn (v := .ty "bool") (u := .type "bool") (by rfl) T.f_bool (by decide +kernel) rfl) pa_nil))))))))), ?_⟩
  obtain ⟨i, rfl, q⟩ := h
  walk_at "w"
  refine ⟨_, _, _, _, _, rfl, .ty _, .base (.int _), rfl, ?_⟩
  walk_at "w"
  refine ⟨_, _, _, _, _, rfl, .ty _, .base (.int _), rfl, ?_⟩
  walk_at "w"
  exact q
def pr_is_between (P : Program) (w : World) (K : PySem.W.Frag) : Pr := fun vs H Q => ∃ i a b : Int, vs = [.int i, .int a, .int b] ∧ a ≤ i ∧ i ≤ b ∧ Q (.bl true) H
theorem ok_is_between (T : Wd K mg base) : Fn P w K mg base 2 (He.ga K "is_between") (pr_is_between P w K) := by
  obtain ⟨fd, F0⟩ := T.fdef 1 (d := d_is_between)
  have F : FunD K "is_between" "is_between" (defArgs s_is_between) (defBody s_is_between) (defScope s_is_between) [] [] (He.ga K "is_between") fd := F0
  refine fn_mk (N := N_is_between) (ps := ["value", "least", "most"]) F sc_is_between (fun kV doc pm an cdv ct us hl => match us, hl with | [u0, u1, u2], _ => rfl) (fun vs H Q => by walk_at "len") fun cdv A outer s H vs Q E hr h => ?_
  refine ⟨_, (pss_one (ps_ret (pe_gh (pe_and (pe_R (ok_is_whole T) (hr.mono (by decide)) T.g_is_whole T.k_is_whole (pa_cons (pv 0) pa_nil)) (pe_one (pe_chain op_le op_le (pv 1) (pv 0) (pv 2))))))), ?_⟩
  obtain ⟨i, a, b, rfl, h1, h2, q⟩ := h
  walk_at "w"
  rw [if_pos (decide_eq_true h1)]
  walk_at "w"
  exact qv_eq (congrArg V.bl (decide_eq_true h2)) q
def pr_is_speed (P : Program) (w : World) (K : PySem.W.Frag) : Pr := fun vs H Q => ∃ i : Int, vs = [.int i] ∧ 0 ≤ i ∧ i ≤ 9 ∧ Q (.bl true) H
theorem ok_is_speed (T : Wd K mg base) : Fn P w K mg base 3 (He.ga K "is_speed") (pr_is_speed P w K) := by
  obtain ⟨fd, F0⟩ := T.fdef 2 (d := d_is_speed)
  have F : FunD K "is_speed" "is_speed" (defArgs s_is_speed) (defBody s_is_speed) (defScope s_is_speed) [] [] (He.ga K "is_speed") fd := F0
  refine fn_mk (N := N_is_speed) (ps := ["value"]) F sc_is_speed (fun kV doc pm an cdv ct us hl => match us, hl with | [u0], _ => rfl) (fun vs H Q => by walk_at "len") fun cdv A outer s H vs Q E hr h => ?_
  refine ⟨_, (pss_one (ps_ret (pe_gh (pe_R (ok_is_between T) (hr.mono (by decide)) T.g_is_between T.k_is_between (pa_cons (pv 0) (pa_cons pe_int (pa_cons (C8.pe_gc rfl T.c_GREATEST_SPEED_trips) pa_nil))))))), ?_⟩
  obtain ⟨i, rfl, h1, h2, q⟩ := h
  walk_at "w"
  exact ⟨_, _, _, rfl, h1, h2, .now q⟩
def pr_check_number (P : Program) (w : World) (K : PySem.W.Frag) : Pr := fun vs H Q => ∃ i a b : Int, vs = [.int i, .int a, .int b] ∧ a ≤ i ∧ i ≤ b ∧ Q .non H
theorem ok_check_number (T : Wd K mg base) : Fn P w K mg base 3 (He.ga K "check_number") (pr_check_number P w K) := by
  obtain ⟨fd, F0⟩ := T.fdef 8 (d := d_check_number)
  have F : FunD K "check_number" "check_number" (defArgs s_check_number) (defBody s_check_number) (defScope s_check_number) [] [] (He.ga K "check_number") fd := F0
  refine fn_mk (N := N_check_number) (ps := ["value", "least", "most"]) F sc_check_number (fun kV doc pm an cdv ct us hl => match us, hl with | [u0, u1, u2], _ => rfl) (fun vs H Q => by walk_at "len") fun cdv A outer s H vs Q E hr h => ?_
  refine ⟨_, (pss_one (ps_if (pt_not (pt_val (pe_R (ok_is_between T) (hr.mono (by decide)) T.g_is_between T.k_is_between (pa_cons (pv 0) (pa_cons (pv 1) (pa_cons (pv 2) pa_nil)))))) (pss_one ps_never) pss_nil)), ?_⟩
  obtain ⟨i, a, b, rfl, h1, h2, q⟩ := h
  walk_at "w"
  refine ⟨_, _, _, rfl, h1, h2, ?_⟩
  walk_at "w"
  exact q
def pr_check_top (P : Program) (w : World) (K : PySem.W.Frag) : Pr := fun vs H Q => ∃ i : Int, vs = [.int i] ∧ 0 ≤ i ∧ i ≤ 9 ∧ Q .non H
theorem ok_check_top (T : Wd K mg base) : Fn P w K mg base 3 (He.ga K "check_top") (pr_check_top P w K) := by
  obtain ⟨fd, F0⟩ := T.fdef 9 (d := d_check_top)
  have F : FunD K "check_top" "check_top" (defArgs s_check_top) (defBody s_check_top) (defScope s_check_top) [] [] (He.ga K "check_top") fd := F0
  refine fn_mk (N := N_check_top) (ps := ["top"]) F sc_check_top (fun kV doc pm an cdv ct us hl => match us, hl with | [u0], _ => rfl) (fun vs H Q => by walk_at "len") fun cdv A outer s H vs Q E hr h => ?_
  refine ⟨_, (pss_one (ps_if (pt_not (pt_val (pe_R (ok_is_between T) (hr.mono (by decide)) T.g_is_between T.k_is_between (pa_cons (pv 0) (pa_cons pe_int (pa_cons (pe_op op_sub (C8.pe_gc rfl T.c_SPEEDS) pe_int) pa_nil)))))) (pss_one ps_never) pss_nil)), ?_⟩
  obtain ⟨i, rfl, h1, h2, q⟩ := h
  walk_at "w"
  refine ⟨_, _, _, rfl, h1, h2, ?_⟩
  walk_at "w"
  exact q
def pr_check_numbers (P : Program) (w : World) (K : PySem.W.Frag) : Pr := fun vs H Q => ∃ a b : Int, vs = [.int a, .int b] ∧ 0 ≤ a ∧ 0 ≤ b ∧ ∀ H', Same H H' → Q .non H'
theorem ok_check_numbers (T : Wd K mg base) : Fn P w K mg base 2 (He.ga K "check_numbers") (pr_check_numbers P w K) := by
  obtain ⟨fd, F0⟩ := T.fdef 7 (d := d_check_numbers)
  have F : FunD K "check_numbers" "check_numbers" (defArgs s_check_numbers) (defBody s_check_numbers) (defScope s_check_numbers) [] [] (He.ga K "check_numbers") fd := F0
  refine fn_mk (N := N_check_numbers) (ps := ["time", "way"]) F sc_check_numbers (fun kV doc pm an cdv ct us hl => match us, hl with | [u0, u1], _ => rfl) (fun vs H Q => by walk_at "len") fun cdv A outer s H vs Q E hr h => ?_
  refine ⟨_, (pss_one (ps_for PassesOwn.never rfl (pi_tup (pe_tup (pa_cons (pv 0) (pa_cons (pv 1) pa_nil)))) (pg_name (i := 2) sc_check_numbers.nd rfl (Or.inl rfl)) (pss_one (ps_if (PW.pt (pw_or (pt_not (pt_val (pe_R (ok_is_whole T) (hr.mono (by decide)) T.g_is_whole T.k_is_whole (pa_cons (pv 2) pa_nil)))) (pw_or1 (pt_cmpR op_lt (pv 2) pe_int (nomark _))))) (pss_one ps_never) pss_nil)))), ?_⟩
  obtain ⟨a, b, rfl, h1, h2, q⟩ := h
  walk_at "w"
  refine ⟨sz, fun p hp => ?_⟩
  refine ⟨_, rfl, ⟨_, sqT_of upd_same⟩, ?_⟩
  refine Itt_for (xs := [.int a, .int b]) (fun i σ H' => Same (upd H p (.tup [.int a, .int b])) H' ∧ ∃ v, σ = [some (.int a), some (.int b), v]) ?_ ?_ ?_ ?_
  · exact ⟨Same.refl _, _, rfl⟩
  · exact fun i σ H' _ c => sqT_of (c.1 p _ upd_same)
  · rintro i x σ H' hx ⟨e, v, rfl⟩
    have hx2 : ∃ j : Int, x = .int j ∧ 0 ≤ j := by
      match i, hx with
      | 0, hx => cases hx; exact ⟨_, rfl, h1⟩
      | 1, hx => cases hx; exact ⟨_, rfl, h2⟩
    obtain ⟨j, rfl, hj⟩ := hx2
    walk_at "w"
    refine iF (dF (by omega)) ?_
    exact ⟨e, _, rfl⟩
  · rintro σ H' ⟨e, _⟩
    exact q H' ((same_new hp).trans e)
/-- the text of digits -/
def Dig (z : Str) : Prop := z.length ≤ 2000 ∧ ∀ c ∈ z.cps.toList, c ∈ ("0123456789" : Str).cps.toList
def pr_is_trip (P : Program) (w : World) (K : PySem.W.Frag) : Pr := fun vs H Q => ∃ z : Str, vs = [.str z] ∧ Dig z ∧ ∀ H', Same H H' → Q (.bl true) H'
theorem ok_is_trip (T : Wd K mg base) : Fn P w K mg base 1 (He.ga K "is_trip") (pr_is_trip P w K) := by
  obtain ⟨fd, F0⟩ := T.fdef 3 (d := d_is_trip)
  have F : FunD K "is_trip" "is_trip" (defArgs s_is_trip) (defBody s_is_trip) (defScope s_is_trip) [] [] (He.ga K "is_trip") fd := F0
  refine fn_mk (N := N_is_trip) (ps := ["value"]) F sc_is_trip (fun kV doc pm an cdv ct us hl => match us, hl with | [u0], _ => rfl) (fun vs H Q => by walk_at "len") fun cdv A outer s H vs Q E hr h => ?_
  refine ⟨_, (pss_cons (ps_if (PW.pt (pw_or (pt_not (pt_val (pe_callB call_isi (by rfl) T.f_isinstance (by decide +kernel) (pa_cons (pv 0) (pa_cons (pe_bltn (v := .ty "str") (u := .type "str") (by rfl) T.f_str (by decide +kernel) rfl) pa_nil))))) (pw_or1 (pt_cmpR op_gt (pe_callB call_len_str (by rfl) T.f_len (by decide +kernel) (pa_cons (pv 0) pa_nil)) (C8.pe_gc rfl T.c_MOST_TICKS) (nomark _))))) (pss_one (ps_ret (pe_gh pe_bl))) pss_nil) (pss_one (ps_ret (pe_gh (pe_callB (cr_all rfl) (by rfl) T.f_all (by decide +kernel) (pa_cons (pe_lc (own := [("digit", 1)]) rfl sc_is_trip.nd (pi_str (pv 0)) (blkOk_by (own := [("digit", 1)]) (N := N_is_trip) (sc := defScope s_is_trip) (by decide +kernel)) (fun _ _ _ _ _ => (pg_name (i := 1) sc_is_trip.nd rfl (Or.inl rfl))) (fun _ _ _ _ _ => pts_nil) (fun _ _ _ _ _ => (pe_cmpR op_in_sign (pv 1) (C8.pe_gc rfl T.c_DIGITS) (by rfl)))) pa_nil)))))), ?_⟩
  obtain ⟨z, rfl, hz, q⟩ := h
  walk_at "w"
  refine ⟨_, _, _, _, _, rfl, .ty _, .base (.str _), rfl, ?_⟩
  walk_at "w"
  refine ⟨Nat.le_trans hz.1 (by decide), ?_⟩
  walk_at "w"
  refine iF (dF (by have := hz.1; omega)) ?_
  walk_at "w"
  intro D hD
  refine lc_map ((List.replicate z.cps.size true).map V.bl) hD (fun i H' hi c => ?_) fun H' e hl => ⟨by simp [Its], ?_⟩
  · have hi' : i < z.cps.size := by simpa using hi
    have hz1 : z.cps.size ≤ 2000 := hz.1
    refine ⟨hi', fun x H'' hx => ?_⟩
    obtain ⟨rfl, c', hc, rfl⟩ := hx
    refine ⟨rfl, ?_⟩
    walk_at "w"
    refine CR.fin Rz.mono c (by omega) (Same.refl _) ?_
    rw [dT (hz.2 c' (Array.mem_toList_iff.mpr (Array.mem_of_getElem? hc)))]
    exact rz_rep hi'
  · walk_at "w"
    refine ⟨_, _, rfl, sqL_of hl, .now ?_⟩
    exact qv_eq (congrArg V.bl (allB _)) (q _ e)
def pr_check_trip (P : Program) (w : World) (K : PySem.W.Frag) : Pr := fun vs H Q => ∃ z : Str, vs = [.str z] ∧ Dig z ∧ ∀ H', Same H H' → Q .non H'
theorem ok_check_trip (T : Wd K mg base) : Fn P w K mg base 2 (He.ga K "check_trip") (pr_check_trip P w K) := by
  obtain ⟨fd, F0⟩ := T.fdef 4 (d := d_check_trip)
  have F : FunD K "check_trip" "check_trip" (defArgs s_check_trip) (defBody s_check_trip) (defScope s_check_trip) [] [] (He.ga K "check_trip") fd := F0
  refine fn_mk (N := N_check_trip) (ps := ["trip"]) F sc_check_trip (fun kV doc pm an cdv ct us hl => match us, hl with | [u0], _ => rfl) (fun vs H Q => by walk_at "len") fun cdv A outer s H vs Q E hr h => ?_
  refine ⟨_, (pss_one (ps_if (pt_not (pt_val (pe_R (ok_is_trip T) (hr.mono (by decide)) T.g_is_trip T.k_is_trip (pa_cons (pv 0) pa_nil)))) (pss_one ps_never) pss_nil)), ?_⟩
  obtain ⟨z, rfl, hz, q⟩ := h
  walk_at "w"
  refine ⟨hz, fun H' e => ?_⟩
  walk_at "w"
  exact q _ e
def pr_are_worths (P : Program) (w : World) (K : PySem.W.Frag) : Pr := fun vs H Q => ∃ (a : Addr) (ns : List Int), vs = [.ref a] ∧ H a = some (.lst (ns.map V.int)) ∧ ns.length = 10 ∧ (∀ n ∈ ns, 0 ≤ n ∧ n ≤ 60) ∧ ∀ H', Same H H' → Q (.bl true) H'
theorem ok_are_worths (T : Wd K mg base) : Fn P w K mg base 3 (He.ga K "are_worths") (pr_are_worths P w K) := by
  obtain ⟨fd, F0⟩ := T.fdef 6 (d := d_are_worths)
  have F : FunD K "are_worths" "are_worths" (defArgs s_are_worths) (defBody s_are_worths) (defScope s_are_worths) [] [] (He.ga K "are_worths") fd := F0
  refine fn_mk (N := N_are_worths) (ps := ["value"]) F sc_are_worths (fun kV doc pm an cdv ct us hl => match us, hl with | [u0], _ => rfl) (fun vs H Q => by walk_at "len") fun cdv A outer s H vs Q E hr h => ?_
  refine ⟨_, (pss_cons (ps_if (PW.pt (pw_or (pt_not (pt_val (pe_callB call_isi (by rfl) T.f_isinstance (by decide +kernel) (pa_cons (pv 0) (pa_cons (pe_bltn (v := .ty "list") (u := .type "list") (by rfl) T.f_list (by decide +kernel) rfl) pa_nil))))) (pw_or1 (pt_cmpR op_ne (pe_callB (call_lenK (K := K)) (by rfl) T.f_len (by decide +kernel) (pa_cons (pv 0) pa_nil)) (pe_op op_add (C8.pe_gc rfl T.c_GREATEST_SPEED_trips) pe_int) (nomark _))))) (pss_one (ps_ret (pe_gh pe_bl))) pss_nil) (pss_one (ps_ret (pe_gh (pe_callB (cr_all rfl) (by rfl) T.f_all (by decide +kernel) (pa_cons (pe_lc (own := [("item", 1)]) rfl sc_are_worths.nd (pi_listK (K := K) (pv 0)) (blkOk_by (own := [("item", 1)]) (N := N_are_worths) (sc := defScope s_are_worths) (by decide +kernel)) (fun _ _ _ _ _ => (pg_name (i := 1) sc_are_worths.nd rfl (Or.inl rfl))) (fun _ _ _ _ _ => pts_nil) (fun _ _ _ _ _ => (pe_R (ok_is_between T) (hr.mono (by decide)) T.g_is_between T.k_is_between (pa_cons (pv 1) (pa_cons pe_int (pa_cons (C8.pe_gc rfl T.c_GREATEST_WORTH) pa_nil)))))) pa_nil)))))), ?_⟩
  obtain ⟨a, ns, rfl, ha, hl, hn, q⟩ := h
  walk_at "w"
  refine ⟨_, _, _, _, _, rfl, .ty _, .base (.lst ha), rfl, ?_⟩
  walk_at "w"
  refine ⟨_, _, rfl, .inl (sqL_of ha), ?_⟩
  walk_at "w"
  refine iF (by simp [hl]) ?_
  walk_at "w"
  refine ⟨⟨_, sqL_of ha⟩, fun D hD => ?_⟩
  refine lc_map ((List.replicate 10 true).map V.bl) hD (fun i H' hi c => ?_) fun H' e hq => ⟨⟨_, sqL_of (e _ _ ha), by simp [hl]⟩, ?_⟩
  · have hi' : i < (ns.map V.int).length := by simpa [hl] using hi
    refine ⟨itl_go (sqL_of (c.same _ _ ha)) hi', fun x H'' hx => ?_⟩
    obtain ⟨rfl, hx⟩ := hx
    have hx := hx _ (sqL_of (c.same _ _ ha))
    obtain ⟨n, hn1, rfl⟩ := List.mem_map.mp (List.mem_of_getElem? hx)
    refine ⟨rfl, ?_⟩
    walk_at "w"
    refine ⟨_, _, _, rfl, (hn n hn1).1, (hn n hn1).2, ?_⟩
    have h10 : i < 10 := by simpa using hi
    refine CR.fin Rz.mono c (by omega) (Same.refl _) ?_
    exact rz_rep h10
  · walk_at "w"
    refine ⟨_, _, rfl, sqL_of hq, .now ?_⟩
    exact q _ e
/-- no turns: one table -/
def pr_are_turns (P : Program) (w : World) (K : PySem.W.Frag) : Pr := fun vs H Q => ∃ (a : Addr), vs = [.ref a, .int 0] ∧ H a = some (.lst []) ∧ ∀ H', Same H H' → Q (.bl true) H'
theorem ok_are_turns (T : Wd K mg base) : Fn P w K mg base 3 (He.ga K "are_turns") (pr_are_turns P w K) := by
  obtain ⟨fd, F0⟩ := T.fdef 10 (d := d_are_turns)
  have F : FunD K "are_turns" "are_turns" (defArgs s_are_turns) (defBody s_are_turns) (defScope s_are_turns) [] [] (He.ga K "are_turns") fd := F0
  refine fn_mk (N := N_are_turns) (ps := ["turns", "many"]) F sc_are_turns (fun kV doc pm an cdv ct us hl => match us, hl with | [u0, u1], _ => rfl) (fun vs H Q => by walk_at "len") fun cdv A outer s H vs Q E hr h => ?_
  refine ⟨_, (pss_cons (ps_if (PW.pt (pw_or (pt_not (pt_val (pe_callB call_isiT (by rfl) T.f_isinstance (by decide +kernel) (pa_cons (pv 0) (pa_cons (pe_tup (pa_cons (pe_bltn (v := .ty "list") (u := .type "list") (by rfl) T.f_list (by decide +kernel) rfl) (pa_cons (pe_bltn (v := .ty "tuple") (u := .type "tuple") (by rfl) T.f_tuple (by decide +kernel) rfl) pa_nil))) pa_nil))))) (pw_or1 (pt_cmpR op_ne (pe_callB (call_lenK (K := K)) (by rfl) T.f_len (by decide +kernel) (pa_cons (pv 0) pa_nil)) (pv 1) (nomark _))))) (pss_one (ps_ret (pe_gh pe_bl))) pss_nil) (pss_cons (ps_if (pt_not (pt_val (pe_callB (cr_all rfl) (by rfl) T.f_all (by decide +kernel) (pa_cons (pe_lc (own := [("turn", 3)]) rfl sc_are_turns.nd (pi_listK (K := K) (pv 0)) (blkOk_by (own := [("turn", 3)]) (N := N_are_turns) (sc := defScope s_are_turns) (by decide +kernel)) (fun _ _ _ _ _ => (pg_name (i := 3) sc_are_turns.nd rfl (Or.inl rfl))) (fun _ _ _ _ _ => pts_nil) (fun _ _ _ _ _ => (pe_R (ok_is_between T) (hr.mono (by decide)) T.g_is_between T.k_is_between (pa_cons (pv 3) (pa_cons pe_int (pa_cons (C8.pe_gc rfl T.c_GREATEST_TURN) pa_nil)))))) pa_nil)))) (pss_one (ps_ret (pe_gh pe_bl))) pss_nil) (pss_one (ps_ret (pe_gh (pe_callB (cr_all rfl) (by rfl) T.f_all (by decide +kernel) (pa_cons (pe_lc (own := [("place", 2)]) rfl sc_are_turns.nd (pi_range1 rfl T.f_range (pa_cons (pe_op op_sub (pv 1) pe_int) pa_nil)) (blkOk_by (own := [("place", 2)]) (N := N_are_turns) (sc := defScope s_are_turns) (by decide +kernel)) (fun _ _ _ _ _ => (pg_name (i := 2) sc_are_turns.nd rfl (Or.inl rfl))) (fun _ _ _ _ _ => pts_nil) (fun _ _ _ _ _ => (pe_cmpR op_lt (pe_ix (ix_list : IxR _ (rIxL K)) (pv 0) (pv 2) (fun _ _ => rfl)) (pe_ix (ix_list : IxR _ (rIxL K)) (pv 0) (pe_op op_add (pv 2) pe_int) (fun _ _ => rfl)) (nomark _)))) pa_nil))))))), ?_⟩
  obtain ⟨a, rfl, ha, q⟩ := h
  walk_at "w"
  refine ⟨sz, fun p hp => ?_⟩
  have hap : a ≠ p := fun z => by rw [← z, ha] at hp; cases hp
  have ha1 : upd H p (.tup [.ty "list", .ty "tuple"]) a = some (.lst []) := by rw [upd_ne hap]; exact ha
  have e1 : Same H (upd H p (.tup [.ty "list", .ty "tuple"])) := same_new hp
  walk_at "w"
  refine ⟨_, _, _, _, _, _, rfl, upd_same, .cons (.ty _) (.cons (.ty _) .nil), .base (.lst ha1), rfl, ?_⟩
  walk_at "w"
  refine ⟨_, _, rfl, .inl (sqL_of ha1), ?_⟩
  walk_at "w"
  refine ⟨⟨_, sqL_of ha1⟩, fun D hD => ?_⟩
  refine lc_map [] hD (fun i H' hi c => by simp at hi) fun H2 e2 hl => ⟨⟨_, sqL_of (e2 _ _ ha1), Nat.le_refl _⟩, ?_⟩
  walk_at "w"
  refine ⟨_, [], rfl, sqL_of hl, ?_⟩
  walk_at "w"
  refine ⟨by decide, by decide, fun D2 hD2 => ?_⟩
  refine lc_map [] hD2 (fun i H' hi c => by simp at hi) fun H3 e3 hl3 => ⟨Nat.zero_le _, ?_⟩
  walk_at "w"
  refine ⟨_, [], rfl, sqL_of hl3, .now ?_⟩
  exact q _ ((e1.trans e2).trans e3)
def pr_is_plain0 (P : Program) (w : World) (K : PySem.W.Frag) : Pr := fun vs H Q => ∃ i : Int, vs = [.int i] ∧ Q (.bl true) H
theorem ok_is_plain0 (T : Wd K mg base) : Fn P w K mg base 2 (He.ga K "is_plain") (pr_is_plain0 P w K) := by
  obtain ⟨fd, F0⟩ := T.fdef 11 (d := d_is_plain)
  have F : FunD K "is_plain" "is_plain" (defArgs s_is_plain) (defBody s_is_plain) (defScope s_is_plain) [] [] (He.ga K "is_plain") fd := F0
  refine fn_mk (N := N_is_plain) (ps := ["value"]) F sc_is_plain (fun kV doc pm an cdv ct us hl => match us, hl with | [u0], _ => rfl) (fun vs H Q => by walk_at "len") fun cdv A outer s H vs Q E hr h => ?_
  refine ⟨_, (pss_cons (ps_if (pt_val (pe_callB call_isi (by rfl) T.f_isinstance (by decide +kernel) (pa_cons (pv 0) (pa_cons (pe_bltn (v := .ty "tuple") (u := .type "tuple") (by rfl) T.f_tuple (by decide +kernel) rfl) pa_nil)))) pss_never pss_nil) (pss_one (ps_ret (pe_gh (pe_R (ok_is_whole T) (hr.mono (by decide)) T.g_is_whole T.k_is_whole (pa_cons (pv 0) pa_nil)))))), ?_⟩
  obtain ⟨i, rfl, q⟩ := h
  walk_at "w"
  refine ⟨_, _, _, _, _, rfl, .ty _, .base (.int _), rfl, ?_⟩
  walk_at "w"
  exact q
/-- a tuple of ints -/
def pr_is_plain (P : Program) (w : World) (K : PySem.W.Frag) : Pr := fun vs H Q => ∃ (a : Addr) (ns : List Int), vs = [.ref a] ∧ H a = some (.tup (ns.map V.int)) ∧ ns.length < 1000 ∧ ∀ H', Same H H' → Q (.bl true) H'
theorem ok_is_plain (T : Wd K mg base) : Fn P w K mg base 3 (He.ga K "is_plain") (pr_is_plain P w K) := by
  obtain ⟨fd, F0⟩ := T.fdef 11 (d := d_is_plain)
  have F : FunD K "is_plain" "is_plain" (defArgs s_is_plain) (defBody s_is_plain) (defScope s_is_plain) [] [] (He.ga K "is_plain") fd := F0
  refine fn_mk (N := N_is_plain) (ps := ["value"]) F sc_is_plain (fun kV doc pm an cdv ct us hl => match us, hl with | [u0], _ => rfl) (fun vs H Q => by walk_at "len") fun cdv A outer s H vs Q E hr h => ?_
  refine ⟨_, (pss_cons (ps_if (pt_val (pe_callB call_isi (by rfl) T.f_isinstance (by decide +kernel) (pa_cons (pv 0) (pa_cons (pe_bltn (v := .ty "tuple") (u := .type "tuple") (by rfl) T.f_tuple (by decide +kernel) rfl) pa_nil)))) (pss_one (ps_ret (pe_gh (pe_callB (cr_all rfl) (by rfl) T.f_all (by decide +kernel) (pa_cons (pe_lc (own := [("item", 1)]) rfl sc_is_plain.nd (pi_tup (pv 0)) (blkOk_by (own := [("item", 1)]) (N := N_is_plain) (sc := defScope s_is_plain) (by decide +kernel)) (fun _ _ _ _ _ => (pg_name (i := 1) sc_is_plain.nd rfl (Or.inl rfl))) (fun _ _ _ _ _ => pts_nil) (fun _ _ _ _ _ => (pe_R (ok_is_plain0 T) (hr.mono (by decide)) T.g_is_plain T.k_is_plain (pa_cons (pv 1) pa_nil)))) pa_nil))))) pss_nil) pss_never), ?_⟩
  obtain ⟨a, ns, rfl, ha, hl, q⟩ := h
  walk_at "w"
  refine ⟨_, _, _, _, _, rfl, .ty _, .base (.tup ha), rfl, ?_⟩
  walk_at "w"
  refine ⟨⟨_, sqT_of ha⟩, fun D hD => ?_⟩
  refine lc_map ((List.replicate ns.length true).map V.bl) hD (fun i H' hi c => ?_) fun H' e hq => ⟨⟨_, sqT_of (e _ _ ha), by simp⟩, ?_⟩
  · have hi' : i < (ns.map V.int).length := by simpa using hi
    refine ⟨itt_go (sqT_of (c.same _ _ ha)) hi', fun x H'' hx => ?_⟩
    obtain ⟨rfl, hx⟩ := hx
    have hx := hx _ (sqT_of (c.same _ _ ha))
    obtain ⟨n, hn1, rfl⟩ := List.mem_map.mp (List.mem_of_getElem? hx)
    refine ⟨rfl, ?_⟩
    walk_at "w"
    have h10 : i < ns.length := by simpa using hi
    exact CR.fin Rz.mono c (by omega) (Same.refl _) (rz_rep h10)
  · walk_at "w"
    refine ⟨_, _, rfl, sqL_of hq, .now ?_⟩
    exact qv_eq (congrArg V.bl (allB _)) (q _ e)
end Cab
set_option Elab.async false
set_option linter.all false
set_option maxRecDepth 100000
set_option maxHeartbeats 2000000
set_option pp.maxSteps 1500
namespace Cab
open PySem PySem.Spec PyProof.Rows L2

local macro_rules | `(tactic| walk_at "w") => `(tactic| repeat (first | refine Gh.now ?_ | refine ⟨_, rfl, ?_⟩ | refine ⟨_, _, rfl, rfl, ?_⟩ | refine ⟨rfl, ?_⟩))
local macro_rules | `(tactic| walk_at "g") => `(tactic| repeat (first | refine ⟨_, _, rfl, rfl, ?_⟩ | refine ⟨_, _, rfl, ?_⟩ | refine ⟨rfl, ?_⟩ | refine Gh.now ?_ | refine ⟨_, rfl, ?_⟩))
local macro_rules | `(tactic| walk_at "len") => `(tactic| first | (intro hh; obtain ⟨e, _⟩ := hh; exact congrArg List.length e) | (intro hh; obtain ⟨_, e, _⟩ := hh; exact congrArg List.length e) | (intro hh; obtain ⟨_, _, e, _⟩ := hh; exact congrArg List.length e) | (intro hh; obtain ⟨_, _, _, e, _⟩ := hh; exact congrArg List.length e) | (intro hh; obtain ⟨_, _, _, _, e, _⟩ := hh; exact congrArg List.length e) | (intro hh; obtain ⟨_, _, _, _, _, e, _⟩ := hh; exact congrArg List.length e) | (intro hh; obtain ⟨_, _, _, _, _, _, e, _⟩ := hh; exact congrArg List.length e) | (intro hh; obtain ⟨_, _, _, _, _, _, _, e, _⟩ := hh; exact congrArg List.length e) | (intro hh; obtain ⟨_, _, _, _, _, _, _, _, e, _⟩ := hh; exact congrArg List.length e) | (intro hh; obtain ⟨_, _, _, _, _, _, _, _, _, e, _⟩ := hh; exact congrArg List.length e) | (intro hh; obtain ⟨_, _, _, _, _, _, _, _, _, _, e, _⟩ := hh; exact congrArg List.length e) | (intro hh; obtain ⟨_, _, _, _, _, _, _, _, _, _, _, e, _⟩ := hh; exact congrArg List.length e) | (intro hh; obtain ⟨_, _, _, _, _, _, _, _, _, _, _, _, e, _⟩ := hh; exact congrArg List.length e))
variable {P : Program} {w : World} {K : PySem.W.Frag} {mg : Str → Option Value} {base : Heap}

/-- a table with the worths ns -/
def TabAt (K : PySem.W.Frag) (H : Hp) (t : Addr) (ns : List Int) : Prop := (∃ dx r, H t = some (.ins (He.ga K "Table") dx [("row", .ref r)]) ∧ H r = some (.tup (ns.map V.int))) ∧ ns.length = 10 ∧ ∀ n ∈ ns, 0 ≤ n ∧ n ≤ 60
theorem TabAt.px {K : PySem.W.Frag} {H H' : Hp} {t : Addr} {ns : List Int} (e : Px H H') (h : TabAt K H t ns) : TabAt K H' t ns :=
  ⟨h.1.elim fun dx h => h.elim fun r h => ⟨dx, r, e _ _ h.1 True.intro, e _ _ h.2 True.intro⟩, h.2⟩
def pr_Table_init (P : Program) (w : World) (K : PySem.W.Frag) : Pr := fun vs H Q => ∃ (x a dx : Addr) (ns : List Int), vs = [.ref x, .ref a] ∧ H x = some (.ins (He.ga K "Table") dx []) ∧ H a = some (.lst (ns.map V.int)) ∧ ns.length = 10 ∧ (∀ n ∈ ns, 0 ≤ n ∧ n ≤ 60) ∧
  ∀ r H', H r = none → (∀ b o, b ≠ x → H b = some o → H' b = some o) → H' x = some (.ins (He.ga K "Table") dx [("row", .ref r)]) → H' r = some (.tup (ns.map V.int)) → Q .non H'
theorem ok_Table_init (T : Wd K mg base) : Fn P w K mg base 4 (He.ma K (He.ga K "Table") "__init__") (pr_Table_init P w K) := by
  obtain ⟨fd, F0⟩ := T.fdef 47 (d := d_Table_init)
  have F : FunD K "__init__" "Table.__init__" (defArgs s_Table_init) (defBody s_Table_init) (defScope s_Table_init) [] [] (He.ma K (He.ga K "Table") "__init__") fd := F0
  refine fn_mk (N := N_Table_init) (ps := ["self", "worths"]) F sc_Table_init (fun kV doc pm an cdv ct us hl => match us, hl with | [u0, u1], _ => rfl) (fun vs H Q => by walk_at "len") fun cdv A outer s H vs Q E hr h => ?_
  refine ⟨_, (pss_cons (ps_if (pt_not (pt_val (pe_R (ok_are_worths T) (hr.mono (by decide)) T.g_are_worths T.k_are_worths (pa_cons (pv 1) pa_nil)))) (pss_one ps_never) pss_nil) (pss_one (ps_fld (pv 0) (pe_callTy call_tuple_of (by rfl) T.f_tuple (by decide +kernel) (pa_cons (pv 1) pa_nil)) rfl))), ?_⟩
  obtain ⟨x, a, dx, ns, rfl, hx, ha, hl, hn, q⟩ := h
  walk_at "w"
  refine ⟨_, _, rfl, ha, hl, hn, fun H' e => ?_⟩
  walk_at "w"
  refine ⟨_, _, rfl, .inl ⟨sqL_of (e _ _ ha), fun r hr2 => ?_⟩⟩
  have hxr : x ≠ r := fun z => by rw [← z, e _ _ hx] at hr2; cases hr2
  refine ⟨_, rfl, _, _, _, _, rfl, by rw [upd_ne hxr]; exact e _ _ hx, T.cls_Table, T.n_Table_row, by decide, ?_⟩
  refine q r _ (fresh_of e hr2) (fun b o hb h => ?_) upd_same ?_
  · rw [upd_ne hb]
    exact same_new hr2 _ _ (e _ _ h)
  · rw [upd_ne hxr.symm]
    exact upd_same
def pr_Table_getitem (P : Program) (w : World) (K : PySem.W.Frag) : Pr := fun vs H Q => ∃ (x : Addr) (i : Nat) (ns : List Int), vs = [.ref x, .int i] ∧ i < 10 ∧ TabAt K H x ns ∧ Q (.int (ns.getD i 0)) H
theorem ok_Table_getitem (T : Wd K mg base) : Fn P w K mg base 4 (He.ma K (He.ga K "Table") "__getitem__") (pr_Table_getitem P w K) := by
  obtain ⟨fd, F0⟩ := T.fdef 52 (d := d_Table_getitem)
  have F : FunD K "__getitem__" "Table.__getitem__" (defArgs s_Table_getitem) (defBody s_Table_getitem) (defScope s_Table_getitem) [] [] (He.ma K (He.ga K "Table") "__getitem__") fd := F0
  refine fn_mk (N := N_Table_getitem) (ps := ["self", "speed"]) F sc_Table_getitem (fun kV doc pm an cdv ct us hl => match us, hl with | [u0, u1], _ => rfl) (fun vs H Q => by walk_at "len") fun cdv A outer s H vs Q E hr h => ?_
  refine ⟨_, (pss_cons (ps_if (pt_not (pt_val (pe_R (ok_is_speed T) (hr.mono (by decide)) T.g_is_speed T.k_is_speed (pa_cons (pv 1) pa_nil)))) (pss_one ps_never) pss_nil) (pss_one (ps_ret (pe_gh (pe_ix (ix_tup : IxR _ (rIxT K)) (pe_fld (pv 0) rfl) (pv 1) (fun _ _ => rfl)))))), ?_⟩
  obtain ⟨x, i, ns, rfl, hi, ⟨⟨dx, r, hx, hr2⟩, hl, hn⟩, q⟩ := h
  walk_at "w"
  refine ⟨by omega, by omega, ?_⟩
  walk_at "w"
  refine ⟨_, _, _, _, _, rfl, hx, T.cls_Table, T.n_Table_row, rfl, ?_⟩
  walk_at "w"
  refine ⟨_, _, _, _, rfl, rfl, sqT_of hr2, atI_nat (by rw [List.getElem?_map, List.getElem?_eq_getElem (by omega)]; rfl), .now ?_⟩
  exact qv_eq (congrArg V.int (getD_get (by omega)).symm) q
def pr_new_table (wl : Int → Int → List Int) (P : Program) (w : World) (K : PySem.W.Frag) : Pr := fun vs H Q => ∃ (t v : Int), vs = [.ref (He.ga K "Table"), .int t, .int v] ∧ 0 ≤ t ∧ 0 ≤ v ∧ t < 1000 ∧ v < 1000 ∧ (∀ n ∈ wl t v, 0 ≤ n ∧ n ≤ 60) ∧
  ∀ x H', H x = none → Same H H' → TabAt K H' x (wl t v) → Q (.ref x) H'
def wEither (t v : Int) : List Int := (List.range 10).map fun s : Nat => if v * (s : Int) > t then v * (s : Int) else t
def wBoth (t v : Int) : List Int := (List.range 10).map fun s : Nat => t + v * (s : Int)
theorem mk_tab {H2 : Hp} {D : Addr} {wl : List Int} {Q : VK} (hD : H2 D = some (.lst (wl.map V.int))) (hl : wl.length = 10) (hb : ∀ n ∈ wl, 0 ≤ n ∧ n ≤ 60) (k : ∀ x H', H2 x = none → Same H2 H' → TabAt K H' x wl → Q (.ref x) H') :
    ∀ x dx, H2 x = none → H2 dx = none → dx ≠ x → pr_Table_init P w K (.ref x :: [.ref D]) (upd (upd H2 dx (.own x)) x (.ins (He.ga K "Table") dx [])) (fun v H3 => v = .non ∧ Q (.ref x) H3) := by
  intro x dx hx hdx hne
  have hDx : D ≠ x := fun z => by rw [z, hx] at hD; cases hD
  have hDd : D ≠ dx := fun z => by rw [z, hdx] at hD; cases hD
  refine ⟨x, D, dx, wl, rfl, upd_same, by rw [upd_ne hDx, upd_ne hDd]; exact hD, hl, hb, fun r H' hr2 e h1 h2 => ⟨rfl, k x H' hx (fun b o h => ?_) ⟨⟨dx, r, h1, h2⟩, hl, hb⟩⟩⟩
  have hbx : b ≠ x := fun z => by rw [z, hx] at h; cases h
  have hbd : b ≠ dx := fun z => by rw [z, hdx] at h; cases h
  exact e b o hbx (by rw [upd_ne hbx, upd_ne hbd]; exact h)
theorem ok_Table_either (T : Wd K mg base) : Fn P w K mg base 6 (He5.wf K (He.ga K "Table") "classmethod" "either") (pr_new_table wEither P w K) := by
  obtain ⟨fd, F0⟩ := T.fdef 48 (d := d_Table_either)
  have F : FunD K "either" "Table.either" (defArgs s_Table_either) (defBody s_Table_either) (defScope s_Table_either) [] [] (He5.wf K (He.ga K "Table") "classmethod" "either") fd := F0
  refine fn_mk (N := N_Table_either) (ps := ["cls", "time", "way"]) F sc_Table_either (fun kV doc pm an cdv ct us hl => match us, hl with | [u0, u1, u2], _ => rfl) (fun vs H Q => by walk_at "len") fun cdv A outer s H vs Q E hr h => ?_
  refine ⟨_, (pss_cons (ps_expr (pe_R (ok_check_numbers T) (hr.mono (by decide)) T.g_check_numbers T.k_check_numbers (pa_cons (pv 1) (pa_cons (pv 2) pa_nil)))) (pss_one (ps_ret (pe_gh (pe_MkV (i := 0) (ok_Table_init T) (hr.mono (by decide)) T.mk_Table (pa_cons (pe_lc (own := [("speed", 3)]) rfl sc_Table_either.nd (pi_range1 rfl T.f_range (pa_cons (pe_op op_add (C8.pe_gc rfl T.c_GREATEST_SPEED_trips) pe_int) pa_nil)) (blkOk_by (own := [("speed", 3)]) (N := N_Table_either) (sc := defScope s_Table_either) (by decide +kernel)) (fun _ _ _ _ _ => (pg_name (i := 3) sc_Table_either.nd rfl (Or.inl rfl))) (fun _ _ _ _ _ => pts_nil) (fun _ _ _ _ _ => (pe_callB (call_max2 rfl) (by rfl) T.f_max (by decide +kernel) (pa_cons (pv 1) (pa_cons (pe_op op_mul (pv 2) (pv 3)) pa_nil))))) pa_nil) rfl (by first | exact Or.inl rfl | exact Or.inr (Or.inl rfl))))))), ?_⟩
  obtain ⟨t, v, rfl, ht, hv, ht2, hv2, hb, q⟩ := h
  walk_at "w"
  refine ⟨_, _, rfl, ht, hv, fun H1 e1 => ?_⟩
  walk_at "w"
  refine ⟨by decide, by decide, fun D hD => ?_⟩
  refine lc_map ((wEither t v).map V.int) hD (fun i H' hi c => ?_) fun H2 e2 hl => ⟨by simp [Itr, wEither], ?_⟩
  · have hi' : i < 10 := by simpa [wEither] using hi
    refine ⟨hi', fun x H'' hx => ?_⟩
    obtain ⟨rfl, rfl⟩ := hx
    rw [Int.zero_add]
    refine ⟨rfl, ?_⟩
    walk_at "w"
    refine ⟨.inl (by omega), ?_⟩
    refine ⟨_, _, rfl, ?_⟩
    refine CR.fin Rz.mono c (by omega) (Same.refl _) ?_
    simp [Rz, wEither, hi']
  · walk_at "w"
    exact fun x dx hx hdx hne => mk_tab (Q := fun v H => Gh H (Q v)) hl (by simp [wEither]) hb (fun x H' hx e ht => .now (q x H' (fresh_of (e1.trans e2) hx) ((e1.trans e2).trans e) ht)) x dx hx hdx hne
theorem ok_Table_both (T : Wd K mg base) : Fn P w K mg base 6 (He5.wf K (He.ga K "Table") "classmethod" "both") (pr_new_table wBoth P w K) := by
  obtain ⟨fd, F0⟩ := T.fdef 49 (d := d_Table_both)
  have F : FunD K "both" "Table.both" (defArgs s_Table_both) (defBody s_Table_both) (defScope s_Table_both) [] [] (He5.wf K (He.ga K "Table") "classmethod" "both") fd := F0
  refine fn_mk (N := N_Table_both) (ps := ["cls", "time", "way"]) F sc_Table_both (fun kV doc pm an cdv ct us hl => match us, hl with | [u0, u1, u2], _ => rfl) (fun vs H Q => by walk_at "len") fun cdv A outer s H vs Q E hr h => ?_
  refine ⟨_, (pss_cons (ps_expr (pe_R (ok_check_numbers T) (hr.mono (by decide)) T.g_check_numbers T.k_check_numbers (pa_cons (pv 1) (pa_cons (pv 2) pa_nil)))) (pss_one (ps_ret (pe_gh (pe_MkV (i := 0) (ok_Table_init T) (hr.mono (by decide)) T.mk_Table (pa_cons (pe_lc (own := [("speed", 3)]) rfl sc_Table_both.nd (pi_range1 rfl T.f_range (pa_cons (pe_op op_add (C8.pe_gc rfl T.c_GREATEST_SPEED_trips) pe_int) pa_nil)) (blkOk_by (own := [("speed", 3)]) (N := N_Table_both) (sc := defScope s_Table_both) (by decide +kernel)) (fun _ _ _ _ _ => (pg_name (i := 3) sc_Table_both.nd rfl (Or.inl rfl))) (fun _ _ _ _ _ => pts_nil) (fun _ _ _ _ _ => (pe_op op_add (pv 1) (pe_op op_mul (pv 2) (pv 3))))) pa_nil) rfl (by first | exact Or.inl rfl | exact Or.inr (Or.inl rfl))))))), ?_⟩
  obtain ⟨t, v, rfl, ht, hv, ht2, hv2, hb, q⟩ := h
  walk_at "w"
  refine ⟨_, _, rfl, ht, hv, fun H1 e1 => ?_⟩
  walk_at "w"
  refine ⟨by decide, by decide, fun D hD => ?_⟩
  refine lc_map ((wBoth t v).map V.int) hD (fun i H' hi c => ?_) fun H2 e2 hl => ⟨by simp [Itr, wBoth], ?_⟩
  · have hi' : i < 10 := by simpa [wBoth] using hi
    refine ⟨hi', fun x H'' hx => ?_⟩
    obtain ⟨rfl, rfl⟩ := hx
    rw [Int.zero_add]
    refine ⟨rfl, ?_⟩
    walk_at "w"
    refine ⟨.inl (by omega), ?_⟩
    walk_at "w"
    refine CR.fin Rz.mono c (by omega) (Same.refl _) ?_
    simp [Rz, wBoth, hi']
  · walk_at "w"
    exact fun x dx hx hdx hne => mk_tab (Q := fun v H => Gh H (Q v)) hl (by simp [wBoth]) hb (fun x H' hx e ht => .now (q x H' (fresh_of (e1.trans e2) hx) ((e1.trans e2).trans e) ht)) x dx hx hdx hne
def wChanging (t v s : Int) : List Int := (List.range 10).map fun i : Nat => if (i : Int) < s then t else v * (i : Int)
def pr_Table_changing (P : Program) (w : World) (K : PySem.W.Frag) : Pr := fun vs H Q => ∃ (t v s : Int), vs = [.ref (He.ga K "Table"), .int t, .int v, .int s] ∧ 0 ≤ t ∧ 0 ≤ v ∧ t < 1000 ∧ v < 1000 ∧ 0 ≤ s ∧ s ≤ 9 ∧ (∀ n ∈ wChanging t v s, 0 ≤ n ∧ n ≤ 60) ∧
  ∀ x H', H x = none → Same H H' → TabAt K H' x (wChanging t v s) → Q (.ref x) H'
theorem ok_Table_changing (T : Wd K mg base) : Fn P w K mg base 6 (He5.wf K (He.ga K "Table") "classmethod" "changing") (pr_Table_changing P w K) := by
  obtain ⟨fd, F0⟩ := T.fdef 50 (d := d_Table_changing)
  have F : FunD K "changing" "Table.changing" (defArgs s_Table_changing) (defBody s_Table_changing) (defScope s_Table_changing) [] [] (He5.wf K (He.ga K "Table") "classmethod" "changing") fd := F0
  refine fn_mk (N := N_Table_changing) (ps := ["cls", "time", "way", "speed"]) F sc_Table_changing (fun kV doc pm an cdv ct us hl => match us, hl with | [u0, u1, u2, u3], _ => rfl) (fun vs H Q => by walk_at "len") fun cdv A outer s H vs Q E hr h => ?_
  refine ⟨_, (pss_cons (ps_expr (pe_R (ok_check_numbers T) (hr.mono (by decide)) T.g_check_numbers T.k_check_numbers (pa_cons (pv 1) (pa_cons (pv 2) pa_nil)))) (pss_cons (ps_if (pt_not (pt_val (pe_R (ok_is_speed T) (hr.mono (by decide)) T.g_is_speed T.k_is_speed (pa_cons (pv 3) pa_nil)))) (pss_one ps_never) pss_nil) (pss_one (ps_ret (pe_gh (pe_MkV (i := 0) (ok_Table_init T) (hr.mono (by decide)) T.mk_Table (pa_cons (pe_lc (own := [("own", 4)]) rfl sc_Table_changing.nd (pi_range1 rfl T.f_range (pa_cons (pe_op op_add (C8.pe_gc rfl T.c_GREATEST_SPEED_trips) pe_int) pa_nil)) (blkOk_by (own := [("own", 4)]) (N := N_Table_changing) (sc := defScope s_Table_changing) (by decide +kernel)) (fun _ _ _ _ _ => (pg_name (i := 4) sc_Table_changing.nd rfl (Or.inl rfl))) (fun _ _ _ _ _ => pts_nil) (fun _ _ _ _ _ => (pe_ifExp (pt_cmpR op_lt (pv 4) (pv 3) (nomark _)) (pv 1) (pe_op op_mul (pv 2) (pv 4))))) pa_nil) rfl (by first | exact Or.inl rfl | exact Or.inr (Or.inl rfl)))))))), ?_⟩
  obtain ⟨t, v, s', rfl, ht, hv, ht2, hv2, hs1, hs2, hb, q⟩ := h
  walk_at "w"
  refine ⟨_, _, rfl, ht, hv, fun H1 e1 => ?_⟩
  walk_at "w"
  refine ⟨hs1, hs2, ?_⟩
  walk_at "w"
  refine ⟨by decide, by decide, fun D hD => ?_⟩
  refine lc_map ((wChanging t v s').map V.int) hD (fun i H' hi c => ?_) fun H2 e2 hl => ⟨by simp [Itr, wChanging], ?_⟩
  · have hi' : i < 10 := by simpa [wChanging] using hi
    refine ⟨hi', fun x H'' hx => ?_⟩
    obtain ⟨rfl, rfl⟩ := hx
    rw [Int.zero_add]
    refine ⟨rfl, ?_⟩
    walk_at "w"
    refine iB (fun hd => ?_) fun hd => ?_
    · walk_at "w"
      refine CR.fin Rz.mono c (by omega) (Same.refl _) ?_
      simp [Rz, wChanging, hi', of_decide_eq_true hd]
    · walk_at "w"
      refine ⟨.inl (by omega), ?_⟩
      refine CR.fin Rz.mono c (by omega) (Same.refl _) ?_
      simp [Rz, wChanging, hi', of_decide_eq_false hd]
  · walk_at "w"
    exact fun x dx hx hdx hne => mk_tab (Q := fun v H => Gh H (Q v)) hl (by simp [wChanging]) hb (fun x H' hx e ht => .now (q x H' (fresh_of (e1.trans e2) hx) ((e1.trans e2).trans e) ht)) x dx hx hdx hne
end Cab
set_option Elab.async false
set_option linter.all false
set_option maxRecDepth 100000
set_option maxHeartbeats 2000000
set_option pp.maxSteps 1500
namespace Cab
open PySem PySem.Spec PyProof.Rows L2

local macro_rules | `(tactic| walk_at "w") => `(tactic| repeat (first | refine Gh.now ?_ | refine ⟨_, rfl, ?_⟩ | refine ⟨_, _, rfl, rfl, ?_⟩ | refine ⟨rfl, ?_⟩))
local macro_rules | `(tactic| walk_at "g") => `(tactic| repeat (first | refine ⟨_, _, rfl, rfl, ?_⟩ | refine ⟨_, _, rfl, ?_⟩ | refine ⟨rfl, ?_⟩ | refine Gh.now ?_ | refine ⟨_, rfl, ?_⟩))
local macro_rules | `(tactic| walk_at "len") => `(tactic| first | (intro hh; obtain ⟨e, _⟩ := hh; exact congrArg List.length e) | (intro hh; obtain ⟨_, e, _⟩ := hh; exact congrArg List.length e) | (intro hh; obtain ⟨_, _, e, _⟩ := hh; exact congrArg List.length e) | (intro hh; obtain ⟨_, _, _, e, _⟩ := hh; exact congrArg List.length e) | (intro hh; obtain ⟨_, _, _, _, e, _⟩ := hh; exact congrArg List.length e) | (intro hh; obtain ⟨_, _, _, _, _, e, _⟩ := hh; exact congrArg List.length e) | (intro hh; obtain ⟨_, _, _, _, _, _, e, _⟩ := hh; exact congrArg List.length e) | (intro hh; obtain ⟨_, _, _, _, _, _, _, e, _⟩ := hh; exact congrArg List.length e) | (intro hh; obtain ⟨_, _, _, _, _, _, _, _, e, _⟩ := hh; exact congrArg List.length e) | (intro hh; obtain ⟨_, _, _, _, _, _, _, _, _, e, _⟩ := hh; exact congrArg List.length e) | (intro hh; obtain ⟨_, _, _, _, _, _, _, _, _, _, e, _⟩ := hh; exact congrArg List.length e) | (intro hh; obtain ⟨_, _, _, _, _, _, _, _, _, _, _, e, _⟩ := hh; exact congrArg List.length e) | (intro hh; obtain ⟨_, _, _, _, _, _, _, _, _, _, _, _, e, _⟩ := hh; exact congrArg List.length e))
variable {P : Program} {w : World} {K : PySem.W.Frag} {mg : Str → Option Value} {base : Heap}

abbrev txt (n : Nat) : Str := Str.ofString (toString (n : Int))
theorem txt_ok (n : Nat) (h : n ≤ 60) : (txt n).length ≤ 2 ∧ 1 ≤ (txt n).length ∧ ((txt n).cps.toList.all fun c => decide (c ∈ ("0123456789" : Str).cps.toList)) = true ∧ (decide (n = 0) || ((txt n).cps.toList[0]? != some 48 && decide (PySem.intText? (txt n) = some (n : Int)))) = true ∧ ((txt n).cps.toList.all fun c => c != 32) = true ∧ (decide (n = 0) || decide (txt n ≠ "0")) = true := by
  have e : ∀ m : Fin 61, (txt m.1).length ≤ 2 ∧ 1 ≤ (txt m.1).length ∧ ((txt m.1).cps.toList.all fun c => decide (c ∈ ("0123456789" : Str).cps.toList)) = true ∧ (decide (m.1 = 0) || ((txt m.1).cps.toList[0]? != some 48 && decide (PySem.intText? (txt m.1) = some (m.1 : Int)))) = true ∧ ((txt m.1).cps.toList.all fun c => c != 32) = true ∧ (decide (m.1 = 0) || decide (txt m.1 ≠ "0")) = true := by decide +kernel
  exact e ⟨n, by omega⟩
def pr_number_in (P : Program) (w : World) (K : PySem.W.Frag) : Pr := fun vs H Q => ∃ n : Nat, vs = [.str (txt n), .int 60] ∧ 1 ≤ n ∧ n ≤ 60 ∧ ∀ H', Same H H' → Q (.int n) H'
theorem ok_number_in (T : Wd K mg base) : Fn P w K mg base 1 (He.ga K "number_in_trips") (pr_number_in P w K) := by
  obtain ⟨fd, F0⟩ := T.fdef 5 (d := d_number_in)
  have F : FunD K "number_in" "number_in" (defArgs s_number_in) (defBody s_number_in) (defScope s_number_in) [] [] (He.ga K "number_in_trips") fd := F0
  refine fn_mk (N := N_number_in) (ps := ["word", "most"]) F sc_number_in (fun kV doc pm an cdv ct us hl => match us, hl with | [u0, u1], _ => rfl) (fun vs H Q => by walk_at "len") fun cdv A outer s H vs Q E hr h => ?_
  refine ⟨_, (pss_cons (ps_if (PW.pt (pw_or (pt_not (pt_chain op_le op_le pe_int (pe_callB call_len_str (by rfl) T.f_len (by decide +kernel) (pa_cons (pv 0) pa_nil)) (pe_callB call_len_str (by rfl) T.f_len (by decide +kernel) (pa_cons (pe_callTy call_str_int (by rfl) T.f_str (by decide +kernel) (pa_cons (pv 1) pa_nil)) pa_nil)))) (pw_or (pt_not (pt_val (pe_callB (cr_all rfl) (by rfl) T.f_all (by decide +kernel) (pa_cons (pe_lc (own := [("sign", 2)]) rfl sc_number_in.nd (pi_str (pv 0)) (blkOk_by (own := [("sign", 2)]) (N := N_number_in) (sc := defScope s_number_in) (by decide +kernel)) (fun _ _ _ _ _ => (pg_name (i := 2) sc_number_in.nd rfl (Or.inl rfl))) (fun _ _ _ _ _ => pts_nil) (fun _ _ _ _ _ => (pe_cmpR op_in_sign (pv 2) (C8.pe_gc rfl T.c_DIGITS) (by rfl)))) pa_nil)))) (pw_or1 (pt_cmpR op_eq (pe_ix ix_str (pv 0) pe_int (fun _ _ => rfl)) pe_str (nomark _)))))) (pss_one (ps_ret (pe_gh pe_int))) pss_nil) (pss_one (ps_ret (pe_gh (pe_ifExp (pt_cmpR op_le (pe_callTy call_int_str (by rfl) T.f_int (by decide +kernel) (pa_cons (pv 0) pa_nil)) (pv 1) (nomark _)) (pe_callTy call_int_str (by rfl) T.f_int (by decide +kernel) (pa_cons (pv 0) pa_nil)) pe_int))))), ?_⟩
  obtain ⟨n, rfl, h1, h2, q⟩ := h
  obtain ⟨t1, t2, t3, t4, t5, t6⟩ := txt_ok n h2
  walk_at "w"
  refine ⟨szl (by omega), ?_⟩
  walk_at "w"
  refine iT (dT (by omega)) ?_
  walk_at "w"
  refine ⟨by decide, ?_⟩
  walk_at "w"
  refine ⟨szl (by decide +kernel), ?_⟩
  walk_at "w"
  have e60 : (Str.ofString (toString (60 : Int))).length = 2 := by decide +kernel
  have el : decide (((txt n).length : Int) ≤ ((Str.ofString (toString (60 : Int))).length : Int)) = true := dT (by rw [e60]; omega)
  rw [el]
  refine iF rfl ?_
  walk_at "w"
  intro D hD
  refine lc_map ((List.replicate (txt n).cps.size true).map V.bl) hD (fun i H' hi c => ?_) fun H' e hl => ⟨by simp [Its], ?_⟩
  · have hi' : i < (txt n).cps.size := by simpa using hi
    have hz1 : (txt n).cps.size ≤ 2 := t1
    refine ⟨hi', fun x H'' hx => ?_⟩
    obtain ⟨rfl, c', hc, rfl⟩ := hx
    refine ⟨rfl, ?_⟩
    walk_at "w"
    refine CR.fin Rz.mono c (by omega) (Same.refl _) ?_
    rw [show decide (c' ∈ ("0123456789" : Str).cps.toList) = true from List.all_eq_true.mp t3 c' (Array.mem_toList_iff.mpr (Array.mem_of_getElem? hc))]
    exact rz_rep hi'
  walk_at "w"
  refine ⟨_, _, rfl, sqL_of hl, ?_⟩
  walk_at "w"
  rw [allB]
  refine iF rfl ?_
  walk_at "w"
  have t4' : (txt n).cps.toList[0]? ≠ some 48 ∧ PySem.intText? (txt n) = some (n : Int) := by
    have h0 : decide (n = 0) = false := dF (by omega)
    rw [h0] at t4
    simpa using t4
  obtain ⟨d, hd⟩ : ∃ d, (txt n).cps.toList[0]? = some d := by
    have : 0 < (txt n).cps.toList.length := by rw [Array.length_toList]; exact t2
    exact ⟨_, List.getElem?_eq_getElem this⟩
  refine ⟨_, _, d, rfl, rfl, szl (by omega), atI_nat (i := 0) hd, ?_⟩
  walk_at "w"
  have hne : decide (V.str ⟨#[d]⟩ = V.str "0") = false := dF fun z => by
    have : d = 48 := by
      have z2 : (⟨#[d]⟩ : Str) = ("0" : Str) := by cases z; rfl
      have z3 := congrArg (fun s : Str => s.cps.toList) z2
      have z4 : [d] = [48] := z3
      cases z4
      rfl
    exact t4'.1 (by rw [hd, this])
  rw [hne]
  refine iF rfl ?_
  walk_at "w"
  refine ⟨_, _, rfl, t4'.2, by omega, ?_⟩
  walk_at "w"
  refine iT (dT (by omega)) ?_
  walk_at "w"
  exact ⟨_, _, rfl, t4'.2, by omega, .now (q _ e)⟩
end Cab
set_option Elab.async false
set_option linter.all false
set_option maxRecDepth 100000
set_option maxHeartbeats 2000000
set_option pp.maxSteps 1500
namespace Cab
open PySem PySem.Spec PyProof.Rows L2

local macro_rules | `(tactic| walk_at "w") => `(tactic| repeat (first | refine Gh.now ?_ | refine ⟨_, rfl, ?_⟩ | refine ⟨_, _, rfl, rfl, ?_⟩ | refine ⟨rfl, ?_⟩))
local macro_rules | `(tactic| walk_at "g") => `(tactic| repeat (first | refine ⟨_, _, rfl, rfl, ?_⟩ | refine ⟨_, _, rfl, ?_⟩ | refine ⟨rfl, ?_⟩ | refine Gh.now ?_ | refine ⟨_, rfl, ?_⟩))
local macro_rules | `(tactic| walk_at "len") => `(tactic| first | (intro hh; obtain ⟨e, _⟩ := hh; exact congrArg List.length e) | (intro hh; obtain ⟨_, e, _⟩ := hh; exact congrArg List.length e) | (intro hh; obtain ⟨_, _, e, _⟩ := hh; exact congrArg List.length e) | (intro hh; obtain ⟨_, _, _, e, _⟩ := hh; exact congrArg List.length e) | (intro hh; obtain ⟨_, _, _, _, e, _⟩ := hh; exact congrArg List.length e) | (intro hh; obtain ⟨_, _, _, _, _, e, _⟩ := hh; exact congrArg List.length e) | (intro hh; obtain ⟨_, _, _, _, _, _, e, _⟩ := hh; exact congrArg List.length e) | (intro hh; obtain ⟨_, _, _, _, _, _, _, e, _⟩ := hh; exact congrArg List.length e) | (intro hh; obtain ⟨_, _, _, _, _, _, _, _, e, _⟩ := hh; exact congrArg List.length e) | (intro hh; obtain ⟨_, _, _, _, _, _, _, _, _, e, _⟩ := hh; exact congrArg List.length e) | (intro hh; obtain ⟨_, _, _, _, _, _, _, _, _, _, e, _⟩ := hh; exact congrArg List.length e) | (intro hh; obtain ⟨_, _, _, _, _, _, _, _, _, _, _, e, _⟩ := hh; exact congrArg List.length e) | (intro hh; obtain ⟨_, _, _, _, _, _, _, _, _, _, _, _, e, _⟩ := hh; exact congrArg List.length e))
variable {P : Program} {w : World} {K : PySem.W.Frag} {mg : Str → Option Value} {base : Heap}

theorem dpAll_ints {K : PySem.W.Frag} {H : Hp} : ∀ ns : List Int, DpAll K H (ns.map V.int) (ns.map PyData.int)
  | [] => .nil
  | n :: r => .cons (.int n) (dpAll_ints r)
theorem dpAll_strs {K : PySem.W.Frag} {H : Hp} : ∀ zs : List Str, DpAll K H (zs.map V.str) (zs.map PyData.str)
  | [] => .nil
  | z :: r => .cons (.str z) (dpAll_strs r)
theorem canLayAll0_strs : ∀ zs : List Str, (∀ z ∈ zs, PyData.strOk z = true) → PyData.canLayAll0 (zs.map PyData.str) = true
  | [], _ => by simp [PyData.canLayAll0]
  | n :: r, h => by
    have h1 := h n List.mem_cons_self
    have h2 := canLayAll0_strs r fun z hz => h z (List.mem_cons_of_mem _ hz)
    simp [PyData.canLayAll0, PyData.canLay0, h1, h2]
theorem depthAll_strs : ∀ zs : List Str, PyData.depthAll (zs.map PyData.str) ≤ 1
  | [] => by simp [PyData.depthAll]
  | n :: r => by
    have := depthAll_strs r
    simp only [List.map_cons, PyData.depthAll, PyData.depth]
    omega
theorem shaped_strs (zs : List Str) (h : ∀ z ∈ zs, PyData.strOk z = true) : SeqAt.shaped (.list (zs.map PyData.str)) = true := by
  have h1 := depthAll_strs zs
  have h2 : PyData.depth (.list (zs.map PyData.str)) ≤ 64 := by simp only [PyData.depth]; omega
  show (PyData.canLay0 (.list (zs.map PyData.str)) && decide (PyData.depth (.list (zs.map PyData.str)) ≤ 64)) = true
  rw [Bool.and_eq_true]
  exact ⟨by simp only [PyData.canLay0]; exact canLayAll0_strs zs h, decide_eq_true h2⟩
theorem eqv_strs (zs : List Str) (h : ∀ z ∈ zs, PyData.strOk z = true) : PyData.eqv (.list (zs.map PyData.str)) (.list (zs.map PyData.str)) = true := by
  refine SeqAt.eqv_refl _ ?_
  simp only [PyData.canLay0]
  exact canLayAll0_strs zs h
theorem sum_two : ∀ ns : List Nat, (∀ n ∈ ns, n ≤ 60) → ((ns.map txt).map (·.length)).sum ≤ 2 * ns.length
  | [], _ => Nat.le_refl _
  | n :: r, h => by
    have h1 := (txt_ok n (h n List.mem_cons_self)).1
    have h2 := sum_two r fun m hm => h m (List.mem_cons_of_mem _ hm)
    simp only [List.map_cons, List.sum_cons, List.length_cons]
    omega
theorem split_nums (ns : List Nat) (h : ∀ n ∈ ns, n ≤ 60) (hne : ns ≠ []) : Txt.split (Txt.join " " (ns.map txt)) " " = ns.map txt := by
  refine TL.split_join (s := 32) (S := []) (by decide +kernel) (by decide +kernel) (by simpa using hne) fun p hp => ?_
  obtain ⟨n, hn, rfl⟩ := List.mem_map.mp hp
  have := List.all_eq_true.mp (txt_ok n (h n hn)).2.2.2.2.1
  intro z
  have := this 32 z
  simp at this
theorem join_len (ns : List Nat) (h : ∀ n ∈ ns, n ≤ 60) (hl : ns.length = 10) : (Txt.join " " (ns.map txt)).length ≤ 30 := by
  have e : Txt.join " " (ns.map txt) = Str.join " " (ns.map txt) := TL.join_eq _ _
  rw [e]
  have h1 := StrLaws.join_length_le " " (ns.map txt)
  have h2 := sum_two ns h
  have h3 : (" " : Str).length = 1 := by decide
  rw [List.length_map, h3] at h1
  omega
def pr_Table_read (P : Program) (w : World) (K : PySem.W.Frag) : Pr := fun vs H Q => ∃ ns : List Nat, vs = [.ref (He.ga K "Table"), .str (Txt.join " " (ns.map txt))] ∧ ns.length = 10 ∧ (∀ n ∈ ns, n ≤ 60) ∧
  ∀ x H', H x = none → Same H H' → TabAt K H' x (ns.map Int.ofNat) → Q (.ref x) H'
theorem ok_Table_read (T : Wd K mg base) : Fn P w K mg base 6 (He5.wf K (He.ga K "Table") "classmethod" "read") (pr_Table_read P w K) := by
  obtain ⟨fd, F0⟩ := T.fdef 51 (d := d_Table_read)
  have F : FunD K "read" "Table.read" (defArgs s_Table_read) (defBody s_Table_read) (defScope s_Table_read) [] [] (He5.wf K (He.ga K "Table") "classmethod" "read") fd := F0
  refine fn_mk (N := N_Table_read) (ps := ["cls", "text"]) F sc_Table_read (fun kV doc pm an cdv ct us hl => match us, hl with | [u0, u1], _ => rfl) (fun vs H Q => by walk_at "len") fun cdv A outer s H vs Q E hr h => ?_
  refine ⟨_, (pss_cons (ps_if (pt_not (pt_val (pe_callB call_isi (by rfl) T.f_isinstance (by decide +kernel) (pa_cons (pv 1) (pa_cons (pe_bltn (v := .ty "str") (u := .type "str") (by rfl) T.f_str (by decide +kernel) rfl) pa_nil))))) (pss_one ps_never) pss_nil) (pss_gcons (ps_set (i := 2) sc_Table_read.nd rfl (Or.inl rfl) (pe_split (pv 1) pe_str)) (pss_gcons (ps_setLc (i := 3) (own := [("word", 4)]) rfl sc_Table_read.nd rfl rfl (sw_true rfl rfl rfl (by decide +kernel)) (pi_listK (K := K) (pv 2)) (blkOk_by (own := [("word", 4)]) (N := N_Table_read) (sc := defScope s_Table_read) (by decide +kernel)) (fun _ _ _ _ _ => (pg_name (i := 4) sc_Table_read.nd rfl (Or.inl rfl))) (fun _ _ _ _ _ => pts_nil) (fun _ _ _ _ _ => (pe_ifExp (pt_cmpR op_eq (pv 4) pe_str (nomark _)) pe_int (pe_R (ok_number_in T) (hr.mono (by decide)) T.g_number_in_trips T.k_number_in (pa_cons (pv 4) (pa_cons (C8.pe_gc rfl T.c_GREATEST_WORTH) pa_nil)))))) (pss_cons (ps_if (PW.pt (pw_or (pt_cmpR (op_neD (hu64 hr)) (pe_lc (own := [("worth", 5)]) rfl sc_Table_read.nd (pi_listK (K := K) (pv 3)) (blkOk_by (own := [("worth", 5)]) (N := N_Table_read) (sc := defScope s_Table_read) (by decide +kernel)) (fun _ _ _ _ _ => (pg_name (i := 5) sc_Table_read.nd rfl (Or.inl rfl))) (fun _ _ _ _ _ => pts_nil) (fun _ _ _ _ _ => (pe_callTy call_str_int (by rfl) T.f_str (by decide +kernel) (pa_cons (pv 5) pa_nil)))) (pv 2) (nomark _)) (pw_or1 (pt_not (pt_val (pe_R (ok_are_worths T) (hr.mono (by decide)) T.g_are_worths T.k_are_worths (pa_cons (pv 3) pa_nil))))))) (pss_one ps_never) pss_nil) (pss_one (ps_ret (pe_gh (pe_MkV (i := 0) (ok_Table_init T) (hr.mono (by decide)) T.mk_Table (pa_cons (pv 3) pa_nil) rfl (by first | exact Or.inl rfl | exact Or.inr (Or.inl rfl)))))))))), ?_⟩
  obtain ⟨ns, rfl, hl, hb, q⟩ := h
  have hne : ns ≠ [] := fun z => by rw [z] at hl; cases hl
  walk_at "w"
  refine ⟨_, _, _, _, _, rfl, .ty _, .base (.str _), rfl, ?_⟩
  walk_at "w"
  refine ⟨⟨_, rfl⟩, ?_⟩
  walk_at "w"
  refine ⟨Nat.le_trans (Nat.add_le_add_right (join_len ns hb hl) 2) (by decide), ?_⟩
  rw [split_nums ns hb hne]
  intro p hp
  have e1 : Same H (upd H p (.lst ((ns.map txt).map V.str))) := same_new hp
  generalize h1 : upd H p (.lst ((ns.map txt).map V.str)) = H1 at e1 ⊢
  have hp1 : H1 p = some (.lst ((ns.map txt).map V.str)) := by rw [← h1]; exact upd_same
  walk_at "w"
  refine ⟨⟨_, sqL_of hp1⟩, fun D hD => ?_⟩
  refine lc_map ((ns.map Int.ofNat).map V.int) hD (fun i H' hi c => ?_) fun H2 e2 hl2 => ⟨⟨_, sqL_of (e2 _ _ hp1), by simp⟩, ?_⟩
  · have hi' : i < ns.length := by simpa using hi
    refine ⟨itl_go (sqL_of (c.same _ _ hp1)) (by simpa using hi'), fun x H'' hx => ?_⟩
    obtain ⟨rfl, hx⟩ := hx
    have hx := hx _ (sqL_of (c.same _ _ hp1))
    rw [List.getElem?_map, List.getElem?_map, List.getElem?_eq_getElem hi'] at hx
    obtain rfl : V.str (txt ns[i]) = x := Option.some.inj hx
    have hn60 := hb ns[i] (List.getElem_mem hi')
    refine ⟨rfl, ?_⟩
    walk_at "w"
    by_cases h0 : ns[i] = 0
    · rw [h0]
      refine iT (by decide +kernel) ?_
      refine CR.fin Rz.mono c (by omega) (Same.refl _) ?_
      simp [Rz, hi', h0]
    · refine iF (dF fun z => ?_) ?_
      · have t6 := (txt_ok ns[i] hn60).2.2.2.2.2
        rw [dF h0] at t6
        have t7 : txt ns[i] ≠ "0" := by simpa using t6
        exact t7 (V.str.inj z)
      walk_at "w"
      refine ⟨by omega, hn60, fun H4 e4 => ?_⟩
      refine CR.fin Rz.mono c (by omega) e4 ?_
      simp [Rz, hi']
  have hp2 := e2 _ _ hp1
  walk_at "w"
  refine ⟨⟨_, sqL_of hl2⟩, fun D2 hD2 => ?_⟩
  refine lc_map ((ns.map txt).map V.str) hD2 (fun i H' hi c => ?_) fun H3 e3 hl3 => ⟨⟨_, sqL_of (e3 _ _ hl2), by simp⟩, ?_⟩
  · have hi' : i < ns.length := by simpa using hi
    refine ⟨itl_go (sqL_of (c.same _ _ hl2)) (by simpa using hi'), fun x H'' hx => ?_⟩
    obtain ⟨rfl, hx⟩ := hx
    have hx := hx _ (sqL_of (c.same _ _ hl2))
    rw [List.getElem?_map, List.getElem?_map, List.getElem?_eq_getElem hi'] at hx
    obtain rfl : V.int (Int.ofNat ns[i]) = x := Option.some.inj hx
    have hn60 := hb ns[i] (List.getElem_mem hi')
    refine ⟨rfl, ?_⟩
    walk_at "w"
    have hlg : (Int.ofNat ns[i]).natAbs.log2 < 1920 := by
      have e : ∀ m : Fin 61, (Int.ofNat m.1).natAbs.log2 < 1920 := by decide +kernel
      exact e ⟨ns[i], by omega⟩
    refine ⟨hlg, ?_⟩
    refine CR.fin Rz.mono c (by omega) (Same.refl _) ?_
    simp [Rz, hi']
    rfl
  have hp3 := e3 _ _ hp2
  walk_at "w"
  have so : ∀ z ∈ ns.map txt, PyData.strOk z = true := fun z hz => by
    obtain ⟨n, hn, rfl⟩ := List.mem_map.mp hz
    have e : ∀ m : Fin 61, PyData.strOk (txt m.1) = true := by decide +kernel
    exact e ⟨n, by have := hb n hn; omega⟩
  refine ⟨_, _, .lst (sqL_of hl3) (dpAll_strs _), .lst (sqL_of hp3) (dpAll_strs _), shaped_strs _ so, shaped_strs _ so, ?_⟩
  rw [eqv_strs _ so]
  walk_at "w"
  have hw : ∀ n ∈ ns.map Int.ofNat, 0 ≤ n ∧ n ≤ 60 := fun n hn => by
    obtain ⟨m, hm, rfl⟩ := List.mem_map.mp hn
    have := hb m hm
    exact ⟨Int.natCast_nonneg m, by show (m : Int) ≤ 60; omega⟩
  refine ⟨_, _, rfl, e3 _ _ hl2, by simpa using hl, hw, fun H4 e4 => ?_⟩
  walk_at "w"
  have eT := ((e1.trans e2).trans e3).trans e4
  exact fun x dx hx hdx hne2 => mk_tab (Q := fun v H => Gh H (Q v)) (e4 _ _ (e3 _ _ hl2)) (by simpa using hl) hw (fun x H' hx e ht => .now (q x H' (fresh_of eT hx) (eT.trans e) ht)) x dx hx hdx hne2
end Cab
set_option Elab.async false
set_option linter.all false
set_option maxRecDepth 100000
set_option maxHeartbeats 2000000
set_option pp.maxSteps 1500
namespace Cab
open PySem PySem.Spec PyProof.Rows L2

local macro_rules | `(tactic| walk_at "w") => `(tactic| repeat (first | refine Gh.now ?_ | refine ⟨_, rfl, ?_⟩ | refine ⟨_, _, rfl, rfl, ?_⟩ | refine ⟨rfl, ?_⟩))
local macro_rules | `(tactic| walk_at "g") => `(tactic| repeat (first | refine ⟨_, _, rfl, rfl, ?_⟩ | refine ⟨_, _, rfl, ?_⟩ | refine ⟨rfl, ?_⟩ | refine Gh.now ?_ | refine ⟨_, rfl, ?_⟩))
local macro_rules | `(tactic| walk_at "len") => `(tactic| first | (intro hh; obtain ⟨e, _⟩ := hh; exact congrArg List.length e) | (intro hh; obtain ⟨_, e, _⟩ := hh; exact congrArg List.length e) | (intro hh; obtain ⟨_, _, e, _⟩ := hh; exact congrArg List.length e) | (intro hh; obtain ⟨_, _, _, e, _⟩ := hh; exact congrArg List.length e) | (intro hh; obtain ⟨_, _, _, _, e, _⟩ := hh; exact congrArg List.length e) | (intro hh; obtain ⟨_, _, _, _, _, e, _⟩ := hh; exact congrArg List.length e) | (intro hh; obtain ⟨_, _, _, _, _, _, e, _⟩ := hh; exact congrArg List.length e) | (intro hh; obtain ⟨_, _, _, _, _, _, _, e, _⟩ := hh; exact congrArg List.length e) | (intro hh; obtain ⟨_, _, _, _, _, _, _, _, e, _⟩ := hh; exact congrArg List.length e) | (intro hh; obtain ⟨_, _, _, _, _, _, _, _, _, e, _⟩ := hh; exact congrArg List.length e) | (intro hh; obtain ⟨_, _, _, _, _, _, _, _, _, _, e, _⟩ := hh; exact congrArg List.length e) | (intro hh; obtain ⟨_, _, _, _, _, _, _, _, _, _, _, e, _⟩ := hh; exact congrArg List.length e) | (intro hh; obtain ⟨_, _, _, _, _, _, _, _, _, _, _, _, e, _⟩ := hh; exact congrArg List.length e))
variable {P : Program} {w : World} {K : PySem.W.Frag} {mg : Str → Option Value} {base : Heap}

/-! ### meters of one table -/
structure Mt where
  first : Int
  drop : Int
  flag : Int
  each : Int
  wo : List Int
structure Mt.Ok (M : Mt) : Prop where
  f1 : 1 ≤ M.first
  f2 : M.first ≤ 10
  d1 : 1 ≤ M.drop
  d2 : M.drop ≤ 10
  g1 : 0 ≤ M.flag
  g2 : M.flag ≤ 1000
  e1 : 1 ≤ M.each
  e2 : M.each ≤ 100
  wl : M.wo.length = 10
  wb : ∀ n ∈ M.wo, 0 ≤ n ∧ n ≤ 60
def Mt.wt (M : Mt) (v : Nat) : Int := M.wo.getD v 0
def Mt.J (M : Mt) (c : Int) : Int := if c < M.first then 0 else 1 + (c - M.first) / M.drop
def Mt.on (M : Mt) (c : Int) (v : Nat) : Int := c + M.wt v
def Mt.pr (M : Mt) (c : Int) : Int := M.flag + M.each * M.J c
def Mt.goal (M : Mt) (l : Int) (v : Nat) : Int := if M.wt v < l then l - M.wt v else M.drop - (M.wt v - l) % M.drop
def Mt.many (M : Mt) (l : Int) (v : Nat) : Int := if M.wt v < l then 0 else 1 + (M.wt v - l) / M.drop
theorem Mt.Ok.wt0 {M : Mt} (o : M.Ok) (v : Nat) : 0 ≤ M.wt v ∧ M.wt v ≤ 60 := by
  unfold Mt.wt
  by_cases h : v < M.wo.length
  · rw [getD_get h]
    exact o.wb _ (List.getElem_mem h)
  · rw [List.getD_eq_getElem?_getD, List.getElem?_eq_none (by omega)]
    decide
abbrev CM (K : PySem.W.Frag) : Addr := He.ga K "Meter"
abbrev fsM (an a2 a3 ad : Addr) : List (Str × V) := [("own_numbers", .ref an), ("own_tables", .ref a2), ("own_turns", .ref a3), ("own_steps", .ref ad)]
/-- a meter, its steps' dict at ad -/
def MetI (K : PySem.W.Frag) (H : Hp) (m : Addr) (M : Mt) (ad : Addr) : Prop := M.Ok ∧ ∃ dx an a2 a3 tb, H m = some (.ins (CM K) dx (fsM an a2 a3 ad)) ∧
  H an = some (.tup [.int M.first, .int M.drop, .int M.flag, .int M.each]) ∧ H a2 = some (.tup [.ref tb]) ∧ TabAt K H tb M.wo ∧ H a3 = some (.tup [])
theorem MetI.px {K : PySem.W.Frag} {H H' : Hp} {m ad : Addr} {M : Mt} (e : Px H H') (h : MetI K H m M ad) : MetI K H' m M ad := by
  obtain ⟨o, dx, an, a2, a3, tb, h1, h2, h3, h4, h5⟩ := h
  exact ⟨o, dx, an, a2, a3, tb, e _ _ h1 True.intro, e _ _ h2 True.intro, e _ _ h3 True.intro, h4.px e, e _ _ h5 True.intro⟩
def pr_fld (f : Mt → Int) (P : Program) (w : World) (K : PySem.W.Frag) : Pr := fun vs H Q => ∃ (m ad : Addr) (M : Mt), vs = [.ref m] ∧ MetI K H m M ad ∧ Q (.int (f M)) H
theorem ok_Meter_drop (T : Wd K mg base) : Fn P w K mg base 1 (He5.wf K (He.ga K "Meter") "property" "drop") (pr_fld Mt.drop P w K) := by
  obtain ⟨fd, F0⟩ := T.fdef 54 (d := d_Meter_drop)
  have F : FunD K "drop" "Meter.drop" (defArgs s_Meter_drop) (defBody s_Meter_drop) (defScope s_Meter_drop) [] [] (He5.wf K (He.ga K "Meter") "property" "drop") fd := F0
  refine fn_mk (N := N_Meter_drop) (ps := ["self"]) F sc_Meter_drop (fun kV doc pm an cdv ct us hl => match us, hl with | [u0], _ => rfl) (fun vs H Q => by walk_at "len") fun cdv A outer s H vs Q E hr h => ?_
  refine ⟨_, (pss_one (ps_ret (pe_gh (pe_ix (ix_tup : IxR _ (rIxT K)) (pe_fld (pv 0) rfl) pe_int (fun _ _ => rfl))))), ?_⟩
  obtain ⟨m, ad, M, rfl, ⟨o, dx, an, a2, a3, tb, h1, h2, h3, h4, h5⟩, q⟩ := h
  walk_at "w"
  refine ⟨_, _, _, _, _, rfl, h1, T.cls_Meter, T.n_Meter_own_numbers, rfl, ?_⟩
  walk_at "w"
  exact ⟨_, _, _, _, rfl, rfl, sqT_of h2, rfl, .now q⟩
theorem ok_Meter_flag (T : Wd K mg base) : Fn P w K mg base 1 (He5.wf K (He.ga K "Meter") "property" "flag") (pr_fld Mt.flag P w K) := by
  obtain ⟨fd, F0⟩ := T.fdef 55 (d := d_Meter_flag)
  have F : FunD K "flag" "Meter.flag" (defArgs s_Meter_flag) (defBody s_Meter_flag) (defScope s_Meter_flag) [] [] (He5.wf K (He.ga K "Meter") "property" "flag") fd := F0
  refine fn_mk (N := N_Meter_flag) (ps := ["self"]) F sc_Meter_flag (fun kV doc pm an cdv ct us hl => match us, hl with | [u0], _ => rfl) (fun vs H Q => by walk_at "len") fun cdv A outer s H vs Q E hr h => ?_
  refine ⟨_, (pss_one (ps_ret (pe_gh (pe_ix (ix_tup : IxR _ (rIxT K)) (pe_fld (pv 0) rfl) pe_int (fun _ _ => rfl))))), ?_⟩
  obtain ⟨m, ad, M, rfl, ⟨o, dx, an, a2, a3, tb, h1, h2, h3, h4, h5⟩, q⟩ := h
  walk_at "w"
  refine ⟨_, _, _, _, _, rfl, h1, T.cls_Meter, T.n_Meter_own_numbers, rfl, ?_⟩
  walk_at "w"
  exact ⟨_, _, _, _, rfl, rfl, sqT_of h2, rfl, .now q⟩
theorem ok_Meter_each (T : Wd K mg base) : Fn P w K mg base 1 (He5.wf K (He.ga K "Meter") "property" "each") (pr_fld Mt.each P w K) := by
  obtain ⟨fd, F0⟩ := T.fdef 56 (d := d_Meter_each)
  have F : FunD K "each" "Meter.each" (defArgs s_Meter_each) (defBody s_Meter_each) (defScope s_Meter_each) [] [] (He5.wf K (He.ga K "Meter") "property" "each") fd := F0
  refine fn_mk (N := N_Meter_each) (ps := ["self"]) F sc_Meter_each (fun kV doc pm an cdv ct us hl => match us, hl with | [u0], _ => rfl) (fun vs H Q => by walk_at "len") fun cdv A outer s H vs Q E hr h => ?_
  refine ⟨_, (pss_one (ps_ret (pe_gh (pe_ix (ix_tup : IxR _ (rIxT K)) (pe_fld (pv 0) rfl) pe_int (fun _ _ => rfl))))), ?_⟩
  obtain ⟨m, ad, M, rfl, ⟨o, dx, an, a2, a3, tb, h1, h2, h3, h4, h5⟩, q⟩ := h
  walk_at "w"
  refine ⟨_, _, _, _, _, rfl, h1, T.cls_Meter, T.n_Meter_own_numbers, rfl, ?_⟩
  walk_at "w"
  exact ⟨_, _, _, _, rfl, rfl, sqT_of h2, rfl, .now q⟩
def pr_Meter_start (P : Program) (w : World) (K : PySem.W.Frag) : Pr := fun vs H Q => ∃ (m ad : Addr) (M : Mt), vs = [.ref m] ∧ MetI K H m M ad ∧ ∀ p H', H p = none → Same H H' → H' p = some (.tup [.int 0, .int M.first]) → Q (.ref p) H'
theorem ok_Meter_start (T : Wd K mg base) : Fn P w K mg base 1 (He5.wf K (He.ga K "Meter") "property" "start") (pr_Meter_start P w K) := by
  obtain ⟨fd, F0⟩ := T.fdef 57 (d := d_Meter_start)
  have F : FunD K "start" "Meter.start" (defArgs s_Meter_start) (defBody s_Meter_start) (defScope s_Meter_start) [] [] (He5.wf K (He.ga K "Meter") "property" "start") fd := F0
  refine fn_mk (N := N_Meter_start) (ps := ["self"]) F sc_Meter_start (fun kV doc pm an cdv ct us hl => match us, hl with | [u0], _ => rfl) (fun vs H Q => by walk_at "len") fun cdv A outer s H vs Q E hr h => ?_
  refine ⟨_, (pss_one (ps_ret (pe_gh (pe_tup (pa_cons pe_int (pa_cons (pe_ix (ix_tup : IxR _ (rIxT K)) (pe_fld (pv 0) rfl) pe_int (fun _ _ => rfl)) pa_nil)))))), ?_⟩
  obtain ⟨m, ad, M, rfl, ⟨o, dx, an, a2, a3, tb, h1, h2, h3, h4, h5⟩, q⟩ := h
  walk_at "w"
  refine ⟨_, _, _, _, _, rfl, h1, T.cls_Meter, T.n_Meter_own_numbers, rfl, ?_⟩
  walk_at "w"
  refine ⟨_, _, _, _, rfl, rfl, sqT_of h2, rfl, ?_⟩
  refine ⟨sz, fun p hp => .now ?_⟩
  exact q p _ hp (same_new hp) upd_same
def pr_Meter_table_at (P : Program) (w : World) (K : PySem.W.Frag) : Pr := fun vs H Q => ∃ (m ad : Addr) (M : Mt) (j : Int), vs = [.ref m, .int j] ∧ MetI K H m M ad ∧ ∀ tb H', Same H H' → TabAt K H' tb M.wo → Q (.ref tb) H'
theorem ok_Meter_table_at (T : Wd K mg base) : Fn P w K mg base 1 (He.ma K (He.ga K "Meter") "table_at") (pr_Meter_table_at P w K) := by
  obtain ⟨fd, F0⟩ := T.fdef 58 (d := d_Meter_table_at)
  have F : FunD K "table_at" "Meter.table_at" (defArgs s_Meter_table_at) (defBody s_Meter_table_at) (defScope s_Meter_table_at) [] [] (He.ma K (He.ga K "Meter") "table_at") fd := F0
  refine fn_mk (N := N_Meter_table_at) (ps := ["self", "jumps"]) F sc_Meter_table_at (fun kV doc pm an cdv ct us hl => match us, hl with | [u0, u1], _ => rfl) (fun vs H Q => by walk_at "len") fun cdv A outer s H vs Q E hr h => ?_
  refine ⟨_, (pss_one (ps_ret (pe_gh (pe_ix (ix_tup : IxR _ (rIxT K)) (pe_fld (pv 0) rfl) (pe_callB (call_lenK (K := K)) (by rfl) T.f_len (by decide +kernel) (pa_cons (pe_lc (own := [("turn", 2)]) rfl sc_Meter_table_at.nd (pi_tup (pe_fld (pv 0) rfl)) (blkOk_by (own := [("turn", 2)]) (N := N_Meter_table_at) (sc := defScope s_Meter_table_at) (by decide +kernel)) (fun _ _ _ _ _ => (pg_name (i := 2) sc_Meter_table_at.nd rfl (Or.inl rfl))) (fun _ _ _ _ _ => (pts_one (pt_cmpR op_le (pv 2) (pv 1) (nomark _)))) (fun _ _ _ _ _ => (pv 2))) pa_nil)) (fun _ _ => rfl))))), ?_⟩
  obtain ⟨m, ad, M, j, rfl, ⟨o, dx, an, a2, a3, tb, h1, h2, h3, h4, h5⟩, q⟩ := h
  walk_at "w"
  refine ⟨_, _, _, _, _, rfl, h1, T.cls_Meter, T.n_Meter_own_tables, rfl, ?_⟩
  walk_at "w"
  refine ⟨_, _, _, _, _, rfl, h1, T.cls_Meter, T.n_Meter_own_turns, rfl, ?_⟩
  walk_at "w"
  refine ⟨⟨_, sqT_of h5⟩, fun D hD => ?_⟩
  refine lc_map [] hD (fun i H' hi c => by simp at hi) fun H2 e2 hl => ⟨⟨_, sqT_of (e2 _ _ h5), Nat.le_refl _⟩, ?_⟩
  walk_at "w"
  refine ⟨_, [], rfl, .inl (sqL_of hl), ?_⟩
  exact ⟨_, _, _, _, rfl, rfl, sqT_of (e2 _ _ h3), rfl, .now (q tb _ e2 (h4.px (Px.of _ _ e2)))⟩
def pr_Meter_jumps_at (P : Program) (w : World) (K : PySem.W.Frag) : Pr := fun vs H Q => ∃ (m ad : Addr) (M : Mt) (c : Int), vs = [.ref m, .int c] ∧ MetI K H m M ad ∧ ∀ H', Same H H' → Q (.int (M.J c)) H'
theorem ok_Meter_jumps_at (T : Wd K mg base) : Fn P w K mg base 1 (He.ma K (He.ga K "Meter") "jumps_at") (pr_Meter_jumps_at P w K) := by
  obtain ⟨fd, F0⟩ := T.fdef 59 (d := d_Meter_jumps_at)
  have F : FunD K "jumps_at" "Meter.jumps_at" (defArgs s_Meter_jumps_at) (defBody s_Meter_jumps_at) (defScope s_Meter_jumps_at) [] [] (He.ma K (He.ga K "Meter") "jumps_at") fd := F0
  refine fn_mk (N := N_Meter_jumps_at) (ps := ["self", "count"]) F sc_Meter_jumps_at (fun kV doc pm an cdv ct us hl => match us, hl with | [u0, u1], _ => rfl) (fun vs H Q => by walk_at "len") fun cdv A outer s H vs Q E hr h => ?_
  refine ⟨_, (pss_gcons (ps_asg (pe_slice sl_tupA (pe_fld (pv 0) rfl) po_none (po_some pe_int)) (pg_tupK (n := 2) rfl (pgs_cons (pg_name (i := 2) sc_Meter_jumps_at.nd rfl (Or.inl rfl)) (pgs_cons (pg_name (i := 3) sc_Meter_jumps_at.nd rfl (Or.inl rfl)) pgs_nil)))) (pss_one (ps_ret (pe_gh (pe_ifExp (pt_cmpR op_lt (pv 1) (pv 2) (nomark _)) pe_int (pe_op op_add pe_int (pe_op op_fdiv (pe_op op_sub (pv 1) (pv 2)) (pv 3)))))))), ?_⟩
  obtain ⟨m, ad, M, j, rfl, ⟨o, dx, an, a2, a3, tb, h1, h2, h3, h4, h5⟩, q⟩ := h
  walk_at "w"
  refine ⟨_, _, _, _, _, rfl, h1, T.cls_Meter, T.n_Meter_own_numbers, rfl, ?_⟩
  walk_at "w"
  refine ⟨_, _, rfl, sqT_of h2, fun z => absurd (show (2 : Nat) = 4 from z.2) (by decide), fun _ p hp => ?_⟩
  have e1 : Same H (upd H p (.tup (cutV [.int M.first, .int M.drop, .int M.flag, .int M.each] none (some 2)))) := same_new hp
  refine ⟨_, [.int M.first, .int M.drop], rfl, sqT_of upd_same, rfl, ?_⟩
  walk_at "g"
  refine iB (fun hd => ?_) fun hd => ?_
  · refine .now (qv_eq (congrArg V.int ?_) (q _ e1))
    unfold Mt.J
    rw [if_pos (of_decide_eq_true hd)]
  · walk_at "w"
    have := o.d1
    have := o.d2
    refine ⟨⟨by omega, by omega⟩, ?_⟩
    walk_at "w"
    refine qv_eq (congrArg V.int ?_) (q _ e1)
    unfold Mt.J
    rw [if_neg (of_decide_eq_false hd)]
def pr_Meter_count_on (P : Program) (w : World) (K : PySem.W.Frag) : Pr := fun vs H Q => ∃ (m ad : Addr) (M : Mt) (c : Int) (v : Nat), vs = [.ref m, .int c, .int v] ∧ MetI K H m M ad ∧ v < 10 ∧ ∀ H', Same H H' → Q (.int (M.on c v)) H'
theorem ok_Meter_count_on (T : Wd K mg base) : Fn P w K mg base 6 (He.ma K (He.ga K "Meter") "count_on") (pr_Meter_count_on P w K) := by
  obtain ⟨fd, F0⟩ := T.fdef 60 (d := d_Meter_count_on)
  have F : FunD K "count_on" "Meter.count_on" (defArgs s_Meter_count_on) (defBody s_Meter_count_on) (defScope s_Meter_count_on) [] [] (He.ma K (He.ga K "Meter") "count_on") fd := F0
  refine fn_mk (N := N_Meter_count_on) (ps := ["self", "count", "speed"]) F sc_Meter_count_on (fun kV doc pm an cdv ct us hl => match us, hl with | [u0, u1, u2], _ => rfl) (fun vs H Q => by walk_at "len") fun cdv A outer s H vs Q E hr h => ?_
  refine ⟨_, (pss_one (ps_ret (pe_gh (pe_op op_add (pv 1) (pe_Gi (ok_Table_getitem T) (hr.mono (by decide)) T.m_Table_getitem T.fi_getitem (pe_M (ok_Meter_table_at T) (hr.mono (by decide)) T.cls_Meter T.m_Meter_table_at (pv 0) (pa_cons (pe_M (ok_Meter_jumps_at T) (hr.mono (by decide)) T.cls_Meter T.m_Meter_jumps_at (pv 0) (pa_cons (pv 1) pa_nil)) pa_nil)) (pv 2)))))), ?_⟩
  obtain ⟨m, ad, M, c, v, rfl, hm, hv, q⟩ := h
  obtain ⟨o, dx, an, a2, a3, tb, h1, h2, h3, h4, h5⟩ := id hm
  walk_at "w"
  refine ⟨_, _, _, rfl, h1, rfl, ?_⟩
  refine ⟨_, rfl, _, _, _, rfl, h1, rfl, ?_⟩
  walk_at "w"
  refine ⟨_, _, _, _, rfl, hm, fun H1 e1 => ?_⟩
  refine ⟨_, _, _, _, rfl, hm.px (Px.of _ _ e1), fun tb H2 e2 ht => ?_⟩
  obtain ⟨⟨dx2, r2, t1, t2⟩, t3⟩ := id ht
  refine ⟨_, rfl, _, _, _, rfl, t1, _, _, _, rfl, hv, ht, ?_⟩
  walk_at "w"
  exact q _ (e1.trans e2)
def pr_Meter_price_at (P : Program) (w : World) (K : PySem.W.Frag) : Pr := fun vs H Q => ∃ (m ad : Addr) (M : Mt) (c : Int), vs = [.ref m, .int c] ∧ MetI K H m M ad ∧ 0 ≤ c ∧ ∀ H', Same H H' → Q (.int (M.pr c)) H'
theorem ok_Meter_price_at (T : Wd K mg base) : Fn P w K mg base 3 (He.ma K (He.ga K "Meter") "price_at") (pr_Meter_price_at P w K) := by
  obtain ⟨fd, F0⟩ := T.fdef 63 (d := d_Meter_price_at)
  have F : FunD K "price_at" "Meter.price_at" (defArgs s_Meter_price_at) (defBody s_Meter_price_at) (defScope s_Meter_price_at) [] [] (He.ma K (He.ga K "Meter") "price_at") fd := F0
  refine fn_mk (N := N_Meter_price_at) (ps := ["self", "count"]) F sc_Meter_price_at (fun kV doc pm an cdv ct us hl => match us, hl with | [u0, u1], _ => rfl) (fun vs H Q => by walk_at "len") fun cdv A outer s H vs Q E hr h => ?_
  refine ⟨_, (pss_cons (ps_if (PW.pt (pw_or (pt_not (pt_val (pe_R (ok_is_whole T) (hr.mono (by decide)) T.g_is_whole T.k_is_whole (pa_cons (pv 1) pa_nil)))) (pw_or1 (pt_cmpR op_lt (pv 1) pe_int (nomark _))))) (pss_one ps_never) pss_nil) (pss_one (ps_ret (pe_gh (pe_op op_add (pe_P (ok_Meter_flag T) (hr.mono (by decide)) T.cls_Meter T.p_Meter_flag (pv 0)) (pe_op op_mul (pe_P (ok_Meter_each T) (hr.mono (by decide)) T.cls_Meter T.p_Meter_each (pv 0)) (pe_M (ok_Meter_jumps_at T) (hr.mono (by decide)) T.cls_Meter T.m_Meter_jumps_at (pv 0) (pa_cons (pv 1) pa_nil)))))))), ?_⟩
  obtain ⟨m, ad, M, c, rfl, hm, hc, q⟩ := h
  obtain ⟨o, dx, an, a2, a3, tb, h1, h2, h3, h4, h5⟩ := id hm
  walk_at "w"
  refine iF (dF (by omega)) ?_
  walk_at "w"
  refine ⟨_, _, _, rfl, h1, _, _, _, rfl, hm, ?_⟩
  walk_at "w"
  refine ⟨_, _, _, rfl, h1, _, _, _, rfl, hm, ?_⟩
  walk_at "w"
  refine ⟨_, _, _, rfl, h1, rfl, ?_⟩
  walk_at "w"
  refine ⟨_, _, _, _, rfl, hm, fun H1 e1 => ?_⟩
  walk_at "w"
  have := o.e1
  have := o.e2
  refine ⟨.inl (by omega), ?_⟩
  walk_at "w"
  exact q _ e1
def pr_Meter_last_turn (P : Program) (w : World) (K : PySem.W.Frag) : Pr := fun vs H Q => ∃ (m ad : Addr) (M : Mt), vs = [.ref m] ∧ MetI K H m M ad ∧ ∀ H', Same H H' → Q (.int 0) H'
theorem ok_Meter_last_turn (T : Wd K mg base) : Fn P w K mg base 1 (He.ma K (He.ga K "Meter") "last_turn") (pr_Meter_last_turn P w K) := by
  obtain ⟨fd, F0⟩ := T.fdef 66 (d := d_Meter_last_turn)
  have F : FunD K "last_turn" "Meter.last_turn" (defArgs s_Meter_last_turn) (defBody s_Meter_last_turn) (defScope s_Meter_last_turn) [] [] (He.ma K (He.ga K "Meter") "last_turn") fd := F0
  refine fn_mk (N := N_Meter_last_turn) (ps := ["self"]) F sc_Meter_last_turn (fun kV doc pm an cdv ct us hl => match us, hl with | [u0], _ => rfl) (fun vs H Q => by walk_at "len") fun cdv A outer s H vs Q E hr h => ?_
  refine ⟨_, (pss_one (ps_ret (pe_gh (pe_ifExp (pt_cmpR (op_eqD (hu64 hr)) (pe_fld (pv 0) rfl) (pe_tup pa_nil) (nomark _)) pe_int (pe_ix (ix_tup : IxR _ (rIxT K)) (pe_fld (pv 0) rfl) (pe_un un_neg pe_int) (fun _ _ => rfl)))))), ?_⟩
  obtain ⟨m, ad, M, rfl, hm, q⟩ := h
  obtain ⟨o, dx, an, a2, a3, tb, h1, h2, h3, h4, h5⟩ := id hm
  walk_at "w"
  refine ⟨_, _, _, _, _, rfl, h1, T.cls_Meter, T.n_Meter_own_turns, rfl, ?_⟩
  refine ⟨sz, fun p hp => ?_⟩
  have e1 : Same H (upd H p (.tup [])) := same_new hp
  refine ⟨_, _, .tup (sqT_of (e1 _ _ h5)) .nil, .tup (sqT_of upd_same) .nil, by decide, by decide, ?_⟩
  walk_at "w"
  exact q _ e1
/-- a stand -/
def St (H : Hp) (a : Addr) (l : Int) : Prop := H a = some (.tup [.int 0, .int l])
theorem St.px {H H' : Hp} {a : Addr} {l : Int} (e : Px H H') (h : St H a l) : St H' a l := e _ _ h True.intro
/-- a step's tuple -/
def StepAt (H : Hp) (a : Addr) (M : Mt) (l : Int) (v : Nat) : Prop := ∃ g, H a = some (.tup [.ref g, .int (M.many l v)]) ∧ St H g (M.goal l v)
theorem StepAt.px {H H' : Hp} {a : Addr} {M : Mt} {l : Int} {v : Nat} (e : Px H H') (h : StepAt H a M l v) : StepAt H' a M l v := h.elim fun g h => ⟨g, e _ _ h.1 True.intro, h.2.px e⟩
def pr_Meter_step_from (P : Program) (w : World) (K : PySem.W.Frag) : Pr := fun vs H Q => ∃ (m ad sa : Addr) (M : Mt) (l : Int) (v : Nat), vs = [.ref m, .ref sa, .int v] ∧ MetI K H m M ad ∧ St H sa l ∧ v < 10 ∧ ∀ a H', H a = none → Same H H' → StepAt H' a M l v → Q (.ref a) H'
theorem ok_Meter_step_from (T : Wd K mg base) : Fn P w K mg base 6 (He.ma K (He.ga K "Meter") "step_from") (pr_Meter_step_from P w K) := by
  obtain ⟨fd, F0⟩ := T.fdef 67 (d := d_Meter_step_from)
  have F : FunD K "step_from" "Meter.step_from" (defArgs s_Meter_step_from) (defBody s_Meter_step_from) (defScope s_Meter_step_from) [] [] (He.ma K (He.ga K "Meter") "step_from") fd := F0
  refine fn_mk (N := N_Meter_step_from) (ps := ["self", "stand", "speed"]) F sc_Meter_step_from (fun kV doc pm an cdv ct us hl => match us, hl with | [u0, u1, u2], _ => rfl) (fun vs H Q => by walk_at "len") fun cdv A outer s H vs Q E hr h => ?_
  refine ⟨_, (pss_gcons (ps_asg (pv 1) (pg_tupK (n := 2) rfl (pgs_cons (pg_name (i := 3) sc_Meter_step_from.nd rfl (Or.inl rfl)) (pgs_cons (pg_name (i := 4) sc_Meter_step_from.nd rfl (Or.inl rfl)) pgs_nil)))) (pss_gcons (ps_set (i := 5) sc_Meter_step_from.nd rfl (Or.inl rfl) (pe_Gi (ok_Table_getitem T) (hr.mono (by decide)) T.m_Table_getitem T.fi_getitem (pe_M (ok_Meter_table_at T) (hr.mono (by decide)) T.cls_Meter T.m_Meter_table_at (pv 0) (pa_cons (pv 3) pa_nil)) (pv 2))) (pss_cons (ps_if (pt_cmpR op_lt (pv 5) (pv 4) (nomark _)) (pss_one (ps_ret (pe_gh (pe_tup (pa_cons (pe_tup (pa_cons (pv 3) (pa_cons (pe_op op_sub (pv 4) (pv 5)) pa_nil))) (pa_cons pe_int pa_nil)))))) pss_nil) (pss_gcons (ps_set (i := 6) sc_Meter_step_from.nd rfl (Or.inl rfl) (pe_op op_sub (pv 5) (pv 4))) (pss_gcons (ps_set (i := 7) sc_Meter_step_from.nd rfl (Or.inl rfl) (pe_op op_add pe_int (pe_op op_fdiv (pv 6) (pe_P (ok_Meter_drop T) (hr.mono (by decide)) T.cls_Meter T.p_Meter_drop (pv 0))))) (pss_one (ps_ret (pe_gh (pe_tup (pa_cons (pe_tup (pa_cons (pe_callB (call_min2 rfl) (by rfl) T.f_min (by decide +kernel) (pa_cons (pe_op op_add (pv 3) (pv 7)) (pa_cons (pe_M0 (ok_Meter_last_turn T) (hr.mono (by decide)) T.cls_Meter T.m_Meter_last_turn (pv 0)) pa_nil))) (pa_cons (pe_op op_sub (pe_P (ok_Meter_drop T) (hr.mono (by decide)) T.cls_Meter T.p_Meter_drop (pv 0)) (pe_op op_mod (pv 6) (pe_P (ok_Meter_drop T) (hr.mono (by decide)) T.cls_Meter T.p_Meter_drop (pv 0)))) pa_nil))) (pa_cons (pv 7) pa_nil))))))))))), ?_⟩
  obtain ⟨m, ad, sa, M, l, v, rfl, hm, hs, hv, q⟩ := h
  obtain ⟨o, dx, an, a2, a3, tb, h1, h2, h3, h4, h5⟩ := id hm
  walk_at "w"
  refine ⟨_, _, rfl, sqT_of hs, rfl, ?_⟩
  walk_at "g"
  refine ⟨_, _, _, rfl, h1, rfl, ?_⟩
  walk_at "w"
  refine ⟨_, _, _, _, rfl, hm, fun tb H1 e1 ht => ?_⟩
  obtain ⟨⟨dx2, r2, t1, t2⟩, t3⟩ := id ht
  refine ⟨_, rfl, _, _, _, rfl, t1, _, _, _, rfl, hv, ht, ?_⟩
  walk_at "w"
  refine iB (fun hd => ?_) fun hd => ?_
  · walk_at "w"
    refine ⟨sz, fun p hp => ?_⟩
    walk_at "w"
    refine ⟨sz, fun p2 hp2 => .now ?_⟩
    have ew : M.wt v < l := of_decide_eq_true hd
    refine q p2 _ (fresh_of (e1.trans (same_new hp)) hp2) ((e1.trans (same_new hp)).trans (same_new hp2)) ⟨p, ?_, ?_⟩
    · rw [upd_same]
      unfold Mt.many
      rw [if_pos ew]
    · show upd _ p2 _ p = _
      rw [upd_ne (fun z => by rw [← z, upd_same] at hp2; cases hp2), upd_same]
      unfold Mt.goal
      rw [if_pos ew]
      rfl
  · have ew : ¬ M.wt v < l := of_decide_eq_false hd
    have hm1 := hm.px (Px.of _ _ e1)
    have h11 := e1 _ _ h1
    have := o.d1
    have := o.d2
    walk_at "w"
    refine ⟨_, _, _, rfl, h11, _, _, _, rfl, hm1, ?_⟩
    refine ⟨_, _, rfl, rfl, ⟨by omega, by omega⟩, ?_⟩
    walk_at "w"
    refine ⟨_, _, _, rfl, h11, rfl, _, _, _, rfl, hm1, fun H2 e2 => ?_⟩
    have hm2 := hm1.px (Px.of _ _ e2)
    have h12 := e2 _ _ h11
    walk_at "w"
    refine ⟨_, _, rfl, ?_⟩
    walk_at "w"
    refine ⟨_, _, _, rfl, h12, _, _, _, rfl, hm2, ?_⟩
    walk_at "w"
    refine ⟨_, _, _, rfl, h12, _, _, _, rfl, hm2, ?_⟩
    refine ⟨_, _, rfl, rfl, by show 0 < M.drop; omega, ?_⟩
    walk_at "w"
    refine ⟨sz, fun p hp => ?_⟩
    walk_at "w"
    refine ⟨sz, fun p2 hp2 => .now ?_⟩
    have hk : 0 ≤ (M.wt v - l) / M.drop := Int.ediv_nonneg (by omega) (by omega)
    have hk2 : (if (0 : Int) < 0 + (1 + (M.wt v - l) / M.drop) then (0 : Int) else 0 + (1 + (M.wt v - l) / M.drop)) = 0 := by
      rw [if_pos (by omega)]
    refine q p2 _ (fresh_of ((e1.trans e2).trans (same_new hp)) hp2) (((e1.trans e2).trans (same_new hp)).trans (same_new hp2)) ⟨p, ?_, ?_⟩
    · rw [upd_same]
      unfold Mt.many
      rw [if_neg ew]
      rfl
    · show upd _ p2 _ p = _
      rw [upd_ne (fun z => by rw [← z, upd_same] at hp2; cases hp2), upd_same]
      unfold Mt.goal
      rw [if_neg ew]
      show some (HO.tup [V.int (if (0 : Int) < 0 + (1 + (M.wt v - l) / M.drop) then (0 : Int) else 0 + (1 + (M.wt v - l) / M.drop)), _]) = _
      rw [hk2]
      rfl
end Cab
set_option Elab.async false
set_option linter.all false
set_option maxRecDepth 100000
set_option maxHeartbeats 2000000
namespace Cab
open PySem PySem.Spec PyProof.Rows L2
/-! ### what a dict holds behind a store -/
theorem look_set (k k' : NestedKey) (v : V) : ∀ es : List Ent, lookE (es.map (setE k v)) k' = if k = k' then (lookE es k').map (fun _ => v) else lookE es k'
  | [] => by
    unfold lookE
    split <;> rfl
  | e :: r => by
    have ih := look_set k k' v r
    unfold lookE at ih ⊢
    rw [List.map_cons, List.find?_cons, List.find?_cons]
    by_cases h1 : e.1 = k
    · have e1 : (setE k v e).1 = e.1 := by unfold setE; rw [if_pos h1]
      have e2 : (setE k v e).2.2 = v := by unfold setE; rw [if_pos h1]
      rw [e1]
      by_cases h2 : e.1 = k'
      · rw [decide_eq_true h2]
        have : k = k' := h1.symm.trans h2
        rw [if_pos this]
        show some (setE k v e).2.2 = _
        rw [e2]
        rfl
      · rw [decide_eq_false h2]
        exact ih
    · have e1 : setE k v e = e := by unfold setE; rw [if_neg h1]
      rw [e1]
      by_cases h2 : e.1 = k'
      · rw [decide_eq_true h2]
        rw [if_neg (fun z => h1 (h2.trans z.symm))]
      · rw [decide_eq_false h2]
        exact ih
theorem look_app (k' : NestedKey) (x : Ent) : ∀ es : List Ent, lookE (es ++ [x]) k' = (lookE es k').or (if x.1 = k' then some x.2.2 else none)
  | [] => by
    unfold lookE
    rw [List.nil_append, List.find?_cons]
    by_cases h : x.1 = k'
    · rw [decide_eq_true h, if_pos h]; rfl
    · rw [decide_eq_false h, if_neg h]; rfl
  | e :: r => by
    have ih := look_app k' x r
    unfold lookE at ih ⊢
    rw [List.cons_append, List.find?_cons, List.find?_cons]
    by_cases h2 : e.1 = k'
    · rw [decide_eq_true h2]; rfl
    · rw [decide_eq_false h2]; exact ih
theorem look_put (es : List Ent) (k k' : NestedKey) (b : Addr) (v : V) : lookE (putE es k b v) k' = if k = k' then some v else lookE es k' := by
  unfold putE
  by_cases h : (lookE es k).isSome = true
  · rw [if_pos h, look_set]
    by_cases e : k = k'
    · rw [if_pos e, if_pos e]
      subst e
      obtain ⟨u, hu⟩ := Option.isSome_iff_exists.mp h
      rw [hu]
      rfl
    · rw [if_neg e, if_neg e]
  · rw [if_neg h, look_app]
    by_cases e : k = k'
    · subst e
      have : lookE es k = none := by
        cases hh : lookE es k with
        | none => rfl
        | some u => rw [hh] at h; exact absurd rfl h
      rw [this, if_pos rfl]
      simp
    · rw [if_neg e, if_neg e]
      simp
theorem put_len (es : List Ent) (k : NestedKey) (b : Addr) (v : V) : (putE es k b v).length ≤ es.length + 1 := putE_length k b v
theorem look_mem {es : List Ent} {e : Ent} (h : e ∈ es) : (lookE es e.1).isSome = true := by
  unfold lookE
  rw [Option.isSome_map]
  exact List.find?_isSome.mpr ⟨e, h, by simp⟩
/-- fewer are left -/
theorem filter_lt {α : Type} {p q : α → Bool} : ∀ {L : List α}, (∀ x ∈ L, q x = true → p x = true) → (∃ x ∈ L, p x = true ∧ q x = false) → (L.filter q).length < (L.filter p).length
  | [], _, h => by obtain ⟨x, hx, _⟩ := h; cases hx
  | a :: r, h1, h2 => by
    have le : (r.filter q).length ≤ (r.filter p).length := by
      have : ∀ {L : List α}, (∀ x ∈ L, q x = true → p x = true) → (L.filter q).length ≤ (L.filter p).length := by
        intro L
        induction L with
        | nil => intro _; exact Nat.le_refl _
        | cons b s ih =>
          intro h
          have i2 := ih fun x hx => h x (List.mem_cons_of_mem _ hx)
          rw [List.filter_cons, List.filter_cons]
          by_cases hq : q b = true
          · rw [if_pos hq, if_pos (h b List.mem_cons_self hq)]
            simp only [List.length_cons]
            omega
          · rw [if_neg hq]
            split
            · simp only [List.length_cons]; omega
            · exact i2
      exact this fun x hx => h1 x (List.mem_cons_of_mem _ hx)
    obtain ⟨x, hx, px, qx⟩ := h2
    rw [List.filter_cons, List.filter_cons]
    rcases List.mem_cons.mp hx with e | hx
    · subst e
      rw [if_pos px, if_neg (by rw [qx]; decide)]
      simp only [List.length_cons]
      omega
    · have ih := filter_lt (fun x hx => h1 x (List.mem_cons_of_mem _ hx)) ⟨x, hx, px, qx⟩
      by_cases hq : q a = true
      · rw [if_pos hq, if_pos (h1 a List.mem_cons_self hq)]
        simp only [List.length_cons]
        omega
      · rw [if_neg hq]
        split
        · simp only [List.length_cons]; omega
        · exact ih
/-! ### stands, pairs as keys -/
abbrev kS (l : Int) : NestedKey := .tup [.num 0, .num l]
abbrev kP (p : Int × Int) : NestedKey := .tup [kS p.1, kS p.2]
theorem kS_inj {l l' : Int} (h : kS l = kS l') : l = l' := by cases h; rfl
theorem kP_inj {p p' : Int × Int} (h : kP p = kP p') : p = p' := by
  obtain ⟨a, b⟩ := p
  obtain ⟨c, d⟩ := p'
  cases h
  rfl
theorem St.key {H : Hp} {a : Addr} {l : Int} (h : St H a l) : IsK H (kS l) (.ref a) := .tup h (.cons (.num 0) (.cons (.num l) .nil))
/-- a pair of stands -/
def Pr2 (H : Hp) (a : Addr) (p : Int × Int) : Prop := ∃ x y, H a = some (.tup [.ref x, .ref y]) ∧ St H x p.1 ∧ St H y p.2
theorem Pr2.px {H H' : Hp} {a : Addr} {p : Int × Int} (e : Px H H') (h : Pr2 H a p) : Pr2 H' a p := by
  obtain ⟨x, y, h1, h2, h3⟩ := h
  exact ⟨x, y, e _ _ h1 True.intro, h2.px e, h3.px e⟩
theorem Pr2.key {H : Hp} {a : Addr} {p : Int × Int} (h : Pr2 H a p) : IsK H (kP p) (.ref a) := by
  obtain ⟨x, y, h1, h2, h3⟩ := h
  exact .tup h1 (.cons h2.key (.cons h3.key .nil))
theorem kS_dp (l : Int) : (kS l).depth ≤ 8 := by simp [NestedKey.depth, NestedKey.depthAll]
theorem kP_dp (p : Int × Int) : (kP p).depth ≤ 8 := by simp [NestedKey.depth, NestedKey.depthAll]
end Cab
set_option Elab.async false
set_option linter.all false
set_option maxRecDepth 100000
set_option maxHeartbeats 2000000
namespace Cab
open PySem PySem.Spec PyProof.Rows L2
section
variable {P : Program} {w : World} {K : PySem.W.Frag} {mg : Str → Option Value} {base : Heap}
/-- a def with defaults, called with all its arguments -/
theorem fn_mkD {x qual : Str} {params : Arguments} {body : List Stmt} {scope : Scope} {dvs : List V} {kws : List (Str × V)} {f : Addr} {fd : FuncData} {N ps : List Str} {k : Nat} {p : Pr}
    (F : FunD K x qual params body scope dvs kws f fd) (S : FnScope N ps scope) (hd : dvs ≠ [])
    (hb : ∀ (T : Addr) (kV doc pm : Value) (an : Option Addr) (cdv ct : Value) (us its : List Value), us.length = ps.length → its.length = dvs.length →
      ∃ k, bindArgs (PySem.W.fnOf x qual params body scope (.ref T) kV doc pm an cdv ct) ⟨us, []⟩ = seqItems? (.ref T) >>= k ∧ k (some its.toArray) = pure (ps.zip us))
    (len : ∀ vs H Q, p vs H Q → vs.length = ps.length)
    (hbody : ∀ (cdv : Value) (A : Around) (outer : List Env) (s : Shared) (H : Hp) (vs : List V) (Q : VK) (E : XK), Room k (A.deeper (envOfC qual scope s.heap.objs.size f cdv)) → p vs H Q →
      ∃ t, PSs (cxOf CX0 P w K mg base N qual scope f cdv A outer s H E).nox body t ∧ t { nx := fun _ H' => Q .non H', rt := Q } (start N vs) H) : Fn P w K mg base (k + 1) f p := by
  obtain ⟨ds, hv, B⟩ := F.binds1 (ps := ps) ps.length dvs.length hd (by omega) fun T kV doc pm an cdv ct us its h1 h2 => by
    obtain ⟨k, e1, e2⟩ := hb T kV doc pm an cdv ct us its h1 h2
    refine ⟨k, e1, ?_⟩
    rw [e2, ← h2, List.drop_length, List.append_nil]
  rw [List.drop_length] at hv
  cases hv
  refine ((ok_mk F S len hbody).raw B .nil).imp fun vs H Q _ h => ?_
  show p (vs ++ []) H Q
  rw [List.append_nil]
  exact h
/-- .. with none of its defaults given -/
theorem fn_mkD0 {x qual : Str} {params : Arguments} {body : List Stmt} {scope : Scope} {dvs : List V} {kws : List (Str × V)} {f : Addr} {fd : FuncData} {N ps : List Str} {k : Nat} {p : Pr} (n : Nat)
    (F : FunD K x qual params body scope dvs kws f fd) (S : FnScope N ps scope) (hd : dvs ≠ []) (hn : n + dvs.length = ps.length)
    (hb : ∀ (T : Addr) (kV doc pm : Value) (an : Option Addr) (cdv ct : Value) (us its : List Value), us.length = n → its.length = dvs.length →
      ∃ k, bindArgs (PySem.W.fnOf x qual params body scope (.ref T) kV doc pm an cdv ct) ⟨us, []⟩ = seqItems? (.ref T) >>= k ∧ k (some its.toArray) = pure (ps.zip (us ++ its)))
    (len : ∀ vs H Q, p vs H Q → vs.length = ps.length)
    (hbody : ∀ (cdv : Value) (A : Around) (outer : List Env) (s : Shared) (H : Hp) (vs : List V) (Q : VK) (E : XK), Room k (A.deeper (envOfC qual scope s.heap.objs.size f cdv)) → p vs H Q →
      ∃ t, PSs (cxOf CX0 P w K mg base N qual scope f cdv A outer s H E).nox body t ∧ t { nx := fun _ H' => Q .non H', rt := Q } (start N vs) H) : Fn P w K mg base (k + 1) f (fun vs H Q => p (vs ++ dvs) H Q) := by
  obtain ⟨ds, hv, B⟩ := F.binds1 (ps := ps) n 0 hd (by omega) fun T kV doc pm an cdv ct us its h1 h2 => by
    obtain ⟨k, e1, e2⟩ := hb T kV doc pm an cdv ct us its h1 h2
    exact ⟨k, e1, e2⟩
  exact ((ok_mk F S len hbody).raw B hv).imp fun vs H Q _ h => h
end
/-! ### the making of a meter -/
section
variable {X : Cx} {k : Nat} {f C : Addr} {p : Pr} {fd : FuncData}
def gMk {α : Type} (a d z : List α) : List α := a ++ z
end
end Cab
set_option Elab.async false
set_option linter.all false
set_option maxRecDepth 100000
set_option maxHeartbeats 2000000
set_option pp.maxSteps 1500
namespace Cab
open PySem PySem.Spec PyProof.Rows L2

local macro_rules | `(tactic| walk_at "w") => `(tactic| repeat (first | refine Gh.now ?_ | refine ⟨_, rfl, ?_⟩ | refine ⟨_, _, rfl, rfl, ?_⟩ | refine ⟨rfl, ?_⟩))
local macro_rules | `(tactic| walk_at "g") => `(tactic| repeat (first | refine ⟨_, _, rfl, rfl, ?_⟩ | refine ⟨_, _, rfl, ?_⟩ | refine ⟨rfl, ?_⟩ | refine Gh.now ?_ | refine ⟨_, rfl, ?_⟩))
local macro_rules | `(tactic| walk_at "len") => `(tactic| first | (intro hh; obtain ⟨e, _⟩ := hh; exact congrArg List.length e) | (intro hh; obtain ⟨_, e, _⟩ := hh; exact congrArg List.length e) | (intro hh; obtain ⟨_, _, e, _⟩ := hh; exact congrArg List.length e) | (intro hh; obtain ⟨_, _, _, e, _⟩ := hh; exact congrArg List.length e) | (intro hh; obtain ⟨_, _, _, _, e, _⟩ := hh; exact congrArg List.length e) | (intro hh; obtain ⟨_, _, _, _, _, e, _⟩ := hh; exact congrArg List.length e) | (intro hh; obtain ⟨_, _, _, _, _, _, e, _⟩ := hh; exact congrArg List.length e) | (intro hh; obtain ⟨_, _, _, _, _, _, _, e, _⟩ := hh; exact congrArg List.length e) | (intro hh; obtain ⟨_, _, _, _, _, _, _, _, e, _⟩ := hh; exact congrArg List.length e) | (intro hh; obtain ⟨_, _, _, _, _, _, _, _, _, e, _⟩ := hh; exact congrArg List.length e) | (intro hh; obtain ⟨_, _, _, _, _, _, _, _, _, _, e, _⟩ := hh; exact congrArg List.length e) | (intro hh; obtain ⟨_, _, _, _, _, _, _, _, _, _, _, e, _⟩ := hh; exact congrArg List.length e) | (intro hh; obtain ⟨_, _, _, _, _, _, _, _, _, _, _, _, e, _⟩ := hh; exact congrArg List.length e))
variable {P : Program} {w : World} {K : PySem.W.Frag} {mg : Str → Option Value} {base : Heap}

/-- the lefts that a meter's stands have -/
inductive Rch (M : Mt) : Int → Prop where
  | first : Rch M M.first
  | step {l : Int} {v : Nat} (h : Rch M l) (hv : v < 10) : Rch M (M.goal l v)
theorem Mt.Ok.goal {M : Mt} (o : M.Ok) {l : Int} (h : 1 ≤ l ∧ l ≤ 10) (v : Nat) : 1 ≤ M.goal l v ∧ M.goal l v ≤ 10 := by
  have := o.wt0 v
  have := o.d1
  have := o.d2
  unfold Mt.goal
  split
  · omega
  · have h1 := Int.emod_lt_of_pos (M.wt v - l) (show 0 < M.drop by omega)
    have h2 := Int.emod_nonneg (M.wt v - l) (show M.drop ≠ 0 by omega)
    omega
theorem Rch.bd {M : Mt} (o : M.Ok) {l : Int} (h : Rch M l) : 1 ≤ l ∧ l ≤ 10 := by
  induction h with
  | first => exact ⟨o.f1, o.f2⟩
  | step _ _ ih => exact o.goal ih _
/-- the list of a stand's steps -/
def StepsL (H : Hp) (M : Mt) (l : Int) (v : V) : Prop := ∃ la xs, v = .ref la ∧ Ls H la xs ∧ xs.length = 10 ∧ ∀ i, i < 10 → ∃ sa, xs[i]? = some (.ref sa) ∧ StepAt H sa M l i
theorem StepsL.px {H H' : Hp} {M : Mt} {l : Int} {v : V} (e : Px H H') (h : StepsL H M l v) : StepsL H' M l v := by
  obtain ⟨la, xs, h1, h2, h3, h4⟩ := h
  exact ⟨la, xs, h1, h2.px e, h3, fun i hi => (h4 i hi).elim fun sa h => ⟨sa, h.1, h.2.px e⟩⟩
/-- the steps' dict, complete -/
def StepsD (P : Program) (w : World) (H : Hp) (ad : Addr) (M : Mt) : Prop := ∃ o es, H ad = some (.frz o (dNo P w ad es)) ∧ KeysOk H es ∧ ∀ l, Rch M l → ∃ v, lookE es (kS l) = some v ∧ StepsL H M l v
theorem StepsD.px {P : Program} {w : World} {H H' : Hp} {ad : Addr} {M : Mt} (e : Px H H') (h : StepsD P w H ad M) : StepsD P w H' ad M := by
  obtain ⟨o, es, h1, h2, h3⟩ := h
  exact ⟨o, es, e _ _ h1 True.intro, h2.px e, fun l hl => (h3 l hl).elim fun v h => ⟨v, h.1, h.2.px e⟩⟩
def MetAt (P : Program) (w : World) (K : PySem.W.Frag) (H : Hp) (m : Addr) (M : Mt) : Prop := ∃ ad, MetI K H m M ad ∧ StepsD P w H ad M
theorem MetAt.px {P : Program} {w : World} {K : PySem.W.Frag} {H H' : Hp} {m : Addr} {M : Mt} (e : Px H H') (h : MetAt P w K H m M) : MetAt P w K H' m M := h.elim fun ad h => ⟨ad, h.1.px e, h.2.px e⟩
/-- all but x stands -/
def Ob (x : Addr) (H H' : Hp) : Prop := ∀ b o, b ≠ x → H b = some o → H' b = some o
theorem Ob.of {x : Addr} {H H' : Hp} (e : Same H H') : Ob x H H' := fun b o _ h => e b o h
theorem Ob.trans {x : Addr} {H H1 H2 : Hp} (a : Ob x H H1) (b : Ob x H1 H2) : Ob x H H2 := fun c o n h => b c o n (a c o n h)
theorem Ob.at {x : Addr} {H : Hp} {o : HO} : Ob x H (upd H x o) := fun b u n h => by rw [upd_ne n]; exact h
theorem Ob.mut {x p : Addr} {H H' : Hp} {o : HO} (e : Ob x H H') (h : H p = none) : Ob x H (upd H' p o) := fun b u n ha => by
  rw [upd_ne (ne_of_none ha h)]
  exact e b u n ha
theorem TabAt.ob {K : PySem.W.Frag} {H H' : Hp} {x t C dx : Addr} {ns : List Int} (hx : H x = some (.ins C dx [])) (e : Ob x H H') (h : TabAt K H t ns) : TabAt K H' t ns := by
  obtain ⟨⟨d2, r, h1, h2⟩, h3⟩ := h
  have n1 : t ≠ x := fun z => by rw [z, hx] at h1; cases h1
  have n2 : r ≠ x := fun z => by rw [z, hx] at h2; cases h2
  exact ⟨⟨d2, r, e _ _ n1 h1, e _ _ n2 h2⟩, h3⟩
def mis (es : List Ent) : Nat := ((List.range 11).filter fun l : Nat => (lookE es (kS (l : Int))).isNone).length
theorem mis_lt {es : List Ent} {l : Int} {b : Addr} {v : V} (h : 1 ≤ l ∧ l ≤ 10) (hn : lookE es (kS l) = none) : mis (putE es (kS l) b v) < mis es := by
  refine filter_lt (fun x _ hx => ?_) ⟨l.toNat, by rw [List.mem_range]; omega, ?_, ?_⟩
  · rw [look_put] at hx
    by_cases e : kS l = kS (x : Int)
    · rw [if_pos e] at hx
      cases hx
    · rw [if_neg e] at hx
      exact hx
  · rw [show ((l.toNat : Nat) : Int) = l by omega, hn]
    rfl
  · rw [show ((l.toNat : Nat) : Int) = l by omega, look_put, if_pos rfl]
    rfl
/-- a list of objects -/
theorem refs_of : ∀ (gs : List V) (R : Nat → Addr → Prop), (∀ j y, gs[j]? = some y → ∃ g, y = .ref g ∧ R j g) → ∃ gas : List Addr, gs = gas.map V.ref ∧ ∀ j g, gas[j]? = some g → R j g
  | [], _, _ => ⟨[], rfl, fun j g h => by simp at h⟩
  | y :: r, R, h => by
    obtain ⟨g, rfl, hg⟩ := h 0 y rfl
    obtain ⟨gas, rfl, hr⟩ := refs_of r (fun j g => R (j + 1) g) fun j y hy => h (j + 1) y (by simpa using hy)
    refine ⟨g :: gas, rfl, fun j g' hj => ?_⟩
    cases j with
    | zero => cases hj; exact hg
    | succ j => exact hr j g' (by simpa using hj)
/-- in the midst of the making -/
structure Mk2 (P : Program) (w : World) (M : Mt) (ad la : Addr) (H : Hp) (es : List Ent) (as : List Addr) : Prop where
  d : H ad = some (dNo P w ad es)
  ko : KeysOk H es
  ln : H la = some (.lst (as.map V.ref))
  st : ∀ a ∈ as, ∃ l, St H a l ∧ Rch M l
  ok : ∀ l v, lookE es (kS l) = some v → Rch M l ∧ StepsL H M l v
  cl : ∀ l, (lookE es (kS l)).isSome = true → ∀ v, v < 10 → (lookE es (kS (M.goal l v))).isSome = true ∨ ∃ a ∈ as, St H a (M.goal l v)
  fi : (lookE es (kS M.first)).isSome = true ∨ ∃ a ∈ as, St H a M.first
  s1 : es.length + mis es ≤ 11
  s2 : as.length + 11 * mis es ≤ 200
def pr_Meter_init (P : Program) (w : World) (K : PySem.W.Frag) : Pr := fun vs H Q => ∃ (x l t tb dx : Addr) (M : Mt), vs = [.ref x, .int M.first, .int M.drop, .ref l, .ref t, .int M.flag, .int M.each] ∧ M.Ok ∧ H x = some (.ins (CM K) dx []) ∧ H l = some (.lst [.ref tb]) ∧ TabAt K H tb M.wo ∧ H t = some (.lst []) ∧
  ∀ H', Ob x H H' → MetAt P w K H' x M → Q .non H'
theorem ok_Meter_init (T : Wd K mg base) : ∃ fd, FunD K "__init__" "Meter.__init__" (defArgs s_Meter_init) (defBody s_Meter_init) (defScope s_Meter_init) (He5.DefA.dvs K d_Meter_init) [("flag", .int 0), ("each", .int 1)] (He.ma K (He.ga K "Meter") "__init__") fd ∧ FnOk P w K mg base CX0 7 (He.ma K (He.ga K "Meter") "__init__") fd ["self", "first", "drop", "tables", "turns", "flag", "each"] (pr_Meter_init P w K).sp := by
  obtain ⟨fd, F0⟩ := T.fdef 53 (d := d_Meter_init)
  have F : FunD K "__init__" "Meter.__init__" (defArgs s_Meter_init) (defBody s_Meter_init) (defScope s_Meter_init) (He5.DefA.dvs K d_Meter_init) [("flag", .int 0), ("each", .int 1)] (He.ma K (He.ga K "Meter") "__init__") fd := F0
  refine ⟨fd, F, ok_mk (N := N_Meter_init) F sc_Meter_init (fun vs H Q => by walk_at "len") fun cdv A outer s H vs Q E hr h => ?_⟩
  refine ⟨_, (pss_cons (ps_expr (pe_R (ok_check_number T) (hr.mono (by decide)) T.g_check_number T.k_check_number (pa_cons (pv 1) (pa_cons pe_int (pa_cons (C8.pe_gc rfl T.c_GREATEST_DROP) pa_nil))))) (pss_cons (ps_expr (pe_R (ok_check_number T) (hr.mono (by decide)) T.g_check_number T.k_check_number (pa_cons (pv 2) (pa_cons pe_int (pa_cons (C8.pe_gc rfl T.c_GREATEST_DROP) pa_nil))))) (pss_cons (ps_if (PW.pt (pw_or (pt_not (pt_val (pe_callB call_isi (by rfl) T.f_isinstance (by decide +kernel) (pa_cons (pv 3) (pa_cons (pe_bltn (v := .ty "list") (u := .type "list") (by rfl) T.f_list (by decide +kernel) rfl) pa_nil))))) (pw_or1 (pt_not (pt_chain op_le op_le pe_int (pe_callB (call_lenK (K := K)) (by rfl) T.f_len (by decide +kernel) (pa_cons (pv 3) pa_nil)) (C8.pe_gc rfl T.c_MOST_TABLES)))))) (pss_one ps_never) pss_nil) (pss_cons (ps_if (pt_not (pt_val (pe_callB (cr_all rfl) (by rfl) T.f_all (by decide +kernel) (pa_cons (pe_lc (own := [("table", 9)]) rfl sc_Meter_init.nd (pi_listK (K := K) (pv 3)) (blkOk_by (own := [("table", 9)]) (N := N_Meter_init) (sc := defScope s_Meter_init) (by decide +kernel)) (fun _ _ _ _ _ => (pg_name (i := 9) sc_Meter_init.nd rfl (Or.inl rfl))) (fun _ _ _ _ _ => pts_nil) (fun _ _ _ _ _ => (pe_callB (C8.call_isC T.isc_Table) (by rfl) T.f_isinstance (by decide +kernel) (pa_cons (pv 9) (pa_cons (C8.pe_gc (v := .ref (He.ga K "Table")) rfl ⟨_, T.g_Table, rfl⟩) pa_nil))))) pa_nil)))) (pss_one ps_never) pss_nil) (pss_cons (ps_if (pt_not (pt_val (pe_R (ok_are_turns T) (hr.mono (by decide)) T.g_are_turns T.k_are_turns (pa_cons (pv 4) (pa_cons (pe_op op_sub (pe_callB (call_lenK (K := K)) (by rfl) T.f_len (by decide +kernel) (pa_cons (pv 3) pa_nil)) pe_int) pa_nil))))) (pss_one ps_never) pss_nil) (pss_cons (ps_expr (pe_R (ok_check_number T) (hr.mono (by decide)) T.g_check_number T.k_check_number (pa_cons (pv 5) (pa_cons pe_int (pa_cons (C8.pe_gc rfl T.c_GREATEST_FLAG) pa_nil))))) (pss_cons (ps_expr (pe_R (ok_check_number T) (hr.mono (by decide)) T.g_check_number T.k_check_number (pa_cons (pv 6) (pa_cons pe_int (pa_cons (C8.pe_gc rfl T.c_GREATEST_EACH) pa_nil))))) (pss_cons (ps_fld (pv 0) (pe_tup (pa_cons (pv 1) (pa_cons (pv 2) (pa_cons (pv 5) (pa_cons (pv 6) pa_nil))))) rfl) (pss_cons (ps_fld (pv 0) (pe_callTy call_tuple_of (by rfl) T.f_tuple (by decide +kernel) (pa_cons (pv 3) pa_nil)) rfl) (pss_cons (ps_fld (pv 0) (pe_callTy call_tuple_of (by rfl) T.f_tuple (by decide +kernel) (pa_cons (pv 4) pa_nil)) rfl) (pss_cons (ps_fld (pv 0) pe_dnNew rfl) (pss_gcons (ps_set (i := 7) sc_Meter_init.nd rfl (Or.inl rfl) (pe_lst (pa_cons (pe_P (ok_Meter_start T) (hr.mono (by decide)) T.cls_Meter T.p_Meter_start (pv 0)) pa_nil))) (pss_gcons (ps_while PassesOwn.never (pt_truth (pv 7) (by intro _; rfl)) (pss_gcons (ps_set (i := 8) sc_Meter_init.nd rfl (Or.inr rfl) (pe_bm0 PySem.F.plainAttrs_list PySem.F.slot_list_pop PySem.F.type_list_pop mt_pop (pv 7))) (pss_one (ps_if (pt_cmpR (op_dnNotIn (hu64 hr) : OpR _ _ (rDnIn P w true)) (pv 8) (pe_fld (pv 0) rfl) (by rfl)) (pss_gcons (ps_asg (pe_lc (own := [("speed", 10)]) rfl sc_Meter_init.nd (pi_range1 rfl T.f_range (pa_cons (C8.pe_gc rfl T.c_SPEEDS) pa_nil)) (blkOk_by (own := [("speed", 10)]) (N := N_Meter_init) (sc := defScope s_Meter_init) (by decide +kernel)) (fun _ _ _ _ _ => (pg_name (i := 10) sc_Meter_init.nd rfl (Or.inl rfl))) (fun _ _ _ _ _ => pts_nil) (fun _ _ _ _ _ => (pe_M (ok_Meter_step_from T) (hr.mono (by decide)) T.cls_Meter T.m_Meter_step_from (pv 0) (pa_cons (pv 8) (pa_cons (pv 10) pa_nil))))) (pg_sub (pe_fld (pv 0) rfl) (pv 8) (set_dn (hu64 hr)))) (pss_one (ps_expr (pe_bm PySem.F.plainAttrs_list PySem.F.slot_list_extend PySem.F.type_list_extend mt_extend (pv 7) (pa_cons (pe_lc (own := [("goal", 11), ("many", 12)]) rfl sc_Meter_init.nd (pi_listK (K := K) (pe_dnK (P := P) (w := w) (hu64 hr) (pe_fld (pv 0) rfl) (pv 8))) (blkOk_by (own := [("goal", 11), ("many", 12)]) (N := N_Meter_init) (sc := defScope s_Meter_init) (by decide +kernel)) (fun _ _ _ _ _ => (pg_tupK (n := 2) rfl (pgs_cons (pg_name (i := 11) sc_Meter_init.nd rfl (Or.inl rfl)) (pgs_cons (pg_name (i := 12) sc_Meter_init.nd rfl (Or.inl rfl)) pgs_nil)))) (fun _ _ _ _ _ => pts_nil) (fun _ _ _ _ _ => (pv 11))) pa_nil))))) pss_nil)))) pss_nil))))))))))))), ?_⟩
  obtain ⟨x, l, t, tb, dx, M, rfl, o, hx, hl, htb, ht, q⟩ := h
  have nl : l ≠ x := fun z => by rw [z, hx] at hl; cases hl
  have nt : t ≠ x := fun z => by rw [z, hx] at ht; cases ht
  walk_at "w"
  refine ⟨_, _, _, rfl, o.f1, by have := o.f2; omega, ?_⟩
  walk_at "w"
  refine ⟨_, _, _, rfl, o.d1, by have := o.d2; omega, ?_⟩
  walk_at "w"
  refine ⟨_, _, _, _, _, rfl, .ty _, .base (.lst hl), rfl, ?_⟩
  walk_at "w"
  refine ⟨_, _, rfl, .inl (sqL_of hl), ?_⟩
  walk_at "w"
  refine ⟨⟨_, sqL_of hl⟩, fun D hD => ?_⟩
  refine lc_map [.bl true] hD (fun i H' hi c => ?_) fun H1 e1 hl1 => ⟨⟨_, sqL_of (e1 _ _ hl), Nat.le_refl _⟩, ?_⟩
  · obtain rfl : i = 0 := by simpa using hi
    refine ⟨itl_go (sqL_of (c.same _ _ hl)) Nat.one_pos, fun y H'' hy => ?_⟩
    obtain ⟨rfl, hy⟩ := hy
    obtain rfl : V.ref tb = y := Option.some.inj (hy _ (sqL_of (c.same _ _ hl)))
    refine ⟨rfl, ?_⟩
    obtain ⟨⟨d2, r, t1, t2⟩, _⟩ := htb.px c.px
    walk_at "w"
    refine ⟨_, _, _, rfl, t1, ?_⟩
    exact CR.fin Rz.mono c (by omega) (Same.refl _) rfl
  walk_at "w"
  refine ⟨_, [true], rfl, sqL_of hl1, ?_⟩
  walk_at "w"
  refine ⟨_, _, rfl, .inl (sqL_of (e1 _ _ hl)), ?_⟩
  walk_at "w"
  refine ⟨e1 _ _ ht, fun H2 e2 => ?_⟩
  walk_at "w"
  refine ⟨_, _, _, rfl, o.g1, o.g2, ?_⟩
  walk_at "w"
  refine ⟨_, _, _, rfl, o.e1, o.e2, ?_⟩
  walk_at "w"
  have e12 := e1.trans e2
  have o2 : Ob x H H2 := .of e12
  have hx2 := e12 _ _ hx
  clear e2
  refine ⟨sz, fun an han => ?_⟩
  have nan : an ≠ x := fun z => by rw [z, hx2] at han; cases han
  refine ⟨_, rfl, _, _, _, _, rfl, by rw [upd_ne nan.symm]; exact hx2, T.cls_Meter, T.n_Meter_own_numbers, Nat.le_of_ble_eq_true rfl, ?_⟩
  have o3 : Ob x H (upd (upd H2 an (.tup [.int M.first, .int M.drop, .int M.flag, .int M.each])) x (.ins (CM K) dx [("own_numbers", .ref an)])) := (o2.mut (fresh_of e12 han)).trans Ob.at
  have han3 : upd (upd H2 an (.tup [.int M.first, .int M.drop, .int M.flag, .int M.each])) x (.ins (CM K) dx [("own_numbers", .ref an)]) an = some (.tup [.int M.first, .int M.drop, .int M.flag, .int M.each]) := by rw [upd_ne nan, upd_same]
  have hx3 : upd (upd H2 an (.tup [.int M.first, .int M.drop, .int M.flag, .int M.each])) x (.ins (CM K) dx [("own_numbers", .ref an)]) x = some (.ins (CM K) dx [("own_numbers", .ref an)]) := upd_same
  show tSeq _ _ _ _ (upd (upd H2 an (.tup [.int M.first, .int M.drop, .int M.flag, .int M.each])) x (.ins (CM K) dx [("own_numbers", .ref an)]))
  generalize upd (upd H2 an (.tup [.int M.first, .int M.drop, .int M.flag, .int M.each])) x (.ins (CM K) dx [("own_numbers", .ref an)]) = H3 at o3 han3 hx3 ⊢
  walk_at "w"
  refine ⟨_, _, rfl, .inl ⟨sqL_of (o3 _ _ nl hl), fun a2 ha2 => ?_⟩⟩
  have na2 : a2 ≠ x := fun z => by rw [z, hx3] at ha2; cases ha2
  refine ⟨_, rfl, _, _, _, _, rfl, by rw [upd_ne na2.symm]; exact hx3, T.cls_Meter, T.n_Meter_own_tables, Nat.le_of_ble_eq_true rfl, ?_⟩
  have fr2 : H a2 = none := by
    cases h1 : H a2 with
    | none => rfl
    | some u => rw [o3 _ _ na2 h1] at ha2; cases ha2
  have o4 : Ob x H (upd (upd H3 a2 (.tup [.ref tb])) x (.ins (CM K) dx [("own_numbers", .ref an), ("own_tables", .ref a2)])) := (o3.mut fr2).trans Ob.at
  have han4 : upd (upd H3 a2 (.tup [.ref tb])) x (.ins (CM K) dx [("own_numbers", .ref an), ("own_tables", .ref a2)]) an = some (.tup [.int M.first, .int M.drop, .int M.flag, .int M.each]) := by
    rw [upd_ne nan, upd_ne (fun z => by rw [← z, han3] at ha2; cases ha2)]
    exact han3
  have ha24 : upd (upd H3 a2 (.tup [.ref tb])) x (.ins (CM K) dx [("own_numbers", .ref an), ("own_tables", .ref a2)]) a2 = some (.tup [.ref tb]) := by rw [upd_ne na2, upd_same]
  have hx4 : upd (upd H3 a2 (.tup [.ref tb])) x (.ins (CM K) dx [("own_numbers", .ref an), ("own_tables", .ref a2)]) x = some (.ins (CM K) dx [("own_numbers", .ref an), ("own_tables", .ref a2)]) := upd_same
  show tSeq _ _ _ _ (upd (upd H3 a2 (.tup [.ref tb])) x (.ins (CM K) dx [("own_numbers", .ref an), ("own_tables", .ref a2)]))
  generalize upd (upd H3 a2 (.tup [.ref tb])) x (.ins (CM K) dx [("own_numbers", .ref an), ("own_tables", .ref a2)]) = H4 at o4 han4 ha24 hx4 ⊢
  walk_at "w"
  refine ⟨_, _, rfl, .inl ⟨sqL_of (o4 _ _ nt ht), fun a3 ha3 => ?_⟩⟩
  have na3 : a3 ≠ x := fun z => by rw [z, hx4] at ha3; cases ha3
  refine ⟨_, rfl, _, _, _, _, rfl, by rw [upd_ne na3.symm]; exact hx4, T.cls_Meter, T.n_Meter_own_turns, Nat.le_of_ble_eq_true rfl, ?_⟩
  have fr3 : H a3 = none := by
    cases h1 : H a3 with
    | none => rfl
    | some u => rw [o4 _ _ na3 h1] at ha3; cases ha3
  have o5 : Ob x H (upd (upd H4 a3 (.tup [])) x (.ins (CM K) dx [("own_numbers", .ref an), ("own_tables", .ref a2), ("own_turns", .ref a3)])) := (o4.mut fr3).trans Ob.at
  have han5 : upd (upd H4 a3 (.tup [])) x (.ins (CM K) dx [("own_numbers", .ref an), ("own_tables", .ref a2), ("own_turns", .ref a3)]) an = some (.tup [.int M.first, .int M.drop, .int M.flag, .int M.each]) := by
    rw [upd_ne nan, upd_ne (fun z => by rw [← z, han4] at ha3; cases ha3)]
    exact han4
  have ha25 : upd (upd H4 a3 (.tup [])) x (.ins (CM K) dx [("own_numbers", .ref an), ("own_tables", .ref a2), ("own_turns", .ref a3)]) a2 = some (.tup [.ref tb]) := by
    rw [upd_ne na2, upd_ne (fun z => by rw [← z, ha24] at ha3; cases ha3)]
    exact ha24
  have ha35 : upd (upd H4 a3 (.tup [])) x (.ins (CM K) dx [("own_numbers", .ref an), ("own_tables", .ref a2), ("own_turns", .ref a3)]) a3 = some (.tup []) := by rw [upd_ne na3, upd_same]
  have hx5 : upd (upd H4 a3 (.tup [])) x (.ins (CM K) dx [("own_numbers", .ref an), ("own_tables", .ref a2), ("own_turns", .ref a3)]) x = some (.ins (CM K) dx [("own_numbers", .ref an), ("own_tables", .ref a2), ("own_turns", .ref a3)]) := upd_same
  show tSeq _ _ _ _ (upd (upd H4 a3 (.tup [])) x (.ins (CM K) dx [("own_numbers", .ref an), ("own_tables", .ref a2), ("own_turns", .ref a3)]))
  generalize upd (upd H4 a3 (.tup [])) x (.ins (CM K) dx [("own_numbers", .ref an), ("own_tables", .ref a2), ("own_turns", .ref a3)]) = H5 at o5 han5 ha25 ha35 hx5 ⊢
  intro ad had
  have nad : ad ≠ x := fun z => by rw [z, hx5] at had; cases had
  refine ⟨_, rfl, _, _, _, _, rfl, by rw [upd_ne nad.symm]; exact hx5, T.cls_Meter, T.n_Meter_own_steps, Nat.le_of_ble_eq_true rfl, ?_⟩
  have fr5 : H ad = none := by
    cases h1 : H ad with
    | none => rfl
    | some u => rw [o5 _ _ nad h1] at had; cases had
  have o6 : Ob x H (upd (upd H5 ad (dNo P w ad [])) x (.ins (CM K) dx (fsM an a2 a3 ad))) := (o5.mut fr5).trans Ob.at
  have had6 : upd (upd H5 ad (dNo P w ad [])) x (.ins (CM K) dx (fsM an a2 a3 ad)) ad = some (dNo P w ad []) := by rw [upd_ne nad, upd_same]
  have mi6 : MetI K (upd (upd H5 ad (dNo P w ad [])) x (.ins (CM K) dx (fsM an a2 a3 ad))) x M ad := by
    refine ⟨o, dx, an, a2, a3, tb, upd_same, ?_, ?_, htb.ob hx o6, ?_⟩
    · rw [upd_ne nan, upd_ne (fun z => by rw [← z, han5] at had; cases had)]
      exact han5
    · rw [upd_ne na2, upd_ne (fun z => by rw [← z, ha25] at had; cases had)]
      exact ha25
    · rw [upd_ne na3, upd_ne (fun z => by rw [← z, ha35] at had; cases had)]
      exact ha35
  show Ends.nx _ _ (upd (upd H5 ad (dNo P w ad [])) x (.ins (CM K) dx (fsM an a2 a3 ad)))
  generalize upd (upd H5 ad (dNo P w ad [])) x (.ins (CM K) dx (fsM an a2 a3 ad)) = H6 at o6 had6 mi6 ⊢
  obtain ⟨_, dx', an', a2', a3', tb', x6, _⟩ := id mi6
  refine ⟨_, rfl, _, _, _, rfl, x6, _, _, _, rfl, mi6, fun s0 H7 hs0 e7 h7 => ?_⟩
  refine ⟨sz, fun la hla => .now ?_⟩
  have frl : H la = none := by
    cases h1 : H la with
    | none => rfl
    | some u =>
      have nx : la ≠ x := fun z => by rw [z, hx] at h1; rw [z, e7 _ _ x6] at hla; cases hla
      rw [e7 _ _ (o6 _ _ nx h1)] at hla
      cases hla
  have m0 : mis [] = 11 := by decide +kernel
  have e78 : Same H6 (upd H7 la (.lst [.ref s0])) := e7.trans (same_new hla)
  refine ⟨fun m σ H' => ∃ (sv : Option V) (es : List Ent) (as : List Addr), σ = [some (.ref x), some (.int M.first), some (.int M.drop), some (.ref l), some (.ref t), some (.int M.flag), some (.int M.each), some (.ref la), sv, none, none, none, none] ∧ m = 11 * mis es + as.length ∧ Ob x H H' ∧ Px H6 H' ∧ Mk2 P w M ad la H' es as,
    ⟨_, none, [], [s0], rfl, rfl, o6.trans (.of e78), .of _ _ e78, ?_⟩, ?_⟩
  · have hs08 : St (upd H7 la (.lst [.ref s0])) s0 M.first := (same_new hla) _ _ h7
    exact ⟨e78 _ _ had6, (fun _ z => nomatch z), upd_same, (fun a ha => by rw [List.mem_singleton.mp ha]; exact ⟨_, hs08, .first⟩), (fun l v z => by cases z), (fun l z => by cases z), .inr ⟨s0, List.mem_singleton.mpr rfl, hs08⟩, by rw [m0]; exact Nat.le_refl 11, by rw [m0]; exact Nat.le_of_ble_eq_true rfl⟩
  rintro m σ H8 ⟨sv, es, as, rfl, rfl, o8, p8, k⟩
  have mi8 := mi6.px p8
  have x8 := p8 _ _ x6 True.intro
  walk_at "w"
  refine ⟨_, .inl ⟨_, sqL_of k.ln, rfl⟩, ?_⟩
  rcases List.eq_nil_or_concat as with rfl | ⟨as', a, ea⟩
  · refine iF rfl ?_
    refine .frz k.d True.intro fun ob => .now ?_
    refine q _ (o8.mut fr5) ⟨ad, mi8.px (.frz k.d dNo_imm), ob, es, upd_same, k.ko.px (.frz k.d dNo_imm), ?_⟩
    · intro l2 hl2
      have all : ∀ l, Rch M l → (lookE es (kS l)).isSome = true := by
        intro l3 h3
        induction h3 with
        | first =>
          rcases k.fi with h | ⟨a, ha, _⟩
          · exact h
          · cases ha
        | step h hv ih =>
          rcases k.cl _ ih _ hv with h | ⟨a, ha, _⟩
          · exact h
          · cases ha
      obtain ⟨v, hv⟩ := Option.isSome_iff_exists.mp (all l2 hl2)
      exact ⟨v, hv, (k.ok l2 v hv).2.px (.frz k.d dNo_imm)⟩
  · rw [List.concat_eq_append] at ea
    subst ea
    refine iT (by simp) ?_
    obtain ⟨l1, sl1, rl1⟩ := k.st a (List.mem_append_right _ (List.mem_singleton.mpr rfl))
    have hl1 := rl1.bd o
    refine ⟨_, fun σ' H' h => h, ?_⟩
    refine ⟨_, rfl, .inl ⟨rfl, _, sqL_of k.ln⟩, la, (as' ++ [a]).map V.ref, .ref a, rfl, rfl, k.ln, by simp, .now ?_⟩
    have ed : ((as' ++ [a]).map V.ref).dropLast = as'.map V.ref := by simp
    rw [ed]
    have nal : ad ≠ la := fun z => by have h1 := k.d; rw [z, k.ln] at h1; cases h1
    have p9 : Px H8 (upd H8 la (.lst (as'.map V.ref))) := Px.mut k.ln (fun z => z)
    have d9 : upd H8 la (.lst (as'.map V.ref)) ad = some (dNo P w ad es) := by rw [upd_ne nal]; exact k.d
    have l9 : upd H8 la (.lst (as'.map V.ref)) la = some (.lst (as'.map V.ref)) := upd_same
    have o9 : Ob x H (upd H8 la (.lst (as'.map V.ref))) := o8.mut frl
    generalize upd H8 la (.lst (as'.map V.ref)) = H9 at p9 d9 l9 o9 ⊢
    have q9 := p8.trans p9
    have x9 := p9 _ _ x8 True.intro
    walk_at "w"
    refine ⟨_, _, _, _, _, rfl, x9, T.cls_Meter, T.n_Meter_own_steps, rfl, ?_⟩
    refine ⟨_, _, es, kS l1, rfl, rfl, ⟨.of d9, k.ko.px p9⟩, (sl1.px p9).key, kS_dp _, ?_⟩
    walk_at "w"
    cases hk : lookE es (kS l1) with
    | some v0 =>
      refine iF rfl ?_
      refine ⟨11 * mis es + as'.length, by simp, some (.ref a), es, as', rfl, rfl, o9, q9, d9, k.ko.px p9, l9, fun b hb => (k.st b (List.mem_append_left _ hb)).elim fun l h => ⟨l, h.1.px p9, h.2⟩, fun l v h => ⟨(k.ok l v h).1, (k.ok l v h).2.px p9⟩, fun l h v hv => ?_, ?_, k.s1, by have := k.s2; simp at this; omega⟩
      · rcases k.cl l h v hv with h | ⟨b, hb, hs⟩
        · exact .inl h
        · rcases List.mem_append.mp hb with hb | hb
          · exact .inr ⟨b, hb, hs.px p9⟩
          · rw [List.mem_singleton.mp hb] at hs
            unfold St at hs sl1
            rw [sl1] at hs
            have : l1 = M.goal l v := by cases hs; rfl
            rw [← this, hk]
            exact .inl rfl
      · rcases k.fi with h | ⟨b, hb, hs⟩
        · exact .inl h
        · rcases List.mem_append.mp hb with hb | hb
          · exact .inr ⟨b, hb, hs.px p9⟩
          · rw [List.mem_singleton.mp hb] at hs
            unfold St at hs sl1
            rw [sl1] at hs
            have : l1 = M.first := by cases hs; rfl
            rw [← this, hk]
            exact .inl rfl
    | none =>
      refine iT rfl ?_
      walk_at "w"
      refine ⟨by decide, by decide, fun D hD => ?_⟩
      refine lc_rel 10 (fun v y H => ∃ sa, y = .ref sa ∧ StepAt H sa M l1 v) hD (fun i H' hi c => ?_) fun acc H10 hac e10 hl10 hR => ⟨Nat.le_refl 10, ?_⟩
      · refine ⟨hi, fun y H'' hy => ?_⟩
        obtain ⟨rfl, rfl⟩ := hy
        rw [Int.zero_add]
        refine ⟨rfl, ?_⟩
        have pc := c.px
        walk_at "w"
        refine ⟨_, _, _, rfl, pc _ _ x9 True.intro, rfl, ?_⟩
        refine ⟨_, rfl, _, rfl, _, _, _, M, l1, i, rfl, (mi6.px q9).px pc, (sl1.px p9).px pc, hi, fun sa H4 _ e4 hst => ?_⟩
        exact CR.fin (fun i y H H' e h => h.elim fun sa h => ⟨sa, h.1, h.2.px e⟩) c (by omega) e4 ⟨sa, rfl, hst⟩
      have p10 : Px H9 H10 := .of _ _ e10
      have x10 := e10 _ _ x9
      have d10 := e10 _ _ d9
      have nDa : D ≠ ad := fun z => by rw [z, d9] at hD; cases hD
      have nDl : D ≠ la := fun z => by rw [z, l9] at hD; cases hD
      walk_at "w"
      refine ⟨_, _, _, _, _, rfl, x10, T.cls_Meter, T.n_Meter_own_steps, rfl, ?_⟩
      refine ⟨_, rfl, ad, a, es, kS l1, rfl, rfl, d10, (k.ko.px p9).px p10, ((sl1.px p9).px p10).key, kS_dp _, ?_, ?_⟩
      · exact szL (by have := k.s1; omega)
      have ko10 : KeysOk H10 (putE es (kS l1) a (.ref D)) := ((k.ko.px p9).px p10).put ((sl1.px p9).px p10).key
      have p11 : Px H10 (upd H10 ad (dNo P w ad (putE es (kS l1) a (.ref D)))) := Px.mut d10 dNo_imm
      have d11 : upd H10 ad (dNo P w ad (putE es (kS l1) a (.ref D))) ad = some (dNo P w ad (putE es (kS l1) a (.ref D))) := upd_same
      have D11 : upd H10 ad (dNo P w ad (putE es (kS l1) a (.ref D))) D = some (.lst acc) := by rw [upd_ne nDa]; exact hl10
      have l11 : upd H10 ad (dNo P w ad (putE es (kS l1) a (.ref D))) la = some (.lst (as'.map V.ref)) := by rw [upd_ne nal.symm]; exact e10 _ _ l9
      have o11 : Ob x H (upd H10 ad (dNo P w ad (putE es (kS l1) a (.ref D)))) := (o9.trans (.of e10)).mut fr5
      show Gh (upd H10 ad (dNo P w ad (putE es (kS l1) a (.ref D)))) _
      generalize upd H10 ad (dNo P w ad (putE es (kS l1) a (.ref D))) = H11 at p11 d11 D11 l11 o11 ⊢
      refine .frz D11 True.intro fun ob => .now ?_
      have p12 : Px H11 (upd H11 D (.frz ob (.lst acc))) := Px.frz D11 (fun z => z)
      have d12 : upd H11 D (.frz ob (.lst acc)) ad = some (dNo P w ad (putE es (kS l1) a (.ref D))) := by rw [upd_ne nDa.symm]; exact d11
      have D12 : Ls (upd H11 D (.frz ob (.lst acc))) D acc := Ls.mk'
      have l12 : upd H11 D (.frz ob (.lst acc)) la = some (.lst (as'.map V.ref)) := by rw [upd_ne nDl.symm]; exact l11
      have frD : H D = none := by
        cases h1 : H D with
        | none => rfl
        | some u =>
          have nx : D ≠ x := fun z => by rw [z, x9] at hD; cases hD
          rw [o9 _ _ nx h1] at hD
          cases hD
      have o12 : Ob x H (upd H11 D (.frz ob (.lst acc))) := o11.mut frD
      generalize upd H11 D (.frz ob (.lst acc)) = H12 at p12 d12 D12 l12 o12 ⊢
      have p9' := (p9.trans p10).trans (p11.trans p12)
      have q12 := p8.trans p9'
      have x12 := p9' _ _ x8 True.intro
      have ko12 := ko10.px (p11.trans p12)
      have lk : lookE (putE es (kS l1) a (.ref D)) (kS l1) = some (.ref D) := by rw [look_put, if_pos rfl]
      have acR : ∀ v, v < 10 → ∃ sa, acc[v]? = some (.ref sa) ∧ StepAt H12 sa M l1 v := fun v hv => by
        obtain ⟨sa, h1, h2⟩ := hR v acc[v] (List.getElem?_eq_getElem (by omega))
        exact ⟨sa, by rw [List.getElem?_eq_getElem (by omega), h1], h2.px (p11.trans p12)⟩
      refine ⟨_, rfl, .inl ⟨rfl, _, sqL_of l12⟩, ?_⟩
      walk_at "w"
      refine ⟨_, _, _, _, _, rfl, x12, T.cls_Meter, T.n_Meter_own_steps, rfl, ?_⟩
      refine ⟨_, rfl, ad, a, _, kS l1, _, rfl, rfl, ⟨.of d12, ko12⟩, (sl1.px p9').key, kS_dp _, lk, ?_⟩
      refine ⟨_, rfl, ⟨_, D12.sq⟩, fun D2 hD2 => ?_⟩
      refine lc_rel 10 (fun v y H => ∃ g, y = .ref g ∧ St H g (M.goal l1 v)) hD2 (fun i H' hi c => ?_) fun gs H13 hgs e13 hl13 hR2 => ⟨⟨_, (D12.px (.of _ _ e13)).sq, by omega⟩, ?_⟩
      · refine ⟨itl_go (D12.px c.px).sq (by omega), fun y H'' hy => ?_⟩
        obtain ⟨rfl, hy⟩ := hy
        have hy := hy _ (D12.px c.px).sq
        obtain ⟨sa, h1, g, h2, h3⟩ := acR i hi
        rw [h1] at hy
        obtain rfl : V.ref sa = y := Option.some.inj hy
        refine ⟨_, _, rfl, sqT_of (c.px _ _ h2 True.intro), rfl, ?_⟩
        walk_at "g"
        exact CR.fin (fun i y H H' e h => h.elim fun sa h => ⟨sa, h.1, h.2.px e⟩) c (by omega) (Same.refl _) ⟨g, rfl, h3.px c.px⟩
      have p13 : Px H12 H13 := .of _ _ e13
      obtain ⟨gas, rfl, hga⟩ := refs_of gs _ hR2
      rw [List.length_map] at hgs
      have hgg : ∀ v, v < 10 → ∃ g ∈ gas, St H13 g (M.goal l1 v) := fun v hv => ⟨gas[v], List.getElem_mem (by omega), hga v _ (List.getElem?_eq_getElem (by omega))⟩
      have l13 := e13 _ _ l12
      have d13 := e13 _ _ d12
      have hms := mis_lt (b := a) (v := V.ref D) hl1 hk
      have hpl := put_len es (kS l1) a (.ref D)
      have hs1 := k.s1
      have hs2 := k.s2
      rw [List.length_append, List.length_singleton] at hs2
      walk_at "w"
      refine ⟨la, D2, _, _, rfl, rfl, l13, hl13, by simp; exact Nat.le_trans (by omega : as'.length + gas.length ≤ 1000) (by decide), ?_⟩
      have p14 : Px H13 (upd H13 la (.lst (as'.map V.ref ++ gas.map V.ref))) := Px.mut l13 (fun z => z)
      have pp := p9'.trans (p13.trans p14)
      have pq := p13.trans p14
      refine ⟨_, by simp; omega, some (.ref a), putE es (kS l1) a (.ref D), as' ++ gas, rfl, rfl, (o12.trans (.of e13)).mut frl, p8.trans pp, ?_⟩
      have inP : ∀ l, (lookE es (kS l)).isSome = true → (lookE (putE es (kS l1) a (.ref D)) (kS l)).isSome = true := fun l h => by
        rw [look_put]
        split
        · rfl
        · exact h
      have in1 : (lookE (putE es (kS l1) a (.ref D)) (kS l1)).isSome = true := by rw [lk]; rfl
      have mv : ∀ l, ((lookE es (kS l)).isSome = true ∨ ∃ b ∈ as' ++ [a], St H8 b l) → (lookE (putE es (kS l1) a (.ref D)) (kS l)).isSome = true ∨ ∃ b ∈ as' ++ gas, St (upd H13 la (.lst (as'.map V.ref ++ gas.map V.ref))) b l := by
        rintro l (h | ⟨b, hb, hs⟩)
        · exact .inl (inP l h)
        · rcases List.mem_append.mp hb with hb | hb
          · exact .inr ⟨b, List.mem_append_left _ hb, hs.px pp⟩
          · rw [List.mem_singleton.mp hb] at hs
            unfold St at hs sl1
            rw [sl1] at hs
            have : l1 = l := by cases hs; rfl
            rw [← this]
            exact .inl in1
      refine ⟨by rw [upd_ne nal]; exact d13, ko12.px pq, by rw [upd_same, List.map_append], ?_, ?_, ?_, mv _ k.fi, by omega, by rw [List.length_append]; omega⟩
      · intro b hb
        rcases List.mem_append.mp hb with hb | hb
        · obtain ⟨l, h1, h2⟩ := k.st b (List.mem_append_left _ hb)
          exact ⟨l, h1.px pp, h2⟩
        · obtain ⟨v, hv, e⟩ := List.mem_iff_getElem.mp hb
          rw [← e]
          exact ⟨_, (hga v _ (List.getElem?_eq_getElem hv)).px p14, .step rl1 (by omega)⟩
      · intro l v h
        rw [look_put] at h
        by_cases ek : kS l1 = kS l
        · rw [if_pos ek] at h
          cases h
          rw [← kS_inj ek]
          exact ⟨rl1, D, acc, rfl, D12.px pq, hac, fun v hv => (acR v hv).elim fun sa h => ⟨sa, h.1, h.2.px pq⟩⟩
        · rw [if_neg ek] at h
          exact ⟨(k.ok l v h).1, (k.ok l v h).2.px pp⟩
      · intro l h v hv
        rw [look_put] at h
        by_cases ek : kS l1 = kS l
        · rw [← kS_inj ek]
          obtain ⟨g, h1, h2⟩ := hgg v hv
          exact .inr ⟨g, List.mem_append_right _ h1, h2.px p14⟩
        · rw [if_neg ek] at h
          exact mv _ (k.cl l h v hv)
end Cab
set_option Elab.async false
set_option linter.all false
set_option maxRecDepth 100000
set_option maxHeartbeats 2000000
namespace Cab
open PySem PySem.Spec PyProof.Rows L2
theorem for_go {J : It} {g : TG} {tb : TS} {D : Ends} {σ : L2.St} {H : Hp} (n : Nat) (Pv : Nat → L2.St → Hp → Prop) (h0 : Pv 0 σ H)
    (hs : ∀ i σ H, i < n → Pv i σ H → J.go i H ∧ ∀ x H', J.yld i H x H' → g x σ H' fun σ2 H2 => tb { D with nx := Pv (i + 1), ct := Pv (i + 1), bk := D.nx } σ2 H2) (hd : ∀ σ H, Pv n σ H → J.stop n H ∧ D.nx σ H) :
    ∃ W : Nat → Nat → L2.St → Hp → Prop, (∃ m, W 0 m σ H) ∧ ∀ i m σ H, W i m σ H →
      (J.stop i H ∧ D.nx σ H) ∨ (J.go i H ∧ ∃ N : L2.St → Hp → Prop, (∀ σ' H', N σ' H' → ∃ m', m' < m ∧ W (i + 1) m' σ' H') ∧ ∀ x H', J.yld i H x H' → g x σ H' fun σ2 H2 => tb { D with nx := N, ct := N, bk := D.nx } σ2 H2) := by
  refine ⟨fun i m σ H => m = n - i ∧ i ≤ n ∧ Pv i σ H, ⟨n, rfl, Nat.zero_le _, h0⟩, ?_⟩
  rintro i m σ H ⟨rfl, hi, p⟩
  by_cases hlt : i < n
  · obtain ⟨g1, g2⟩ := hs i σ H hlt p
    exact .inr ⟨g1, Pv (i + 1), fun σ' H' p' => ⟨n - (i + 1), by omega, rfl, hlt, p'⟩, g2⟩
  · have e : i = n := by omega
    rw [e] at p ⊢
    exact .inl (hd σ H p)
theorem atI_neg1 {α : Type} {xs : List α} {v : α} (h : xs[xs.length - 1]? = some v) : atI xs (-1) = some v := by
  have hi := (List.getElem?_eq_some_iff.mp h).1
  unfold atI ixN
  rw [if_neg (by omega), if_pos (by omega)]
  show xs[(-1 + (xs.length : Int)).toNat]? = some v
  rw [show (-1 + (xs.length : Int)).toNat = xs.length - 1 by omega]
  exact h
theorem atI_last {α : Type} (f : Nat → α) (i : Nat) : atI ((List.range (i + 1)).map f) (-1) = some (f i) := by
  refine atI_neg1 ?_
  simp
theorem atI_rng {α : Type} (f : Nat → α) {n i : Nat} (h : i < n) : atI ((List.range n).map f) (i : Int) = some (f i) := atI_nat (by simp [h])
theorem range_snoc {α : Type} (f : Nat → α) (n : Nat) : (List.range n).map f ++ [f n] = (List.range (n + 1)).map f := by
  rw [List.range_succ, List.map_append]
  rfl
/-- a digit -/
theorem dig_int {c : Nat} (h : c ∈ ("0123456789" : Str).cps.toList) : 48 ≤ c ∧ c - 48 < 10 ∧ PySem.intText? ⟨#[c]⟩ = some ((c - 48 : Nat) : Int) := by
  have e : ("0123456789" : Str).cps.toList = [48, 49, 50, 51, 52, 53, 54, 55, 56, 57] := by decide +kernel
  rw [e] at h
  have all : ∀ d ∈ [48, 49, 50, 51, 52, 53, 54, 55, 56, 57], 48 ≤ d ∧ d - 48 < 10 ∧ PySem.intText? ⟨#[d]⟩ = some ((d - 48 : Nat) : Int) := by decide +kernel
  exact all c h
/-- the speeds of a trip -/
def dgs (z : Str) : List Nat := z.cps.toList.map (· - 48)
def Mt.cnt (M : Mt) (ds : List Nat) : Int := ds.foldl M.on 0
def Mt.cn (M : Mt) (z : Str) (i : Nat) : Int := M.cnt ((dgs z).take i)
theorem cn_zero (M : Mt) (z : Str) : M.cn z 0 = 0 := rfl
theorem cn_succ (M : Mt) (z : Str) {i c : Nat} (h : z.cps[i]? = some c) : M.cn z (i + 1) = M.on (M.cn z i) (c - 48) := by
  unfold Mt.cn Mt.cnt
  have h1 : (dgs z)[i]? = some (c - 48) := by
    unfold dgs
    rw [List.getElem?_map, Array.getElem?_toList, h]
    rfl
  rw [List.take_add_one, h1, List.foldl_append]
  rfl
theorem Mt.Ok.cnt0 {M : Mt} (o : M.Ok) (ds : List Nat) : 0 ≤ M.cnt ds := by
  have : ∀ (ds : List Nat) (c : Int), 0 ≤ c → 0 ≤ ds.foldl M.on c := by
    intro ds
    induction ds with
    | nil => intro c h; exact h
    | cons d r ih =>
      intro c h
      exact ih _ (by have := o.wt0 d; unfold Mt.on; omega)
  exact this ds 0 (Int.le_refl 0)
theorem cn_all (M : Mt) (z : Str) : M.cn z z.cps.size = M.cnt (dgs z) := by
  unfold Mt.cn
  rw [List.take_of_length_le (by simp [dgs])]
end Cab
set_option Elab.async false
set_option linter.all false
set_option maxRecDepth 100000
set_option maxHeartbeats 2000000
set_option pp.maxSteps 1500
namespace Cab
open PySem PySem.Spec PyProof.Rows L2

local macro_rules | `(tactic| walk_at "w") => `(tactic| repeat (first | refine Gh.now ?_ | refine ⟨_, rfl, ?_⟩ | refine ⟨_, _, rfl, rfl, ?_⟩ | refine ⟨rfl, ?_⟩))
local macro_rules | `(tactic| walk_at "g") => `(tactic| repeat (first | refine ⟨_, _, rfl, rfl, ?_⟩ | refine ⟨_, _, rfl, ?_⟩ | refine ⟨rfl, ?_⟩ | refine Gh.now ?_ | refine ⟨_, rfl, ?_⟩))
local macro_rules | `(tactic| walk_at "len") => `(tactic| first | (intro hh; obtain ⟨e, _⟩ := hh; exact congrArg List.length e) | (intro hh; obtain ⟨_, e, _⟩ := hh; exact congrArg List.length e) | (intro hh; obtain ⟨_, _, e, _⟩ := hh; exact congrArg List.length e) | (intro hh; obtain ⟨_, _, _, e, _⟩ := hh; exact congrArg List.length e) | (intro hh; obtain ⟨_, _, _, _, e, _⟩ := hh; exact congrArg List.length e) | (intro hh; obtain ⟨_, _, _, _, _, e, _⟩ := hh; exact congrArg List.length e) | (intro hh; obtain ⟨_, _, _, _, _, _, e, _⟩ := hh; exact congrArg List.length e) | (intro hh; obtain ⟨_, _, _, _, _, _, _, e, _⟩ := hh; exact congrArg List.length e) | (intro hh; obtain ⟨_, _, _, _, _, _, _, _, e, _⟩ := hh; exact congrArg List.length e) | (intro hh; obtain ⟨_, _, _, _, _, _, _, _, _, e, _⟩ := hh; exact congrArg List.length e) | (intro hh; obtain ⟨_, _, _, _, _, _, _, _, _, _, e, _⟩ := hh; exact congrArg List.length e) | (intro hh; obtain ⟨_, _, _, _, _, _, _, _, _, _, _, e, _⟩ := hh; exact congrArg List.length e) | (intro hh; obtain ⟨_, _, _, _, _, _, _, _, _, _, _, _, e, _⟩ := hh; exact congrArg List.length e))
variable {P : Program} {w : World} {K : PySem.W.Frag} {mg : Str → Option Value} {base : Heap}

def pr_Meter_counts (P : Program) (w : World) (K : PySem.W.Frag) : Pr := fun vs H Q => ∃ (m ad : Addr) (M : Mt) (z : Str), vs = [.ref m, .str z] ∧ MetI K H m M ad ∧ Dig z ∧
  ∀ p H', H p = none → Same H H' → Ls H' p ((List.range (z.cps.size + 1)).map fun i => .int (M.cn z i)) → Q (.ref p) H'
theorem ok_Meter_counts (T : Wd K mg base) : Fn P w K mg base 7 (He.ma K (He.ga K "Meter") "counts") (pr_Meter_counts P w K) := by
  obtain ⟨fd, F0⟩ := T.fdef 61 (d := d_Meter_counts)
  have F : FunD K "counts" "Meter.counts" (defArgs s_Meter_counts) (defBody s_Meter_counts) (defScope s_Meter_counts) [] [] (He.ma K (He.ga K "Meter") "counts") fd := F0
  refine fn_mk (N := N_Meter_counts) (ps := ["self", "trip"]) F sc_Meter_counts (fun kV doc pm an cdv ct us hl => match us, hl with | [u0, u1], _ => rfl) (fun vs H Q => by walk_at "len") fun cdv A outer s H vs Q E hr h => ?_
  refine ⟨_, (pss_cons (ps_expr (pe_R (ok_check_trip T) (hr.mono (by decide)) T.g_check_trip T.k_check_trip (pa_cons (pv 1) pa_nil))) (pss_gcons (ps_set (i := 2) sc_Meter_counts.nd rfl (Or.inl rfl) (pe_lst (pa_cons pe_int pa_nil))) (pss_cons (ps_for PassesOwn.never rfl (pi_str (pv 1)) (pg_name (i := 3) sc_Meter_counts.nd rfl (Or.inl rfl)) (pss_one (ps_expr (pe_bm PySem.F.plainAttrs_list PySem.F.slot_list_append PySem.F.type_list_append mt_append (pv 2) (pa_cons (pe_M (ok_Meter_count_on T) (hr.mono (by decide)) T.cls_Meter T.m_Meter_count_on (pv 0) (pa_cons (pe_ix (ix_list : IxR _ (rIxL K)) (pv 2) (pe_un un_neg pe_int) (fun _ _ => rfl)) (pa_cons (pe_callTy call_int_str (by rfl) T.f_int (by decide +kernel) (pa_cons (pv 3) pa_nil)) pa_nil))) pa_nil))))) (pss_one (ps_ret (pe_gh (pv 2))))))), ?_⟩
  obtain ⟨m, ad, M, z, rfl, hm, hz, q⟩ := h
  walk_at "w"
  refine ⟨hz, fun H1 e1 => ?_⟩
  walk_at "w"
  refine ⟨sz, fun la hla => .now ?_⟩
  refine ⟨_, rfl, _, rfl, for_go z.cps.size (fun i σ H' => ∃ sv, σ = [some (.ref m), some (.str z), some (.ref la), sv] ∧ Same H1 H' ∧ H' la = some (.lst ((List.range (i + 1)).map fun i => .int (M.cn z i)))) ⟨none, rfl, same_new hla, upd_same⟩ ?_ ?_⟩
  · rintro i σ H' hi ⟨sv, rfl, e2, h2⟩
    refine ⟨hi, fun x H'' hx => ?_⟩
    obtain ⟨rfl, c, hc, rfl⟩ := hx
    have e12 := e1.trans e2
    have hm2 := hm.px (.of _ _ e12)
    obtain ⟨o, dx, an, a2, a3, tb, h1, _⟩ := id hm2
    obtain ⟨c1, c2, c3⟩ := dig_int (hz.2 c (Array.mem_toList_iff.mpr (Array.mem_of_getElem? hc)))
    refine ⟨_, rfl, .inl ⟨rfl, _, sqL_of h2⟩, ?_⟩
    refine ⟨_, rfl, _, _, _, rfl, h1, rfl, ?_⟩
    walk_at "w"
    refine ⟨_, _, _, _, rfl, rfl, sqL_of h2, atI_last _ i, ?_⟩
    walk_at "w"
    refine ⟨_, _, rfl, c3, (by show (1 : Nat) ≤ 640; decide), ?_⟩
    refine ⟨_, _, _, _, _, rfl, hm2, c2, fun H3 e3 => ?_⟩
    have hi2 : z.cps.size ≤ 2000 := hz.1
    refine ⟨_, _, _, rfl, rfl, e3 _ _ h2, szL (by simp; omega), ?_⟩
    refine ⟨_, rfl, same_mut (e2.trans e3) hla, ?_⟩
    rw [upd_same, ← range_snoc _ (i + 1), cn_succ M z hc]
  · rintro σ H' ⟨sv, rfl, e2, h2⟩
    refine ⟨Nat.le_refl _, ?_⟩
    refine ⟨_, rfl, .frz h2 True.intro fun ob => .now ?_⟩
    exact q la _ (fresh_of e1 hla) ((e1.trans (same_mut e2 hla))) Ls.mk'
def pr_Meter_count (P : Program) (w : World) (K : PySem.W.Frag) : Pr := fun vs H Q => ∃ (m ad : Addr) (M : Mt) (z : Str), vs = [.ref m, .str z] ∧ MetI K H m M ad ∧ Dig z ∧ ∀ H', Same H H' → Q (.int (M.cnt (dgs z))) H'
theorem ok_Meter_count (T : Wd K mg base) : Fn P w K mg base 8 (He.ma K (He.ga K "Meter") "count") (pr_Meter_count P w K) := by
  obtain ⟨fd, F0⟩ := T.fdef 62 (d := d_Meter_count)
  have F : FunD K "count" "Meter.count" (defArgs s_Meter_count) (defBody s_Meter_count) (defScope s_Meter_count) [] [] (He.ma K (He.ga K "Meter") "count") fd := F0
  refine fn_mk (N := N_Meter_count) (ps := ["self", "trip"]) F sc_Meter_count (fun kV doc pm an cdv ct us hl => match us, hl with | [u0, u1], _ => rfl) (fun vs H Q => by walk_at "len") fun cdv A outer s H vs Q E hr h => ?_
  refine ⟨_, (pss_one (ps_ret (pe_gh (pe_ix (ix_list : IxR _ (rIxL K)) (pe_M (ok_Meter_counts T) (hr.mono (by decide)) T.cls_Meter T.m_Meter_counts (pv 0) (pa_cons (pv 1) pa_nil)) (pe_un un_neg pe_int) (fun _ _ => rfl))))), ?_⟩
  obtain ⟨m, ad, M, z, rfl, hm, hz, q⟩ := h
  obtain ⟨o, dx, an, a2, a3, tb, h1, _⟩ := id hm
  refine ⟨_, rfl, _, _, _, rfl, h1, rfl, ?_⟩
  walk_at "w"
  refine ⟨_, _, _, _, rfl, hm, hz, fun p H1 hp e1 h2 => ?_⟩
  walk_at "w"
  refine ⟨_, _, _, _, rfl, rfl, h2.sq, atI_last _ _, .now ?_⟩
  exact qv_eq (congrArg V.int (cn_all M z)) (q _ e1)
def pr_Meter_prices (P : Program) (w : World) (K : PySem.W.Frag) : Pr := fun vs H Q => ∃ (m ad : Addr) (M : Mt) (z : Str), vs = [.ref m, .str z] ∧ MetI K H m M ad ∧ Dig z ∧
  ∀ p H', H p = none → Same H H' → Ls H' p ((List.range (z.cps.size + 1)).map fun i => .int (M.pr (M.cn z i))) → Q (.ref p) H'
theorem ok_Meter_prices (T : Wd K mg base) : Fn P w K mg base 8 (He.ma K (He.ga K "Meter") "prices") (pr_Meter_prices P w K) := by
  obtain ⟨fd, F0⟩ := T.fdef 64 (d := d_Meter_prices)
  have F : FunD K "prices" "Meter.prices" (defArgs s_Meter_prices) (defBody s_Meter_prices) (defScope s_Meter_prices) [] [] (He.ma K (He.ga K "Meter") "prices") fd := F0
  refine fn_mk (N := N_Meter_prices) (ps := ["self", "trip"]) F sc_Meter_prices (fun kV doc pm an cdv ct us hl => match us, hl with | [u0, u1], _ => rfl) (fun vs H Q => by walk_at "len") fun cdv A outer s H vs Q E hr h => ?_
  refine ⟨_, (pss_one (ps_ret (pe_gh (pe_lc (own := [("count", 2)]) rfl sc_Meter_prices.nd (pi_listK (K := K) (pe_M (ok_Meter_counts T) (hr.mono (by decide)) T.cls_Meter T.m_Meter_counts (pv 0) (pa_cons (pv 1) pa_nil))) (blkOk_by (own := [("count", 2)]) (N := N_Meter_prices) (sc := defScope s_Meter_prices) (by decide +kernel)) (fun _ _ _ _ _ => (pg_name (i := 2) sc_Meter_prices.nd rfl (Or.inl rfl))) (fun _ _ _ _ _ => pts_nil) (fun _ _ _ _ _ => (pe_M (ok_Meter_price_at T) (hr.mono (by decide)) T.cls_Meter T.m_Meter_price_at (pv 0) (pa_cons (pv 2) pa_nil))))))), ?_⟩
  obtain ⟨m, ad, M, z, rfl, hm, hz, q⟩ := h
  obtain ⟨o, dx, an, a2, a3, tb, h1, _⟩ := id hm
  have hi2 : z.cps.size ≤ 2000 := hz.1
  refine ⟨_, rfl, _, _, _, rfl, h1, rfl, ?_⟩
  walk_at "w"
  refine ⟨_, _, _, _, rfl, hm, hz, fun p H1 hp e1 h2 => ?_⟩
  refine ⟨_, rfl, ⟨_, h2.sq⟩, fun D hD => ?_⟩
  refine lc_map ((List.range (z.cps.size + 1)).map fun i => .int (M.pr (M.cn z i))) hD (fun i H' hi c => ?_) fun H2 e2 hl2 => ⟨⟨_, (h2.px (.of _ _ e2)).sq, by simp⟩, ?_⟩
  · have hi' : i < z.cps.size + 1 := by simpa using hi
    refine ⟨itl_go (h2.px c.px).sq (by simpa using hi'), fun x H'' hx => ?_⟩
    obtain ⟨rfl, hx⟩ := hx
    have hx := hx _ (h2.px c.px).sq
    rw [List.getElem?_map, List.getElem?_range hi'] at hx
    obtain rfl : V.int (M.cn z i) = x := Option.some.inj hx
    refine ⟨rfl, ?_⟩
    have pc := (Px.of _ _ e1).trans c.px
    walk_at "w"
    refine ⟨_, _, _, rfl, pc _ _ h1 True.intro, rfl, ?_⟩
    walk_at "w"
    refine ⟨_, _, _, _, rfl, hm.px pc, o.cnt0 _, fun H4 e4 => ?_⟩
    refine CR.fin Rz.mono c (by omega) e4 ?_
    simp [Rz, hi']
  · refine .frz hl2 True.intro fun ob => .now ?_
    exact q D _ (fresh_of e1 hD) (e1.trans (same_mut e2 hD)) Ls.mk'
def pr_Meter_call (P : Program) (w : World) (K : PySem.W.Frag) : Pr := fun vs H Q => ∃ (m ad : Addr) (M : Mt) (z : Str), vs = [.ref m, .str z] ∧ MetI K H m M ad ∧ Dig z ∧ ∀ H', Same H H' → Q (.int (M.pr (M.cnt (dgs z)))) H'
theorem ok_Meter_call (T : Wd K mg base) : Fn P w K mg base 9 (He.ma K (He.ga K "Meter") "__call__") (pr_Meter_call P w K) := by
  obtain ⟨fd, F0⟩ := T.fdef 65 (d := d_Meter_call)
  have F : FunD K "__call__" "Meter.__call__" (defArgs s_Meter_call) (defBody s_Meter_call) (defScope s_Meter_call) [] [] (He.ma K (He.ga K "Meter") "__call__") fd := F0
  refine fn_mk (N := N_Meter_call) (ps := ["self", "trip"]) F sc_Meter_call (fun kV doc pm an cdv ct us hl => match us, hl with | [u0, u1], _ => rfl) (fun vs H Q => by walk_at "len") fun cdv A outer s H vs Q E hr h => ?_
  refine ⟨_, (pss_one (ps_ret (pe_gh (pe_M (ok_Meter_price_at T) (hr.mono (by decide)) T.cls_Meter T.m_Meter_price_at (pv 0) (pa_cons (pe_M (ok_Meter_count T) (hr.mono (by decide)) T.cls_Meter T.m_Meter_count (pv 0) (pa_cons (pv 1) pa_nil)) pa_nil))))), ?_⟩
  obtain ⟨m, ad, M, z, rfl, hm, hz, q⟩ := h
  obtain ⟨o, dx, an, a2, a3, tb, h1, _⟩ := id hm
  refine ⟨_, rfl, _, _, _, rfl, h1, rfl, ?_⟩
  refine ⟨_, rfl, _, _, _, rfl, h1, rfl, ?_⟩
  walk_at "w"
  refine ⟨_, _, _, _, rfl, hm, hz, fun H1 e1 => ?_⟩
  refine ⟨_, _, _, _, rfl, hm.px (.of _ _ e1), o.cnt0 _, fun H2 e2 => .now ?_⟩
  exact q _ (e1.trans e2)
def pr_Meter_after (P : Program) (w : World) (K : PySem.W.Frag) : Pr := fun vs H Q => ∃ (m sa : Addr) (M : Mt) (l : Int) (v : Nat), vs = [.ref m, .ref sa, .int v] ∧ MetAt P w K H m M ∧ St H sa l ∧ Rch M l ∧ v < 10 ∧ ∀ a H', Same H H' → StepAt H' a M l v → Q (.ref a) H'
theorem ok_Meter_after (T : Wd K mg base) : Fn P w K mg base 4 (He.ma K (He.ga K "Meter") "after") (pr_Meter_after P w K) := by
  obtain ⟨fd, F0⟩ := T.fdef 68 (d := d_Meter_after)
  have F : FunD K "after" "Meter.after" (defArgs s_Meter_after) (defBody s_Meter_after) (defScope s_Meter_after) [] [] (He.ma K (He.ga K "Meter") "after") fd := F0
  refine fn_mk (N := N_Meter_after) (ps := ["self", "stand", "speed"]) F sc_Meter_after (fun kV doc pm an cdv ct us hl => match us, hl with | [u0, u1, u2], _ => rfl) (fun vs H Q => by walk_at "len") fun cdv A outer s H vs Q E hr h => ?_
  refine ⟨_, (pss_cons (ps_if (PW.pt (pw_or (pt_not (pt_val (pe_R (ok_is_plain T) (hr.mono (by decide)) T.g_is_plain T.k_is_plain (pa_cons (pv 1) pa_nil)))) (pw_or1 (pt_cmpR (op_dnNotIn (hu64 hr) : OpR _ _ (rDnIn P w true)) (pv 1) (pe_fld (pv 0) rfl) (by rfl))))) (pss_one ps_never) pss_nil) (pss_cons (ps_if (pt_not (pt_val (pe_R (ok_is_between T) (hr.mono (by decide)) T.g_is_between T.k_is_between (pa_cons (pv 2) (pa_cons pe_int (pa_cons (pe_op op_sub (C8.pe_gc rfl T.c_SPEEDS) pe_int) pa_nil)))))) (pss_one ps_never) pss_nil) (pss_one (ps_ret (pe_gh (pe_ix (ix_list : IxR _ (rIxL K)) (pe_dnK (P := P) (w := w) (hu64 hr) (pe_fld (pv 0) rfl) (pv 1)) (pv 2) (fun _ _ => rfl))))))), ?_⟩
  obtain ⟨m, sa, M, l, v, rfl, ⟨ad, hm, ob, es, hd, ko, hes⟩, hs, hr2, hv, q⟩ := h
  obtain ⟨o, dx, an, a2, a3, tb, h1, _⟩ := id hm
  walk_at "w"
  refine ⟨_, [0, l], rfl, hs, Nat.le_of_ble_eq_true rfl, fun H1 e1 => ?_⟩
  have p1 := Px.of _ _ e1
  obtain ⟨v0, hv0, la, xs, rfl, hla, hxs, hst⟩ := hes l hr2
  obtain ⟨s2, hs2, hs3⟩ := hst v hv
  walk_at "w"
  refine ⟨_, _, _, _, _, rfl, p1 _ _ h1 True.intro, T.cls_Meter, T.n_Meter_own_steps, rfl, ?_⟩
  refine ⟨_, _, es, kS l, rfl, rfl, ⟨.inr ⟨_, p1 _ _ hd True.intro⟩, ko.px p1⟩, (hs.px p1).key, kS_dp _, ?_⟩
  rw [hv0]
  walk_at "w"
  refine ⟨_, _, _, rfl, by omega, by omega, ?_⟩
  walk_at "w"
  refine ⟨_, _, _, _, _, rfl, p1 _ _ h1 True.intro, T.cls_Meter, T.n_Meter_own_steps, rfl, ?_⟩
  refine ⟨_, rfl, _, _, es, kS l, _, rfl, rfl, ⟨.inr ⟨_, p1 _ _ hd True.intro⟩, ko.px p1⟩, (hs.px p1).key, kS_dp _, hv0, ?_⟩
  walk_at "w"
  refine ⟨_, _, _, _, rfl, rfl, (hla.px p1).sq, atI_nat hs2, .now ?_⟩
  exact q _ _ e1 (hs3.px p1)
/-- stands found so far -/
structure Sd (P : Program) (w : World) (M : Mt) (fd la : Addr) (H : Hp) (es : List Ent) (as : List Addr) : Prop where
  d : H fd = some (dNo P w fd es)
  ko : KeysOk H es
  ln : H la = some (.lst (as.map V.ref))
  en : ∀ e ∈ es, ∃ l, e.1 = kS l ∧ Rch M l ∧ St H e.2.1 l
  st : ∀ a ∈ as, ∃ l, St H a l ∧ Rch M l
  fi : (lookE es (kS M.first)).isSome = true
  s1 : es.length + mis es ≤ 11
  s2 : as.length + mis es ≤ 12
def Inn (es : List Ent) (l : Int) : Prop := (lookE es (kS l)).isSome = true
theorem Inn.put {es : List Ent} {l l' : Int} {b : Addr} {v : V} (h : Inn es l) : Inn (putE es (kS l') b v) l := by
  unfold Inn
  rw [look_put]
  split
  · rfl
  · exact h
theorem Inn.put1 {es : List Ent} {l : Int} {b : Addr} {v : V} : Inn (putE es (kS l) b v) l := by
  unfold Inn
  rw [look_put, if_pos rfl]
  rfl
theorem Inn.of_put {es : List Ent} {l l' : Int} {b : Addr} {v : V} (h : Inn (putE es (kS l') b v) l) : l' = l ∨ Inn es l := by
  unfold Inn at h
  rw [look_put] at h
  by_cases e : kS l' = kS l
  · exact .inl (kS_inj e)
  · rw [if_neg e] at h
    exact .inr h
theorem cut10 {xs : List V} (h : xs.length = 10) : cutV xs none (some 10) = xs := by
  unfold cutV
  show (xs.drop 0).take (min 10 xs.length - 0) = xs
  rw [h, List.drop_zero]
  exact List.take_of_length_le (by omega)
/-- called with no top -/
def pr_Meter_stands0 (P : Program) (w : World) (K : PySem.W.Frag) : Pr := fun vs H Q => ∃ (m : Addr) (M : Mt), vs = [.ref m, .int 9] ∧ MetAt P w K H m M ∧
  ∀ p H' (as : List Addr), H p = none → Same H H' → Ls H' p (as.map V.ref) → as.length ≤ 1000 → (∀ a ∈ as, ∃ l, St H' a l ∧ Rch M l) → (∀ l, Rch M l → ∃ a ∈ as, St H' a l) → Q (.ref p) H'
theorem ok_Meter_stands0 (T : Wd K mg base) : Fn P w K mg base 4 (He.ma K (He.ga K "Meter") "stands") (fun vs H Q => pr_Meter_stands0 P w K (vs ++ [V.int 9]) H Q) := by
  obtain ⟨fd, F0⟩ := T.fdef 69 (d := d_Meter_stands)
  have F : FunD K "stands" "Meter.stands" (defArgs s_Meter_stands) (defBody s_Meter_stands) (defScope s_Meter_stands) [V.int 9] [] (He.ma K (He.ga K "Meter") "stands") fd := F0
  refine fn_mkD0 (N := N_Meter_stands) (ps := ["self", "top"]) 1 F sc_Meter_stands (by intro z; cases z) rfl (fun T kV doc pm an cdv ct us its hl hl2 => match us, its, hl, hl2 with | [u0], [d0], _, _ => ⟨_, rfl, rfl⟩) (fun vs H Q => by walk_at "len") fun cdv A outer s H vs Q E hr h => ?_
  refine ⟨_, (pss_cons (ps_expr (pe_R (ok_check_top T) (hr.mono (by decide)) T.g_check_top T.k_check_top (pa_cons (pv 1) pa_nil))) (pss_gcons (ps_set (i := 2) sc_Meter_stands.nd rfl (Or.inl rfl) (pe_dn1 (hu64 hr) (pe_P (ok_Meter_start T) (hr.mono (by decide)) T.cls_Meter T.p_Meter_start (pv 0)) pe_bl)) (pss_gcons (ps_set (i := 3) sc_Meter_stands.nd rfl (Or.inl rfl) (pe_lst (pa_cons (pe_P (ok_Meter_start T) (hr.mono (by decide)) T.cls_Meter T.p_Meter_start (pv 0)) pa_nil))) (pss_cons (ps_while PassesOwn.never (pt_truth (pv 3) (by intro _; rfl)) (pss_one (ps_for PassesOwn.never rfl (pi_listK (K := K) (pe_slice sl_list (pe_dnK (P := P) (w := w) (hu64 hr) (pe_fld (pv 0) rfl) (pe_bm0 PySem.F.plainAttrs_list PySem.F.slot_list_pop PySem.F.type_list_pop mt_pop (pv 3))) po_none (po_some (pe_op op_add (pv 1) pe_int)))) (pg_tupK (n := 2) rfl (pgs_cons (pg_name (i := 4) sc_Meter_stands.nd rfl (Or.inl rfl)) (pgs_cons (pg_name (i := 5) sc_Meter_stands.nd rfl (Or.inl rfl)) pgs_nil))) (pss_one (ps_if (pt_cmpR (op_dnNotIn (hu64 hr) : OpR _ _ (rDnIn P w true)) (pv 4) (pv 2) (by rfl)) (pss_gcons (ps_asg pe_bl (pg_sub (pv 2) (pv 4) (set_dn (hu64 hr)))) (pss_one (ps_expr (pe_bm PySem.F.plainAttrs_list PySem.F.slot_list_append PySem.F.type_list_append mt_append (pv 3) (pa_cons (pv 4) pa_nil))))) pss_nil))))) (pss_one (ps_ret (pe_gh (pe_callB cr_sortedP (by rfl) T.f_sorted (by decide +kernel) (pa_cons (pe_callTy (call_dnList rfl) (by rfl) T.f_list (by decide +kernel) (pa_cons (pv 2) pa_nil)) pa_nil))))))))), ?_⟩
  obtain ⟨m, M, rfl, ⟨ad, hm, ob, es, hd, ko, hes⟩, q⟩ := h
  obtain ⟨o, dx, an, a2, a3, tb, h1, _⟩ := id hm
  walk_at "w"
  refine ⟨by decide, by decide, ?_⟩
  intro fd hfd
  refine ⟨_, rfl, _, _, _, rfl, (same_new hfd) _ _ h1, _, _, _, rfl, hm.px (Px.new hfd), fun s0 H1 hs0 e1 st0 => ?_⟩
  have fdn := e1 _ _ (show upd H fd (dNo P w fd []) fd = _ from upd_same)
  have eH1 : Same H (upd H1 fd (dNo P w fd [(kS M.first, s0, V.bl true)])) := same_mut ((same_new hfd).trans e1) hfd
  refine ⟨fdn, s0, kS M.first, rfl, (show St H1 s0 M.first from st0).key, kS_dp _, .now ?_⟩
  have fd2 : upd H1 fd (dNo P w fd [(kS M.first, s0, V.bl true)]) fd = some (dNo P w fd [(kS M.first, s0, V.bl true)]) := upd_same
  have st2 : St (upd H1 fd (dNo P w fd [(kS M.first, s0, V.bl true)])) s0 M.first := St.px (Px.mut fdn dNo_imm) st0
  show tSeqG _ _ _ _ (upd H1 fd (dNo P w fd [(kS M.first, s0, V.bl true)]))
  generalize upd H1 fd (dNo P w fd [(kS M.first, s0, V.bl true)]) = H2 at eH1 fd2 st2 ⊢
  have p2 := Px.of _ _ eH1
  refine ⟨_, rfl, _, _, _, rfl, p2 _ _ h1 True.intro, _, _, _, rfl, hm.px p2, fun s1 H3 hs1 e3 st3 => ?_⟩
  refine ⟨sz, fun la hla => .now ?_⟩
  have fd3 := e3 _ _ fd2
  have nl : la ≠ fd := fun z => by rw [z, fd3] at hla; cases hla
  have e3' : Same H2 (upd H3 la (.lst [.ref s1])) := e3.trans (same_new hla)
  have hmE : Px H (upd H3 la (.lst [.ref s1])) := p2.trans (.of _ _ e3')
  have frl : H la = none := fresh_of (eH1.trans e3) hla
  have mi1 : mis [(kS M.first, s0, V.bl true)] < 11 := Nat.lt_of_lt_of_eq (mis_lt (es := []) (l := M.first) (b := s0) (v := V.bl true) ⟨o.f1, o.f2⟩ rfl) (by decide +kernel)
  have st38 : St (upd H3 la (.lst [.ref s1])) s1 M.first := (same_new hla) _ _ st3
  have st28 : St (upd H3 la (.lst [.ref s1])) s0 M.first := e3' _ _ st2
  refine ⟨fun m' σ H' => ∃ (s4 s5 : Option V) (es : List Ent) (as : List Addr), σ = [some (.ref m), some (.int 9), some (.ref fd), some (.ref la), s4, s5] ∧ m' = 2 * mis es + as.length ∧ Same H H' ∧ Sd P w M fd la H' es as ∧ ∀ l, Inn es l → (∀ v, v < 10 → Inn es (M.goal l v)) ∨ ∃ a ∈ as, St H' a l,
    ⟨_, none, none, [(kS M.first, s0, V.bl true)], [s1], rfl, rfl, eH1.trans e3', ⟨(same_new hla) _ _ fd3, fun e he => ?_, upd_same, fun e he => ?_, fun a ha => ?_, Inn.put1 (es := []), by simp; omega, by simp; omega⟩, fun l hl => .inr ⟨s1, List.mem_singleton.mpr rfl, ?_⟩⟩, ?_⟩
  · rw [List.mem_singleton.mp he]
    exact st28.key
  · rw [List.mem_singleton.mp he]
    exact ⟨_, rfl, .first, st28⟩
  · rw [List.mem_singleton.mp ha]
    exact ⟨_, st38, .first⟩
  · rcases Inn.of_put (es := []) hl with e | e
    · rw [← e]
      exact st38
    · cases e
  rintro mm σ H4 ⟨s4, s5, fes, as, rfl, rfl, e4, k, cl⟩
  have p4 := Px.of _ _ e4
  walk_at "w"
  refine ⟨_, .inl ⟨_, sqL_of k.ln, rfl⟩, ?_⟩
  rcases List.eq_nil_or_concat as with rfl | ⟨as', a, ea⟩
  · refine iF rfl ?_
    walk_at "w"
    refine ⟨_, fes, rfl, ⟨.of k.d, k.ko⟩, fun L hL => ?_⟩
    have e5 : Same H4 (upd H4 L (.lst (fes.map fun e => V.ref e.2.1))) := same_new hL
    refine ⟨L, _, rfl, sqL_of upd_same, fun x hx => ?_, fun ys p hp hnp => ?_⟩
    · obtain ⟨e, he, rfl⟩ := List.mem_map.mp hx
      obtain ⟨l, h1, h2, h3⟩ := k.en e he
      exact ⟨_, _, _, rfl, e5 _ _ h3⟩
    · have e6 := e5.trans (same_new (o := .lst ys) hnp)
      refine .frz upd_same True.intro fun ob => .now ?_
      obtain ⟨ps, hps, hmem⟩ : ∃ ps : List Addr, ys = ps.map V.ref ∧ ∀ b, b ∈ ps ↔ ∃ e ∈ fes, e.2.1 = b := by
        have hr : ∀ y ∈ ys, ∃ b, y = V.ref b := fun y hy => by
          obtain ⟨e, _, rfl⟩ := List.mem_map.mp (hp.mem_iff.mp hy)
          exact ⟨_, rfl⟩
        obtain ⟨ps, rfl, _⟩ := refs_of ys (fun _ _ => True) fun j y hj => (hr y (List.mem_of_getElem? hj)).elim fun b e => ⟨b, e, True.intro⟩
        refine ⟨ps, rfl, fun b => ?_⟩
        have := hp.mem_iff (a := V.ref b)
        rw [List.mem_map, List.mem_map] at this
        constructor
        · intro hb
          obtain ⟨e, he, h⟩ := this.mp ⟨b, hb, rfl⟩
          exact ⟨e, he, by cases h; rfl⟩
        · rintro ⟨e, he, rfl⟩
          obtain ⟨b, hb, h⟩ := this.mpr ⟨e, he, rfl⟩
          cases h
          exact hb
      rw [hps] at hp e6 ⊢
      have frp : H p = none := fresh_of (e4.trans e5) hnp
      have hE : Same H (upd (upd (upd H4 L (.lst (fes.map fun e => V.ref e.2.1))) p (.lst (ps.map V.ref))) p (.frz ob (.lst (ps.map V.ref)))) := same_mut (e4.trans e6) frp
      have pE : Px H4 (upd (upd (upd H4 L (.lst (fes.map fun e => V.ref e.2.1))) p (.lst (ps.map V.ref))) p (.frz ob (.lst (ps.map V.ref)))) := (Px.of _ _ e6).trans (Px.frz upd_same (fun z => z))
      refine q p _ ps frp hE Ls.mk' ?_ (fun b hb => ?_) fun l hl => ?_
      · have h1 : ps.length = fes.length := by have := hp.length_eq; simpa using this
        have := k.s1
        omega
      · obtain ⟨e, he, rfl⟩ := (hmem b).mp hb
        obtain ⟨l, h1, h2, h3⟩ := k.en e he
        exact ⟨l, h3.px pE, h2⟩
      · have hin : Inn fes l := by
          induction hl with
          | first => exact k.fi
          | step h hv ih =>
            rcases cl _ ih with h | ⟨a, ha, _⟩
            · exact h _ hv
            · cases ha
        unfold Inn lookE at hin
        rw [Option.isSome_map, List.find?_isSome] at hin
        obtain ⟨e, he, h2⟩ := hin
        obtain ⟨l', h1, _, h3⟩ := k.en e he
        have : l' = l := kS_inj (h1.symm.trans (of_decide_eq_true h2))
        rw [this] at h3
        exact ⟨_, (hmem _).mpr ⟨e, he, rfl⟩, h3.px pE⟩
  · rw [List.concat_eq_append] at ea
    subst ea
    refine iT (by simp) ?_
    obtain ⟨l1, sl1, rl1⟩ := k.st a (List.mem_append_right _ (List.mem_singleton.mpr rfl))
    refine ⟨_, fun σ' H' h => h, ?_⟩
    obtain ⟨v0, hv0, xa, xs, rfl, hxa, hxs, hst⟩ := hes l1 rl1
    refine ⟨_, rfl, _, _, _, _, _, rfl, p4 _ _ h1 True.intro, T.cls_Meter, T.n_Meter_own_steps, rfl, ?_⟩
    refine ⟨_, rfl, .inl ⟨rfl, _, sqL_of k.ln⟩, la, (as' ++ [a]).map V.ref, .ref a, rfl, rfl, k.ln, by simp, ?_⟩
    have ed : ((as' ++ [a]).map V.ref).dropLast = as'.map V.ref := by simp
    rw [ed]
    have nfl : fd ≠ la := fun z => by have h1 := k.d; rw [z, k.ln] at h1; cases h1
    have p5 : Px H4 (upd H4 la (.lst (as'.map V.ref))) := Px.mut k.ln (fun z => z)
    have d5 : upd H4 la (.lst (as'.map V.ref)) fd = some (dNo P w fd fes) := by rw [upd_ne nfl]; exact k.d
    have l5 : upd H4 la (.lst (as'.map V.ref)) la = some (.lst (as'.map V.ref)) := upd_same
    have e5 : Same H (upd H4 la (.lst (as'.map V.ref))) := same_mut e4 frl
    generalize upd H4 la (.lst (as'.map V.ref)) = H5 at p5 d5 l5 e5 ⊢
    have q5 := Px.of _ _ e5
    refine ⟨_, _, es, kS l1, _, rfl, rfl, ⟨.inr ⟨_, q5 _ _ hd True.intro⟩, ko.px q5⟩, (sl1.px p5).key, kS_dp _, hv0, ?_⟩
    walk_at "w"
    refine ⟨_, _, rfl, (hxa.px q5).sq, fun L hL => ?_⟩
    rw [show (9 : Int) + 1 = 10 from rfl, cut10 hxs]
    refine ⟨_, rfl, ⟨_, sqL_of upd_same⟩, ?_⟩
    have e6 : Same H5 (upd H5 L (.lst xs)) := same_new hL
    have L6 : upd H5 L (.lst xs) L = some (.lst xs) := upd_same
    refine for_go 10 (fun i σ H' => ∃ (s4 s5 : Option V) (fes' : List Ent) (as2 : List Addr), σ = [some (.ref m), some (.int 9), some (.ref fd), some (.ref la), s4, s5] ∧ 2 * mis fes' + as2.length ≤ 2 * mis fes + as'.length ∧ Same H H' ∧ H' L = some (.lst xs) ∧ Sd P w M fd la H' fes' as2 ∧
      (∀ l, Inn fes' l → (∀ v, v < 10 → Inn fes' (M.goal l v)) ∨ (∃ a ∈ as2, St H' a l) ∨ l = l1) ∧ ∀ v, v < i → Inn fes' (M.goal l1 v)) ?_ ?_ ?_
    · refine ⟨s4, s5, fes, as', rfl, Nat.le_refl _, e5.trans e6, L6, ⟨e6 _ _ d5, (k.ko.px p5).px (.of _ _ e6), e6 _ _ l5, fun e he => ?_, fun b hb => ?_, k.fi, k.s1, by have := k.s2; simp at this; omega⟩, fun l hl => ?_, fun v hv => by omega⟩
      · obtain ⟨l, h1, h2, h3⟩ := k.en e he
        exact ⟨l, h1, h2, (h3.px p5).px (.of _ _ e6)⟩
      · obtain ⟨l, h1, h2⟩ := k.st b (List.mem_append_left _ hb)
        exact ⟨l, (h1.px p5).px (.of _ _ e6), h2⟩
      · rcases cl l hl with h | ⟨b, hb, hs⟩
        · exact .inl h
        · rcases List.mem_append.mp hb with hb | hb
          · exact .inr (.inl ⟨b, hb, (hs.px p5).px (.of _ _ e6)⟩)
          · rw [List.mem_singleton.mp hb] at hs
            unfold St at hs sl1
            rw [sl1] at hs
            exact .inr (.inr (by cases hs; rfl))
    · rintro i σ H' hi ⟨s4, s5, fes', as2, rfl, hm', e', L', k', cl', gi⟩
      refine ⟨itl_go (sqL_of L') (by omega), fun y H'' hy => ?_⟩
      obtain ⟨rfl, hy⟩ := hy
      have hy := hy _ (sqL_of L')
      obtain ⟨sa, hs1', g, hg1, hg2⟩ := hst i hi
      rw [hs1'] at hy
      obtain rfl : V.ref sa = y := Option.some.inj hy
      have p' := Px.of _ _ e'
      have hg1 := p' _ _ hg1 True.intro
      have hg2 := hg2.px p'
      refine ⟨_, _, rfl, sqT_of hg1, rfl, ?_⟩
      walk_at "g"
      refine ⟨fd, g, fes', kS (M.goal l1 i), rfl, rfl, ⟨.of k'.d, k'.ko⟩, hg2.key, kS_dp _, ?_⟩
      walk_at "w"
      cases hk : lookE fes' (kS (M.goal l1 i)) with
      | some v0 =>
        refine iF rfl ?_
        refine ⟨_, _, fes', as2, rfl, hm', e', L', k', cl', fun v hv => ?_⟩
        by_cases h : v < i
        · exact gi v h
        · have : v = i := by omega
          rw [this]
          unfold Inn
          rw [hk]
          rfl
      | none =>
        refine iT rfl ?_
        have rg : Rch M (M.goal l1 i) := .step rl1 hi
        have hms := mis_lt (b := g) (v := V.bl true) (rg.bd o) hk
        have hpl := put_len fes' (kS (M.goal l1 i)) g (V.bl true)
        have ks1 := k'.s1
        walk_at "w"
        refine ⟨fd, g, fes', kS (M.goal l1 i), rfl, rfl, k'.d, k'.ko, hg2.key, kS_dp _, szL (by omega), .now ?_⟩
        have nfl2 : fd ≠ la := nfl
        have nfL : fd ≠ L := fun z => by have h1 := k'.d; rw [z, L'] at h1; cases h1
        have nlL : la ≠ L := fun z => by rw [← z, l5] at hL; cases hL
        have l7 : upd H'' fd (dNo P w fd (putE fes' (kS (M.goal l1 i)) g (.bl true))) la = some (.lst (as2.map V.ref)) := by rw [upd_ne nfl2.symm]; exact k'.ln
        refine ⟨_, rfl, .inl ⟨rfl, _, sqL_of l7⟩, ?_⟩
        refine ⟨_, rfl, la, _, _, rfl, rfl, l7, szL (by have := k'.s2; simp; omega), ?_⟩
        have pp : Px H'' (upd (upd H'' fd (dNo P w fd (putE fes' (kS (M.goal l1 i)) g (.bl true)))) la (.lst (as2.map V.ref ++ [.ref g]))) := (Px.mut k'.d dNo_imm).trans (Px.mut l7 (fun z => z))
        refine ⟨_, _, putE fes' (kS (M.goal l1 i)) g (.bl true), as2 ++ [g], rfl, by rw [List.length_append, List.length_singleton]; omega, same_mut (same_mut e' hfd) frl, ?_, ⟨?_, (k'.ko.put hg2.key).px pp, ?_, fun e he => ?_, fun b hb => ?_, Inn.put k'.fi, by omega, ?_⟩, fun l hl => ?_, fun v hv => ?_⟩
        · rw [upd_ne nlL.symm, upd_ne nfL.symm]
          exact L'
        · rw [upd_ne nfl2, upd_same]
          rfl
        · rw [upd_same, List.map_append]
          rfl
        · rcases putE_mem he with ⟨e0, h0, h1, h2⟩ | ⟨h1, h2⟩
          · obtain ⟨l, h3, h4, h5⟩ := k'.en e0 h0
            rw [← h1, ← h2]
            exact ⟨l, h3, h4, h5.px pp⟩
          · rw [h1, h2]
            exact ⟨_, rfl, rg, hg2.px pp⟩
        · rcases List.mem_append.mp hb with hb | hb
          · obtain ⟨l, h1, h2⟩ := k'.st b hb
            exact ⟨l, h1.px pp, h2⟩
          · rw [List.mem_singleton.mp hb]
            exact ⟨_, hg2.px pp, rg⟩
        · have := k'.s2
          rw [List.length_append, List.length_singleton]
          omega
        · rcases Inn.of_put hl with e | hl
          · refine .inr (.inl ⟨g, List.mem_append_right _ (List.mem_singleton.mpr rfl), ?_⟩)
            rw [← e]
            exact hg2.px pp
          · rcases cl' l hl with h | ⟨b, hb, h⟩ | h
            · exact .inl fun v hv => Inn.put (h v hv)
            · exact .inr (.inl ⟨b, List.mem_append_left _ hb, h.px pp⟩)
            · exact .inr (.inr h)
        · by_cases h : v < i
          · exact Inn.put (gi v h)
          · have : v = i := by omega
            rw [this]
            exact Inn.put1
    · rintro σ H' ⟨s4, s5, fes', as2, rfl, hm', e', L', k', cl', gi⟩
      refine ⟨⟨_, sqL_of L', by omega⟩, ?_⟩
      refine ⟨2 * mis fes' + as2.length, by simp; omega, s4, s5, fes', as2, rfl, rfl, e', k', fun l hl => ?_⟩
      rcases cl' l hl with h | h | h
      · exact .inl h
      · exact .inr h
      · rw [h]
        exact .inl gi
end Cab
set_option Elab.async false
set_option linter.all false
set_option maxRecDepth 100000
set_option maxHeartbeats 2000000
namespace Cab
open PySem PySem.Spec PyProof.Rows L2
/-! ### two meters, speeds to a top -/
structure W2 where
  M1 : Mt
  M2 : Mt
  top : Nat
abbrev Pt : Type := Int × Int
def W2.fst (c : W2) : Pt := (c.M1.first, c.M2.first)
def W2.nx (c : W2) (p : Pt) (v : Nat) : Pt := (c.M1.goal p.1 v, c.M2.goal p.2 v)
def W2.gn (c : W2) (p : Pt) (v : Nat) : Int := c.M1.each * c.M1.many p.1 v - c.M2.each * c.M2.many p.2 v
structure W2.Ok (c : W2) : Prop where
  o1 : c.M1.Ok
  o2 : c.M2.Ok
  tp : c.top ≤ 9
inductive RP (c : W2) : Pt → Prop where
  | first : RP c c.fst
  | step {p : Pt} {v : Nat} (h : RP c p) (hv : v ≤ c.top) : RP c (c.nx p v)
theorem RP.rch {c : W2} (o : c.Ok) {p : Pt} (h : RP c p) : Rch c.M1 p.1 ∧ Rch c.M2 p.2 := by
  induction h with
  | first => exact ⟨.first, .first⟩
  | step h hv ih => exact ⟨.step ih.1 (by have := o.tp; omega), .step ih.2 (by have := o.tp; omega)⟩
theorem RP.bd {c : W2} (o : c.Ok) {p : Pt} (h : RP c p) : (1 ≤ p.1 ∧ p.1 ≤ 10) ∧ (1 ≤ p.2 ∧ p.2 ≤ 10) := ⟨(h.rch o).1.bd o.o1, (h.rch o).2.bd o.o2⟩
/-- a step between pairs -/
def PStep (c : W2) (H : Hp) (a : Addr) (p : Pt) (v : Nat) : Prop := ∃ g, H a = some (.tup [.int v, .int (c.gn p v), .ref g]) ∧ Pr2 H g (c.nx p v)
theorem PStep.px {c : W2} {H H' : Hp} {a : Addr} {p : Pt} {v : Nat} (e : Px H H') (h : PStep c H a p v) : PStep c H' a p v := h.elim fun g h => ⟨g, e _ _ h.1 True.intro, h.2.px e⟩
def PList (c : W2) (H : Hp) (p : Pt) (v : V) : Prop := ∃ la ts, v = .ref la ∧ Ls H la ts ∧ ts.length = c.top + 1 ∧ ∀ i, i ≤ c.top → ∃ sa, ts[i]? = some (.ref sa) ∧ PStep c H sa p i
theorem PList.px {c : W2} {H H' : Hp} {p : Pt} {v : V} (e : Px H H') (h : PList c H p v) : PList c H' p v := by
  obtain ⟨la, ts, h1, h2, h3, h4⟩ := h
  exact ⟨la, ts, h1, h2.px e, h3, fun i hi => (h4 i hi).elim fun sa h => ⟨sa, h.1, h.2.px e⟩⟩
/-- the keys of a dict are such pairs -/
def PK (H : Hp) (R : Pt → Prop) (es : List Ent) : Prop := ∀ e ∈ es, ∃ p, e.1 = kP p ∧ Pr2 H e.2.1 p ∧ R p
theorem PK.px {H H' : Hp} {R : Pt → Prop} {es : List Ent} (e : Px H H') (h : PK H R es) : PK H' R es := fun x hx => (h x hx).elim fun p h => ⟨p, h.1, h.2.1.px e, h.2.2⟩
theorem PK.ko {H : Hp} {R : Pt → Prop} {es : List Ent} (h : PK H R es) : KeysOk H es := fun e he => by
  obtain ⟨p, h1, h2, _⟩ := h e he
  rw [h1]
  exact h2.key
theorem PK.nil {H : Hp} {R : Pt → Prop} : PK H R [] := fun _ z => nomatch z
theorem PK.put {H : Hp} {R : Pt → Prop} {es : List Ent} {p : Pt} {b : Addr} {v : V} (h : PK H R es) (hb : Pr2 H b p) (hp : R p) : PK H R (putE es (kP p) b v) := fun e he => by
  rcases putE_mem he with ⟨e0, h0, h1, h2⟩ | ⟨h1, h2⟩
  · rw [← h1, ← h2]
    exact h e0 h0
  · rw [h1, h2]
    exact ⟨p, rfl, hb, hp⟩
def InP (es : List Ent) (p : Pt) : Prop := (lookE es (kP p)).isSome = true
theorem InP.put {es : List Ent} {p p' : Pt} {b : Addr} {v : V} (h : InP es p) : InP (putE es (kP p') b v) p := by
  unfold InP
  rw [look_put]
  split
  · rfl
  · exact h
theorem InP.put1 {es : List Ent} {p : Pt} {b : Addr} {v : V} : InP (putE es (kP p) b v) p := by
  unfold InP
  rw [look_put, if_pos rfl]
  rfl
theorem InP.of_put {es : List Ent} {p p' : Pt} {b : Addr} {v : V} (h : InP (putE es (kP p') b v) p) : p' = p ∨ InP es p := by
  unfold InP at h
  rw [look_put] at h
  by_cases e : kP p' = kP p
  · exact .inl (kP_inj e)
  · rw [if_neg e] at h
    exact .inr h
theorem lookP_put (es : List Ent) (p p' : Pt) (b : Addr) (v : V) : lookE (putE es (kP p) b v) (kP p') = if p = p' then some v else lookE es (kP p') := by
  rw [look_put]
  by_cases e : p = p'
  · rw [if_pos e, if_pos (by rw [e])]
  · rw [if_neg e, if_neg (fun z => e (kP_inj z))]
/-- an entry of a looked-up key -/
theorem PK.at {H : Hp} {R : Pt → Prop} {es : List Ent} {p : Pt} (h : PK H R es) (hp : InP es p) : R p ∧ ∃ a, Pr2 H a p := by
  unfold InP lookE at hp
  rw [Option.isSome_map, List.find?_isSome] at hp
  obtain ⟨e, he, h2⟩ := hp
  obtain ⟨p', h1, h3, h4⟩ := h e he
  have : p' = p := kP_inj (h1.symm.trans (of_decide_eq_true h2))
  rw [this] at h3 h4
  exact ⟨h4, _, h3⟩
/-- the grid of all pairs -/
def grid : List Pt := (List.range 11).flatMap fun i : Nat => (List.range 11).map fun j : Nat => ((i : Int), (j : Int))
theorem mem_grid {p : Pt} (h : (1 ≤ p.1 ∧ p.1 ≤ 10) ∧ (1 ≤ p.2 ∧ p.2 ≤ 10)) : p ∈ grid := by
  obtain ⟨a, b⟩ := p
  refine List.mem_flatMap.mpr ⟨a.toNat, by rw [List.mem_range]; have := h.1; omega, List.mem_map.mpr ⟨b.toNat, by rw [List.mem_range]; have := h.2; omega, ?_⟩⟩
  have h1 := h.1
  have h2 := h.2
  have e1 : ((a.toNat : Nat) : Int) = a := by omega
  have e2 : ((b.toNat : Nat) : Int) = b := by omega
  rw [e1, e2]
theorem grid_len : grid.length = 121 := by decide +kernel
def mis2 (es : List Ent) : Nat := (grid.filter fun p => (lookE es (kP p)).isNone).length
theorem mis2_nil : mis2 [] = 121 := by
  have e : (grid.filter fun p => (lookE [] (kP p)).isNone) = grid := List.filter_eq_self.mpr fun p _ => rfl
  unfold mis2
  rw [e]
  exact grid_len
theorem mis2_lt {es : List Ent} {p : Pt} {b : Addr} {v : V} (h : p ∈ grid) (hn : lookE es (kP p) = none) : mis2 (putE es (kP p) b v) < mis2 es := by
  refine filter_lt (fun x _ hx => ?_) ⟨p, h, ?_, ?_⟩
  · rw [look_put] at hx
    by_cases e : kP p = kP x
    · rw [if_pos e] at hx
      cases hx
    · rw [if_neg e] at hx
      exact hx
  · rw [hn]
    rfl
  · rw [look_put, if_pos rfl]
    rfl
theorem notIn {es : List Ent} {p : Pt} (h : lookE es (kP p) = none) : ¬ InP es p := by
  unfold InP
  rw [h]
  decide
theorem inOf {es : List Ent} {p : Pt} {v : V} (h : lookE es (kP p) = some v) : InP es p := by
  unfold InP
  rw [h]
  rfl
end Cab
set_option Elab.async false
set_option linter.all false
set_option maxRecDepth 100000
set_option maxHeartbeats 2000000
set_option pp.maxSteps 1500
namespace Cab
open PySem PySem.Spec PyProof.Rows L2

local macro_rules | `(tactic| walk_at "w") => `(tactic| repeat (first | refine Gh.now ?_ | refine ⟨_, rfl, ?_⟩ | refine ⟨_, _, rfl, rfl, ?_⟩ | refine ⟨rfl, ?_⟩))
local macro_rules | `(tactic| walk_at "g") => `(tactic| repeat (first | refine ⟨_, _, rfl, rfl, ?_⟩ | refine ⟨_, _, rfl, ?_⟩ | refine ⟨rfl, ?_⟩ | refine Gh.now ?_ | refine ⟨_, rfl, ?_⟩))
local macro_rules | `(tactic| walk_at "len") => `(tactic| first | (intro hh; obtain ⟨e, _⟩ := hh; exact congrArg List.length e) | (intro hh; obtain ⟨_, e, _⟩ := hh; exact congrArg List.length e) | (intro hh; obtain ⟨_, _, e, _⟩ := hh; exact congrArg List.length e) | (intro hh; obtain ⟨_, _, _, e, _⟩ := hh; exact congrArg List.length e) | (intro hh; obtain ⟨_, _, _, _, e, _⟩ := hh; exact congrArg List.length e) | (intro hh; obtain ⟨_, _, _, _, _, e, _⟩ := hh; exact congrArg List.length e) | (intro hh; obtain ⟨_, _, _, _, _, _, e, _⟩ := hh; exact congrArg List.length e) | (intro hh; obtain ⟨_, _, _, _, _, _, _, e, _⟩ := hh; exact congrArg List.length e) | (intro hh; obtain ⟨_, _, _, _, _, _, _, _, e, _⟩ := hh; exact congrArg List.length e) | (intro hh; obtain ⟨_, _, _, _, _, _, _, _, _, e, _⟩ := hh; exact congrArg List.length e) | (intro hh; obtain ⟨_, _, _, _, _, _, _, _, _, _, e, _⟩ := hh; exact congrArg List.length e) | (intro hh; obtain ⟨_, _, _, _, _, _, _, _, _, _, _, e, _⟩ := hh; exact congrArg List.length e) | (intro hh; obtain ⟨_, _, _, _, _, _, _, _, _, _, _, _, e, _⟩ := hh; exact congrArg List.length e))
variable {P : Program} {w : World} {K : PySem.W.Frag} {mg : Str → Option Value} {base : Heap}

def pr_pair_steps (P : Program) (w : World) (K : PySem.W.Frag) : Pr := fun vs H Q => ∃ (m1 m2 pa : Addr) (c : W2) (p : Pt), vs = [.ref m1, .ref m2, .ref pa, .int c.top] ∧ c.Ok ∧ MetAt P w K H m1 c.M1 ∧ MetAt P w K H m2 c.M2 ∧ Pr2 H pa p ∧ Rch c.M1 p.1 ∧ Rch c.M2 p.2 ∧
  ∀ L H', Same H H' → PList c H' p (.ref L) → Q (.ref L) H'
theorem ok_pair_steps (T : Wd K mg base) : Fn P w K mg base 5 (He.ga K "pair_steps") (pr_pair_steps P w K) := by
  obtain ⟨fd, F0⟩ := T.fdef 12 (d := d_pair_steps)
  have F : FunD K "pair_steps" "pair_steps" (defArgs s_pair_steps) (defBody s_pair_steps) (defScope s_pair_steps) [] [] (He.ga K "pair_steps") fd := F0
  refine fn_mk (N := N_pair_steps) (ps := ["one", "other", "pair", "top"]) F sc_pair_steps (fun kV doc pm an cdv ct us hl => match us, hl with | [u0, u1, u2, u3], _ => rfl) (fun vs H Q => by walk_at "len") fun cdv A outer s H vs Q E hr h => ?_
  refine ⟨_, (pss_gcons (ps_set (i := 4) sc_pair_steps.nd rfl (Or.inl rfl) (pe_lst pa_nil)) (pss_cons (ps_for PassesOwn.never rfl (pi_range1 rfl T.f_range (pa_cons (pe_op op_add (pv 3) pe_int) pa_nil)) (pg_name (i := 5) sc_pair_steps.nd rfl (Or.inl rfl)) (pss_gcons (ps_asg (pe_M (ok_Meter_after T) (hr.mono (by decide)) T.cls_Meter T.m_Meter_after (pv 0) (pa_cons (pe_ix (ix_tup : IxR _ (rIxT K)) (pv 2) pe_int (fun _ _ => rfl)) (pa_cons (pv 5) pa_nil))) (pg_tupK (n := 2) rfl (pgs_cons (pg_name (i := 6) sc_pair_steps.nd rfl (Or.inl rfl)) (pgs_cons (pg_name (i := 7) sc_pair_steps.nd rfl (Or.inl rfl)) pgs_nil)))) (pss_gcons (ps_asg (pe_M (ok_Meter_after T) (hr.mono (by decide)) T.cls_Meter T.m_Meter_after (pv 1) (pa_cons (pe_ix (ix_tup : IxR _ (rIxT K)) (pv 2) pe_int (fun _ _ => rfl)) (pa_cons (pv 5) pa_nil))) (pg_tupK (n := 2) rfl (pgs_cons (pg_name (i := 8) sc_pair_steps.nd rfl (Or.inl rfl)) (pgs_cons (pg_name (i := 9) sc_pair_steps.nd rfl (Or.inl rfl)) pgs_nil)))) (pss_one (ps_expr (pe_bm PySem.F.plainAttrs_list PySem.F.slot_list_append PySem.F.type_list_append mt_append (pv 4) (pa_cons (pe_tup (pa_cons (pv 5) (pa_cons (pe_op op_sub (pe_op op_mul (pe_P (ok_Meter_each T) (hr.mono (by decide)) T.cls_Meter T.p_Meter_each (pv 0)) (pv 7)) (pe_op op_mul (pe_P (ok_Meter_each T) (hr.mono (by decide)) T.cls_Meter T.p_Meter_each (pv 1)) (pv 9))) (pa_cons (pe_tup (pa_cons (pv 6) (pa_cons (pv 8) pa_nil))) pa_nil)))) pa_nil))))))) (pss_one (ps_ret (pe_gh (pv 4)))))), ?_⟩
  obtain ⟨m1, m2, pa, c, p, rfl, oc, hm1, hm2, hp, r1, r2, q⟩ := h
  have tp := oc.tp
  obtain ⟨ad1, i1, _⟩ := id hm1
  obtain ⟨o1, dx1, an1, a21, a31, tb1, h11, _⟩ := id i1
  obtain ⟨ad2, i2, _⟩ := id hm2
  obtain ⟨o2, dx2, an2, a22, a32, tb2, h21, _⟩ := id i2
  obtain ⟨x, y, hpa, sx, sy⟩ := id hp
  walk_at "w"
  refine ⟨sz, fun L hL => .now ?_⟩
  walk_at "w"
  refine ⟨by omega, by omega, ?_⟩
  refine for_go (c.top + 1) (fun i σ H' => ∃ (s5 s6 s7 s8 s9 : Option V) (ts : List V), σ = [some (.ref m1), some (.ref m2), some (.ref pa), some (.int c.top), some (.ref L), s5, s6, s7, s8, s9] ∧ Same H H' ∧ H' L = some (.lst ts) ∧ ts.length = i ∧ ∀ v, v < i → ∃ sa, ts[v]? = some (.ref sa) ∧ PStep c H' sa p v) ?_ ?_ ?_
  · exact ⟨_, _, _, _, _, [], rfl, same_new hL, upd_same, rfl, fun v hv => by omega⟩
  · rintro i σ H' hi ⟨s5, s6, s7, s8, s9, ts, rfl, e, hts, hln, hst⟩
    have hi9 : i < 10 := by omega
    refine ⟨show i < ((c.top : Int) + 1 - 0).toNat by omega, fun v H'' hv => ?_⟩
    obtain ⟨rfl, rfl⟩ := hv
    rw [Int.zero_add]
    have p0 := Px.of _ _ e
    refine ⟨_, rfl, _, _, _, rfl, e _ _ h11, rfl, ?_⟩
    walk_at "w"
    refine ⟨_, _, _, _, rfl, rfl, sqT_of (e _ _ hpa), rfl, ?_⟩
    walk_at "w"
    refine ⟨_, _, c.M1, _, i, rfl, hm1.px p0, sx.px p0, r1, hi9, fun sa H1 e1 hsa => ?_⟩
    obtain ⟨g, hg, sg⟩ := hsa
    refine ⟨_, _, rfl, sqT_of hg, rfl, ?_⟩
    walk_at "g"
    have p1 := p0.trans (.of _ _ e1)
    refine ⟨_, _, _, rfl, p1 _ _ h21 True.intro, rfl, ?_⟩
    walk_at "w"
    refine ⟨_, _, _, _, rfl, rfl, sqT_of (p1 _ _ hpa True.intro), rfl, ?_⟩
    walk_at "w"
    refine ⟨_, _, c.M2, _, i, rfl, hm2.px p1, sy.px p1, r2, hi9, fun sb H2 e2 hsb => ?_⟩
    obtain ⟨g2, hg2, sg2⟩ := hsb
    refine ⟨_, _, rfl, sqT_of hg2, rfl, ?_⟩
    walk_at "g"
    have e02 := (e.trans e1).trans e2
    have p2 := Px.of _ _ e02
    have hts2 := e2 _ _ (e1 _ _ hts)
    refine ⟨.inl ⟨rfl, _, sqL_of hts2⟩, ?_⟩
    walk_at "w"
    refine ⟨_, _, _, rfl, p2 _ _ h11 True.intro, _, _, _, rfl, i1.px p2, ?_⟩
    walk_at "w"
    have := o1.e1
    have := o1.e2
    have := o2.e1
    have := o2.e2
    refine ⟨.inl (by omega), ?_⟩
    walk_at "w"
    refine ⟨_, _, _, rfl, p2 _ _ h21 True.intro, _, _, _, rfl, i2.px p2, ?_⟩
    walk_at "w"
    refine ⟨.inl (by omega), ?_⟩
    walk_at "w"
    refine ⟨sz, fun b hb => ?_⟩
    refine ⟨sz, fun b2 hb2 => ?_⟩
    have e3 : Same H2 (upd (upd H2 b (.tup [.ref g, .ref g2])) b2 (.tup [.int i, .int (c.gn p i), .ref b])) := (same_new hb).trans (same_new hb2)
    have nb : b ≠ b2 := fun z => by rw [← z, upd_same] at hb2; cases hb2
    have hb3 : Pr2 (upd (upd H2 b (.tup [.ref g, .ref g2])) b2 (.tup [.int i, .int (c.gn p i), .ref b])) b (c.nx p i) := ⟨g, g2, by rw [upd_ne nb, upd_same], (sg.px (.of _ _ e2)).px (.of _ _ e3), sg2.px (.of _ _ e3)⟩
    have hb4 : PStep c (upd (upd H2 b (.tup [.ref g, .ref g2])) b2 (.tup [.int i, .int (c.gn p i), .ref b])) b2 p i := ⟨b, upd_same, hb3⟩
    have hts3 := e3 _ _ hts2
    refine ⟨_, _, _, rfl, rfl, hts3, szL (by omega), ?_⟩
    have eE := e02.trans e3
    show ∃ (s5 s6 s7 s8 s9 : Option V) (ts' : List V), _ = _ ∧ Same H (upd (upd (upd H2 b (.tup [.ref g, .ref g2])) b2 (.tup [.int i, .int (c.gn p i), .ref b])) L (.lst (ts ++ [.ref b2]))) ∧ (upd (upd (upd H2 b (.tup [.ref g, .ref g2])) b2 (.tup [.int i, .int (c.gn p i), .ref b])) L (.lst (ts ++ [.ref b2]))) L = some (.lst ts') ∧ ts'.length = i + 1 ∧ ∀ v, v < i + 1 → ∃ sa, ts'[v]? = some (.ref sa) ∧ PStep c (upd (upd (upd H2 b (.tup [.ref g, .ref g2])) b2 (.tup [.int i, .int (c.gn p i), .ref b])) L (.lst (ts ++ [.ref b2]))) sa p v
    generalize upd (upd H2 b (.tup [.ref g, .ref g2])) b2 (.tup [.int i, .int (c.gn p i), .ref b]) = H3 at e3 hb3 hb4 hts3 eE ⊢
    have pm : Px H3 (upd H3 L (.lst (ts ++ [.ref b2]))) := Px.mut hts3 (fun z => z)
    refine ⟨_, _, _, _, _, _, rfl, same_mut eE hL, upd_same, by rw [List.length_append, List.length_singleton]; omega, fun v hv => ?_⟩
    by_cases hvi : v < i
    · obtain ⟨sa, h1, h2⟩ := hst v hvi
      refine ⟨sa, by rw [List.getElem?_append_left (by omega)]; exact h1, (h2.px ?_).px pm⟩
      exact ((Px.of _ _ e1).trans (.of _ _ e2)).trans (.of _ _ e3)
    · have : v = i := by omega
      subst this
      exact ⟨b2, by rw [List.getElem?_append_right (by omega), hln, Nat.sub_self]; rfl, hb4.px pm⟩
  · rintro σ H' ⟨s5, s6, s7, s8, s9, ts, rfl, e, hts, hln, hst⟩
    refine ⟨show ((c.top : Int) + 1 - 0).toNat ≤ c.top + 1 by omega, ?_⟩
    refine ⟨_, rfl, .frz hts True.intro fun ob => .now ?_⟩
    have pm : Px H' (upd H' L (.frz ob (.lst ts))) := Px.frz hts (fun z => z)
    exact q L _ (same_mut e hL) ⟨L, ts, rfl, Ls.mk', hln, fun i hi => (hst i (by omega)).elim fun sa h => ⟨sa, h.1, h.2.px pm⟩⟩
end Cab
set_option Elab.async false
set_option linter.all false
set_option maxRecDepth 100000
set_option maxHeartbeats 2000000
set_option pp.maxSteps 1500
namespace Cab
open PySem PySem.Spec PyProof.Rows L2

local macro_rules | `(tactic| walk_at "w") => `(tactic| repeat (first | refine Gh.now ?_ | refine ⟨_, rfl, ?_⟩ | refine ⟨_, _, rfl, rfl, ?_⟩ | refine ⟨rfl, ?_⟩))
local macro_rules | `(tactic| walk_at "g") => `(tactic| repeat (first | refine ⟨_, _, rfl, rfl, ?_⟩ | refine ⟨_, _, rfl, ?_⟩ | refine ⟨rfl, ?_⟩ | refine Gh.now ?_ | refine ⟨_, rfl, ?_⟩))
local macro_rules | `(tactic| walk_at "len") => `(tactic| first | (intro hh; obtain ⟨e, _⟩ := hh; exact congrArg List.length e) | (intro hh; obtain ⟨_, e, _⟩ := hh; exact congrArg List.length e) | (intro hh; obtain ⟨_, _, e, _⟩ := hh; exact congrArg List.length e) | (intro hh; obtain ⟨_, _, _, e, _⟩ := hh; exact congrArg List.length e) | (intro hh; obtain ⟨_, _, _, _, e, _⟩ := hh; exact congrArg List.length e) | (intro hh; obtain ⟨_, _, _, _, _, e, _⟩ := hh; exact congrArg List.length e) | (intro hh; obtain ⟨_, _, _, _, _, _, e, _⟩ := hh; exact congrArg List.length e) | (intro hh; obtain ⟨_, _, _, _, _, _, _, e, _⟩ := hh; exact congrArg List.length e) | (intro hh; obtain ⟨_, _, _, _, _, _, _, _, e, _⟩ := hh; exact congrArg List.length e) | (intro hh; obtain ⟨_, _, _, _, _, _, _, _, _, e, _⟩ := hh; exact congrArg List.length e) | (intro hh; obtain ⟨_, _, _, _, _, _, _, _, _, _, e, _⟩ := hh; exact congrArg List.length e) | (intro hh; obtain ⟨_, _, _, _, _, _, _, _, _, _, _, e, _⟩ := hh; exact congrArg List.length e) | (intro hh; obtain ⟨_, _, _, _, _, _, _, _, _, _, _, _, e, _⟩ := hh; exact congrArg List.length e))
variable {P : Program} {w : World} {K : PySem.W.Frag} {mg : Str → Option Value} {base : Heap}

/-- all pairs' steps -/
def StepsP (P : Program) (w : World) (c : W2) (H : Hp) (D : Addr) : Prop := ∃ o es, H D = some (.frz o (dNo P w D es)) ∧ PK H (RP c) es ∧ ∀ p, RP c p → ∃ v, lookE es (kP p) = some v ∧ PList c H p v
theorem StepsP.px {P : Program} {w : World} {c : W2} {H H' : Hp} {D : Addr} (e : Px H H') (h : StepsP P w c H D) : StepsP P w c H' D := by
  obtain ⟨o, es, h1, h2, h3⟩ := h
  exact ⟨o, es, e _ _ h1 True.intro, h2.px e, fun l hl => (h3 l hl).elim fun v h => ⟨v, h.1, h.2.px e⟩⟩
structure Pf (P : Program) (w : World) (c : W2) (fd la : Addr) (H : Hp) (es : List Ent) (as : List Addr) : Prop where
  d : H fd = some (dNo P w fd es)
  pk : PK H (RP c) es
  ln : H la = some (.lst (as.map V.ref))
  st : ∀ a ∈ as, ∃ p, Pr2 H a p ∧ RP c p
  ok : ∀ p v, lookE es (kP p) = some v → PList c H p v
  cl : ∀ p, InP es p → ∀ v, v ≤ c.top → InP es (c.nx p v) ∨ ∃ a ∈ as, Pr2 H a (c.nx p v)
  fi : InP es c.fst ∨ ∃ a ∈ as, Pr2 H a c.fst
  s1 : es.length + mis2 es ≤ 121
  s2 : as.length + 11 * mis2 es ≤ 2000
theorem Pr2.eq {H : Hp} {a : Addr} {p p' : Pt} (h : Pr2 H a p) (h' : Pr2 H a p') : p = p' := by
  have h1 : IsK H (kP p) (.ref a) := h.key
  obtain ⟨x, y, e1, e2, e3⟩ := h
  obtain ⟨x', y', e1', e2', e3'⟩ := h'
  rw [e1] at e1'
  cases e1'
  unfold St at *
  rw [e2] at e2'
  rw [e3] at e3'
  obtain ⟨a1, b1⟩ := p
  obtain ⟨a2, b2⟩ := p'
  cases e2'
  cases e3'
  rfl
def pr_pairs_from (P : Program) (w : World) (K : PySem.W.Frag) : Pr := fun vs H Q => ∃ (m1 m2 s fa : Addr) (c : W2), vs = [.ref m1, .ref m2, .int c.top, .ref s] ∧ c.Ok ∧ MetAt P w K H m1 c.M1 ∧ MetAt P w K H m2 c.M2 ∧ SqL K H s [.ref fa] ∧ Pr2 H fa c.fst ∧
  ∀ D H', H D = none → Same H H' → StepsP P w c H' D → Q (.ref D) H'
theorem ok_pairs_from (T : Wd K mg base) : Fn P w K mg base 6 (He.ga K "pairs_from") (pr_pairs_from P w K) := by
  obtain ⟨fd, F0⟩ := T.fdef 14 (d := d_pairs_from)
  have F : FunD K "pairs_from" "pairs_from" (defArgs s_pairs_from) (defBody s_pairs_from) (defScope s_pairs_from) [] [] (He.ga K "pairs_from") fd := F0
  refine fn_mk (N := N_pairs_from) (ps := ["one", "other", "top", "sources"]) F sc_pairs_from (fun kV doc pm an cdv ct us hl => match us, hl with | [u0, u1, u2, u3], _ => rfl) (fun vs H Q => by walk_at "len") fun cdv A outer s H vs Q E hr h => ?_
  refine ⟨_, (pss_gcons (ps_set (i := 4) sc_pairs_from.nd rfl (Or.inl rfl) pe_dnNew) (pss_gcons (ps_set (i := 5) sc_pairs_from.nd rfl (Or.inl rfl) (pe_callTy call_list_of (by rfl) T.f_list (by decide +kernel) (pa_cons (pv 3) pa_nil))) (pss_cons (ps_while PassesOwn.never (pt_truth (pv 5) (by intro _; rfl)) (pss_gcons (ps_set (i := 6) sc_pairs_from.nd rfl (Or.inl rfl) (pe_bm0 PySem.F.plainAttrs_list PySem.F.slot_list_pop PySem.F.type_list_pop mt_pop (pv 5))) (pss_one (ps_if (pt_cmpR (op_dnNotIn (hu64 hr) : OpR _ _ (rDnIn P w true)) (pv 6) (pv 4) (by rfl)) (pss_gcons (ps_asg (pe_R (ok_pair_steps T) (hr.mono (by decide)) T.g_pair_steps T.k_pair_steps (pa_cons (pv 0) (pa_cons (pv 1) (pa_cons (pv 6) (pa_cons (pv 2) pa_nil))))) (pg_sub (pv 4) (pv 6) (set_dn (hu64 hr)))) (pss_one (ps_expr (pe_bm PySem.F.plainAttrs_list PySem.F.slot_list_extend PySem.F.type_list_extend mt_extend (pv 5) (pa_cons (pe_lc (own := [("speed", 7), ("gain", 8), ("goal", 9)]) rfl sc_pairs_from.nd (pi_listK (K := K) (pe_dnK (P := P) (w := w) (hu64 hr) (pv 4) (pv 6))) (blkOk_by (own := [("speed", 7), ("gain", 8), ("goal", 9)]) (N := N_pairs_from) (sc := defScope s_pairs_from) (by decide +kernel)) (fun _ _ _ _ _ => (pg_tupK (n := 3) rfl (pgs_cons (pg_name (i := 7) sc_pairs_from.nd rfl (Or.inl rfl)) (pgs_cons (pg_name (i := 8) sc_pairs_from.nd rfl (Or.inl rfl)) (pgs_cons (pg_name (i := 9) sc_pairs_from.nd rfl (Or.inl rfl)) pgs_nil))))) (fun _ _ _ _ _ => pts_nil) (fun _ _ _ _ _ => (pv 9))) pa_nil))))) pss_nil)))) (pss_one (ps_ret (pe_gh (pv 4))))))), ?_⟩
  obtain ⟨m1, m2, s, fa, c, rfl, oc, hm1, hm2, hs, hfa, q⟩ := h
  have tp := oc.tp
  intro fd hfd
  refine .now ?_
  walk_at "w"
  have e1 : Same H (upd H fd (dNo P w fd [])) := same_new hfd
  have d1 : upd H fd (dNo P w fd []) fd = some (dNo P w fd []) := upd_same
  refine ⟨_, _, rfl, .inl (SqL.same e1 hs), fun la hla => .now ?_⟩
  have hla' : upd H fd (dNo P w fd []) la = none := hla
  have nl : la ≠ fd := fun z => by rw [z, d1] at hla'; cases hla'
  have e2 : Same H (upd (upd H fd (dNo P w fd [])) la (.lst [.ref fa])) := e1.trans (same_new hla)
  have frl : H la = none := fresh_of e1 hla
  refine ⟨fun m σ H' => ∃ (s6 s7 s8 s9 : Option V) (es : List Ent) (as : List Addr), σ = [some (.ref m1), some (.ref m2), some (.int c.top), some (.ref s), some (.ref fd), some (.ref la), s6, s7, s8, s9] ∧ m = 12 * mis2 es + as.length ∧ Same H H' ∧ Pf P w c fd la H' es as,
    ⟨_, _, _, _, _, [], [fa], rfl, rfl, e2, (same_new hla) _ _ d1, PK.nil, upd_same, (fun a ha => by rw [List.mem_singleton.mp ha]; exact ⟨_, hfa.px (.of _ _ e2), .first⟩), (fun p v z => by cases z), (fun p z => by cases z), .inr ⟨fa, List.mem_singleton.mpr rfl, hfa.px (.of _ _ e2)⟩, by rw [mis2_nil]; exact Nat.le_refl _, by rw [mis2_nil]; exact Nat.le_of_ble_eq_true rfl⟩, ?_⟩
  rintro m σ H8 ⟨s6, s7, s8, s9, es, as, rfl, rfl, e8, k⟩
  have p8 := Px.of _ _ e8
  walk_at "w"
  refine ⟨_, .inl ⟨_, sqL_of k.ln, rfl⟩, ?_⟩
  rcases List.eq_nil_or_concat as with rfl | ⟨as', a, ea⟩
  · refine iF rfl ?_
    refine ⟨_, rfl, .frz k.d True.intro fun ob => .now ?_⟩
    have pm := Px.frz (o := ob) k.d dNo_imm
    refine q fd _ hfd (same_mut e8 hfd) ⟨ob, es, upd_same, k.pk.px pm, fun p hp => ?_⟩
    have hin : InP es p := by
      induction hp with
      | first =>
        rcases k.fi with h | ⟨a, ha, _⟩
        · exact h
        · cases ha
      | step h hv ih =>
        rcases k.cl _ ih _ hv with h | ⟨a, ha, _⟩
        · exact h
        · cases ha
    obtain ⟨v, hv⟩ := Option.isSome_iff_exists.mp hin
    exact ⟨v, hv, (k.ok p v hv).px pm⟩
  · rw [List.concat_eq_append] at ea
    subst ea
    refine iT (by simp) ?_
    obtain ⟨p, sp, rp⟩ := k.st a (List.mem_append_right _ (List.mem_singleton.mpr rfl))
    refine ⟨_, fun σ' H' h => h, ?_⟩
    refine ⟨_, rfl, .inl ⟨rfl, _, sqL_of k.ln⟩, la, (as' ++ [a]).map V.ref, .ref a, rfl, rfl, k.ln, by simp, .now ?_⟩
    have ed : ((as' ++ [a]).map V.ref).dropLast = as'.map V.ref := by simp
    rw [ed]
    have nal : fd ≠ la := nl.symm
    have p9 : Px H8 (upd H8 la (.lst (as'.map V.ref))) := Px.mut k.ln (fun z => z)
    have d9 : upd H8 la (.lst (as'.map V.ref)) fd = some (dNo P w fd es) := by rw [upd_ne nal]; exact k.d
    have l9 : upd H8 la (.lst (as'.map V.ref)) la = some (.lst (as'.map V.ref)) := upd_same
    have e9 : Same H (upd H8 la (.lst (as'.map V.ref))) := same_mut e8 frl
    generalize upd H8 la (.lst (as'.map V.ref)) = H9 at p9 d9 l9 e9 ⊢
    walk_at "w"
    refine ⟨fd, a, es, kP p, rfl, rfl, ⟨.of d9, k.pk.ko.px p9⟩, (sp.px p9).key, kP_dp _, ?_⟩
    walk_at "w"
    cases hk : lookE es (kP p) with
    | some v0 =>
      have mv : ∀ p', (InP es p' ∨ ∃ b ∈ as' ++ [a], Pr2 H8 b p') → InP es p' ∨ ∃ b ∈ as', Pr2 H9 b p' := by
        rintro p' (h | ⟨b, hb, hs⟩)
        · exact .inl h
        · rcases List.mem_append.mp hb with hb | hb
          · exact .inr ⟨b, hb, hs.px p9⟩
          · rw [List.mem_singleton.mp hb] at hs
            rw [← sp.eq hs]
            exact .inl (inOf hk)
      refine iF rfl ?_
      exact ⟨12 * mis2 es + as'.length, by simp, some (.ref a), _, _, _, es, as', rfl, rfl, e9, d9, k.pk.px p9, l9, fun b hb => (k.st b (List.mem_append_left _ hb)).elim fun l h => ⟨l, h.1.px p9, h.2⟩, fun l v h => (k.ok l v h).px p9, fun l h v hv => mv _ (k.cl l h v hv), mv _ k.fi, k.s1, by have := k.s2; simp at this; omega⟩
    | none =>
      refine iT rfl ?_
      have q9 := Px.of _ _ e9
      walk_at "w"
      refine ⟨m1, m2, a, c, p, rfl, oc, hm1.px q9, hm2.px q9, sp.px p9, (rp.rch oc).1, (rp.rch oc).2, fun L H10 e10 hL => ?_⟩
      have p10 := Px.of _ _ e10
      have d10 := e10 _ _ d9
      have hms := mis2_lt (b := a) (v := V.ref L) (mem_grid (rp.bd oc)) hk
      have hpl := put_len es (kP p) a (.ref L)
      have ks1 := k.s1
      have ks2 := k.s2
      rw [List.length_append, List.length_singleton] at ks2
      walk_at "w"
      refine ⟨fd, a, es, kP p, rfl, rfl, d10, (k.pk.ko.px p9).px p10, ((sp.px p9).px p10).key, kP_dp _, szL (by omega), .now ?_⟩
      have lk : lookE (putE es (kP p) a (.ref L)) (kP p) = some (.ref L) := by rw [look_put, if_pos rfl]
      have pk10 : PK H10 (RP c) (putE es (kP p) a (.ref L)) := ((k.pk.px p9).px p10).put ((sp.px p9).px p10) rp
      have p11 : Px H10 (upd H10 fd (dNo P w fd (putE es (kP p) a (.ref L)))) := Px.mut d10 dNo_imm
      have d11 : upd H10 fd (dNo P w fd (putE es (kP p) a (.ref L))) fd = some (dNo P w fd (putE es (kP p) a (.ref L))) := upd_same
      have l11 : upd H10 fd (dNo P w fd (putE es (kP p) a (.ref L))) la = some (.lst (as'.map V.ref)) := by rw [upd_ne nl]; exact e10 _ _ l9
      have e11 : Same H (upd H10 fd (dNo P w fd (putE es (kP p) a (.ref L)))) := same_mut (e9.trans e10) hfd
      show tDrop _ _ _ (upd H10 fd (dNo P w fd (putE es (kP p) a (.ref L))))
      generalize upd H10 fd (dNo P w fd (putE es (kP p) a (.ref L))) = H11 at p11 d11 l11 e11 ⊢
      have pk11 := pk10.px p11
      have hL11 := hL.px p11
      obtain ⟨la2, ts, eL, hLs, hts, hst⟩ := id hL11
      cases eL
      refine ⟨_, rfl, .inl ⟨rfl, _, sqL_of l11⟩, ?_⟩
      walk_at "w"
      refine ⟨fd, a, _, kP p, _, rfl, rfl, ⟨.of d11, pk11.ko⟩, (((sp.px p9).px p10).px p11).key, kP_dp _, lk, ?_⟩
      refine ⟨_, rfl, ⟨_, hLs.sq⟩, fun D2 hD2 => ?_⟩
      refine lc_rel (c.top + 1) (fun v y H => ∃ g, y = .ref g ∧ Pr2 H g (c.nx p v)) hD2 (fun i H' hi cr => ?_) fun gs H13 hgs e13 hl13 hR2 => ⟨⟨_, (hLs.px (.of _ _ e13)).sq, by omega⟩, ?_⟩
      · refine ⟨itl_go (hLs.px cr.px).sq (by omega), fun y H'' hy => ?_⟩
        obtain ⟨rfl, hy⟩ := hy
        have hy := hy _ (hLs.px cr.px).sq
        obtain ⟨sa, h1, g, h2, h3⟩ := hst i (by omega)
        rw [h1] at hy
        obtain rfl : V.ref sa = y := Option.some.inj hy
        refine ⟨_, _, rfl, sqT_of (cr.px _ _ h2 True.intro), rfl, ?_⟩
        walk_at "g"
        exact CR.fin (fun i y H H' e h => h.elim fun sa h => ⟨sa, h.1, h.2.px e⟩) cr (by omega) (Same.refl _) ⟨g, rfl, h3.px cr.px⟩
      have p13 : Px H11 H13 := .of _ _ e13
      obtain ⟨gas, rfl, hga⟩ := refs_of gs _ hR2
      rw [List.length_map] at hgs
      have hgg : ∀ v, v ≤ c.top → ∃ g ∈ gas, Pr2 H13 g (c.nx p v) := fun v hv => ⟨gas[v], List.getElem_mem (by omega), hga v _ (List.getElem?_eq_getElem (by omega))⟩
      have l13 := e13 _ _ l11
      have d13 := e13 _ _ d11
      walk_at "w"
      refine ⟨la, D2, _, _, rfl, rfl, l13, hl13, by simp; exact Nat.le_trans (by omega : as'.length + gas.length ≤ 3000) (by decide), ?_⟩
      have p14 : Px H13 (upd H13 la (.lst (as'.map V.ref ++ gas.map V.ref))) := Px.mut l13 (fun z => z)
      have pq := p13.trans p14
      have pp : Px H8 (upd H13 la (.lst (as'.map V.ref ++ gas.map V.ref))) := ((p9.trans p10).trans p11).trans pq
      have mv : ∀ p', (InP es p' ∨ ∃ b ∈ as' ++ [a], Pr2 H8 b p') → InP (putE es (kP p) a (.ref L)) p' ∨ ∃ b ∈ as' ++ gas, Pr2 (upd H13 la (.lst (as'.map V.ref ++ gas.map V.ref))) b p' := by
        rintro p' (h | ⟨b, hb, hs⟩)
        · exact .inl h.put
        · rcases List.mem_append.mp hb with hb | hb
          · exact .inr ⟨b, List.mem_append_left _ hb, hs.px pp⟩
          · rw [List.mem_singleton.mp hb] at hs
            rw [← sp.eq hs]
            exact .inl InP.put1
      refine ⟨_, by simp; omega, some (.ref a), _, _, _, putE es (kP p) a (.ref L), as' ++ gas, rfl, rfl, same_mut (e11.trans e13) frl, by rw [upd_ne nal]; exact d13, pk11.px pq, by rw [upd_same, List.map_append], ?_, ?_, ?_, mv _ k.fi, by omega, by rw [List.length_append]; omega⟩
      · intro b hb
        rcases List.mem_append.mp hb with hb | hb
        · obtain ⟨l, h1, h2⟩ := k.st b (List.mem_append_left _ hb)
          exact ⟨l, h1.px pp, h2⟩
        · obtain ⟨v, hv, e⟩ := List.mem_iff_getElem.mp hb
          rw [← e]
          exact ⟨_, (hga v _ (List.getElem?_eq_getElem hv)).px p14, .step rp (by omega)⟩
      · intro p' v h
        rw [lookP_put] at h
        by_cases ek : p = p'
        · rw [if_pos ek] at h
          cases h
          rw [← ek]
          exact hL11.px pq
        · rw [if_neg ek] at h
          exact (k.ok p' v h).px pp
      · intro p' h v hv
        rcases h.of_put with e | h
        · rw [← e]
          obtain ⟨g, h1, h2⟩ := hgg v hv
          exact .inr ⟨g, List.mem_append_right _ h1, h2.px p14⟩
        · exact mv _ (k.cl p' h v hv)
end Cab
set_option Elab.async false
set_option linter.all false
set_option maxRecDepth 100000
set_option maxHeartbeats 2000000
namespace Cab
open PySem PySem.Spec PyProof.Rows L2
/-! ### the plain law: counts, lefts, jumps -/
def Mt.lf (M : Mt) (c : Int) : Int := if c < M.first then M.first - c else M.drop - (c - M.first) % M.drop
theorem Mt.lf_on (M : Mt) (o : M.Ok) (c : Int) (v : Nat) (hc : 0 ≤ c) : M.lf (M.on c v) = M.goal (M.lf c) v ∧ M.J (M.on c v) = M.J c + M.many (M.lf c) v := by
  have hw := (o.wt0 v).1
  have d0 := o.d1
  unfold Mt.lf Mt.goal Mt.J Mt.many Mt.on
  generalize M.wt v = w at hw ⊢
  generalize M.first = f
  generalize hd : M.drop = d at d0 ⊢
  by_cases h : c < f
  · by_cases h2 : w < f - c
    · have h3 : c + w < f := by omega
      simp only [if_pos h, if_pos h2, if_pos h3]
      omega
    · have h3 : ¬ c + w < f := by omega
      simp only [if_pos h, if_neg h2, if_neg h3]
      rw [show c + w - f = w - (f - c) by omega]
      omega
  · have h3 : ¬ c + w < f := by omega
    simp only [if_neg h, if_neg h3]
    have e := Int.emod_add_mul_ediv (c - f) d
    have r0 := Int.emod_nonneg (c - f) (show d ≠ 0 by omega)
    have r1 := Int.emod_lt_of_pos (c - f) (show 0 < d by omega)
    generalize hr : (c - f) % d = r at e r0 r1 ⊢
    generalize hk : (c - f) / d = k at e ⊢
    by_cases h2 : w < d - r
    · simp only [if_pos h2]
      have e2 : c + w - f = (r + w) + d * k := by omega
      rw [e2, Int.add_mul_emod_self_left, Int.add_mul_ediv_left _ _ (show d ≠ 0 by omega), Int.emod_eq_of_lt (by omega) (by omega), Int.ediv_eq_zero_of_lt (by omega) (by omega)]
      omega
    · simp only [if_neg h2]
      have e2 : c + w - f = (w - (d - r)) + d * (k + 1) := by
        rw [Int.mul_add, Int.mul_one]
        omega
      rw [e2, Int.add_mul_emod_self_left, Int.add_mul_ediv_left _ _ (show d ≠ 0 by omega)]
      omega
theorem Mt.J0 (M : Mt) (o : M.Ok) (c : Int) : 0 ≤ M.J c := by
  unfold Mt.J
  split
  · exact Int.le_refl 0
  · have := Int.ediv_nonneg (show 0 ≤ c - M.first by omega) (show 0 ≤ M.drop by have := o.d1; omega)
    omega
theorem Mt.cnt_snoc (M : Mt) (ds : List Nat) (v : Nat) : M.cnt (ds ++ [v]) = M.on (M.cnt ds) v := by
  unfold Mt.cnt
  rw [List.foldl_append]
  rfl
/-- the second is the dearer one -/
structure Dear (M1 M2 : Mt) : Prop where
  w : ∀ v, M1.wt v ≤ M2.wt v
  f : M2.first ≤ M1.first
  d : M1.drop = M2.drop
  g : M1.flag ≤ M2.flag
  e : M1.each ≤ M2.each
theorem Dear.J {M1 M2 : Mt} (D : Dear M1 M2) (o1 : M1.Ok) (o2 : M2.Ok) {c1 c2 : Int} (h : c1 ≤ c2) : M1.J c1 ≤ M2.J c2 := by
  by_cases h1 : c1 < M1.first
  · have := M2.J0 o2 c2
    unfold Mt.J at *
    rw [if_pos h1]
    exact this
  · have hf := D.f
    unfold Mt.J
    rw [if_neg h1, if_neg (by omega), ← D.d]
    have := Int.ediv_le_ediv (show 0 < M1.drop by have := o1.d1; omega) (show c1 - M1.first ≤ c2 - M2.first by omega)
    omega
theorem Dear.eJ {M1 M2 : Mt} (D : Dear M1 M2) (o1 : M1.Ok) (o2 : M2.Ok) {c1 c2 : Int} (h : c1 ≤ c2) : M1.each * M1.J c1 ≤ M2.each * M2.J c2 :=
  Int.mul_le_mul D.e (D.J o1 o2 h) (M1.J0 o1 c1) (by have := o2.e1; omega)
theorem Dear.pr {M1 M2 : Mt} (D : Dear M1 M2) (o1 : M1.Ok) (o2 : M2.Ok) {c1 c2 : Int} (h : c1 ≤ c2) : M1.pr c1 ≤ M2.pr c2 := by
  have := D.eJ o1 o2 h
  have := D.g
  unfold Mt.pr
  omega
theorem Dear.cnt {M1 M2 : Mt} (D : Dear M1 M2) (ds : List Nat) : M1.cnt ds ≤ M2.cnt ds := by
  have : ∀ (ds : List Nat) (a b : Int), a ≤ b → ds.foldl M1.on a ≤ ds.foldl M2.on b := by
    intro ds
    induction ds with
    | nil => intro a b h; exact h
    | cons v r ih =>
      intro a b h
      exact ih _ _ (by have := D.w v; unfold Mt.on; omega)
  exact this ds 0 0 (Int.le_refl 0)
/-! ### pairs along a trip -/
def W2.st (c : W2) (ds : List Nat) : Pt := (c.M1.lf (c.M1.cnt ds), c.M2.lf (c.M2.cnt ds))
def W2.vl (c : W2) (ds : List Nat) : Int := c.M1.each * c.M1.J (c.M1.cnt ds) - c.M2.each * c.M2.J (c.M2.cnt ds)
theorem W2.st_snoc (c : W2) (o : c.Ok) (ds : List Nat) (v : Nat) : c.st (ds ++ [v]) = c.nx (c.st ds) v ∧ c.vl (ds ++ [v]) = c.vl ds + c.gn (c.st ds) v := by
  obtain ⟨a1, a2⟩ := c.M1.lf_on o.o1 (c.M1.cnt ds) v (o.o1.cnt0 ds)
  obtain ⟨b1, b2⟩ := c.M2.lf_on o.o2 (c.M2.cnt ds) v (o.o2.cnt0 ds)
  unfold W2.st W2.vl W2.nx W2.gn
  rw [Mt.cnt_snoc, Mt.cnt_snoc, a1, a2, b1, b2]
  refine ⟨rfl, ?_⟩
  rw [Int.mul_add, Int.mul_add]
  show _ = _ + (c.M1.each * c.M1.many (c.M1.lf (c.M1.cnt ds)) v - c.M2.each * c.M2.many (c.M2.lf (c.M2.cnt ds)) v)
  omega
theorem W2.st_nil (c : W2) (o : c.Ok) : c.st [] = c.fst ∧ c.vl [] = 0 := by
  have h1 := o.o1.f1
  have h2 := o.o2.f1
  have e1 : c.M1.cnt [] = 0 := rfl
  have e2 : c.M2.cnt [] = 0 := rfl
  unfold W2.st W2.vl W2.fst Mt.lf Mt.J
  rw [e1, e2, if_pos (by omega), if_pos (by omega), if_pos (by omega), if_pos (by omega)]
  refine ⟨by simp, by simp⟩
def Re (c : W2) (p : Pt) (x : Int) : Prop := ∃ ds : List Nat, (∀ v ∈ ds, v ≤ c.top) ∧ p = c.st ds ∧ x = c.vl ds
theorem Re.first {c : W2} (o : c.Ok) : Re c c.fst 0 := ⟨[], (fun _ z => by cases z), (c.st_nil o).1.symm, (c.st_nil o).2.symm⟩
theorem Re.step {c : W2} (o : c.Ok) {p : Pt} {x : Int} (h : Re c p x) {v : Nat} (hv : v ≤ c.top) : Re c (c.nx p v) (x + c.gn p v) := by
  obtain ⟨ds, h1, rfl, rfl⟩ := h
  obtain ⟨e1, e2⟩ := c.st_snoc o ds v
  refine ⟨ds ++ [v], fun u hu => ?_, e1.symm, e2.symm⟩
  rcases List.mem_append.mp hu with h | h
  · exact h1 u h
  · rw [List.mem_singleton.mp h]
    exact hv
theorem Re.le {c : W2} (o : c.Ok) (D : Dear c.M1 c.M2) {p : Pt} {x : Int} (h : Re c p x) : x ≤ 0 := by
  obtain ⟨ds, h1, rfl, rfl⟩ := h
  have := D.eJ o.o1 o.o2 (D.cnt ds)
  unfold W2.vl
  omega
theorem RP.re {c : W2} (o : c.Ok) {p : Pt} (h : RP c p) : ∃ x, Re c p x := by
  induction h with
  | first => exact ⟨0, Re.first o⟩
  | step h hv ih => exact ih.elim fun x hx => ⟨_, hx.step o hv⟩
inductive Path (c : W2) (p : Pt) : Pt → Int → Prop where
  | nil : Path c p p 0
  | snoc {q : Pt} {y : Int} {v : Nat} (h : Path c p q y) (hv : v ≤ c.top) : Path c p (c.nx q v) (y + c.gn q v)
theorem Re.path {c : W2} (o : c.Ok) {p q : Pt} {x y : Int} (h : Re c p x) (k : Path c p q y) : Re c q (x + y) := by
  induction k with
  | nil => rw [Int.add_zero]; exact h
  | snoc k hv ih =>
    rw [← Int.add_assoc]
    exact ih.step o hv
theorem no_ring {c : W2} (o : c.Ok) (D : Dear c.M1 c.M2) {p : Pt} {x y : Int} (h : Re c p x) (k : Path c p p y) : y ≤ 0 := by
  have all : ∀ n : Nat, Re c p (x + n * y) := by
    intro n
    induction n with
    | zero => simpa using h
    | succ n ih =>
      have := ih.path o k
      rw [show x + ((n + 1 : Nat) : Int) * y = x + n * y + y by rw [Int.natCast_add, Int.add_mul]; simp; omega]
      exact this
  refine Int.not_lt.mp fun hy => ?_
  have h1 := (all (x.natAbs + 1)).le o D
  have h2 : ((x.natAbs + 1 : Nat) : Int) * 1 ≤ ((x.natAbs + 1 : Nat) : Int) * y := Int.mul_le_mul_of_nonneg_left (by omega) (by omega)
  rw [Int.mul_one] at h2
  omega
/-- a way's gain, from its end on -/
inductive Amt (c : W2) : Pt → Int → Prop where
  | zero (p : Pt) : Amt c p 0
  | cons {p : Pt} {v : Nat} {y : Int} (hv : v ≤ c.top) (h : Amt c (c.nx p v) y) : Amt c p (c.gn p v + y)
theorem Amt.le {c : W2} (o : c.Ok) (D : Dear c.M1 c.M2) {p : Pt} {y : Int} (k : Amt c p y) : ∀ {x : Int}, Re c p x → x + y ≤ 0 := by
  induction k with
  | zero p => intro x h; rw [Int.add_zero]; exact h.le o D
  | cons hv k ih =>
    intro x h
    have := ih (h.step o hv)
    omega
/-! ### who led where -/
inductive Dep (ld : Pt → Option (Pt × Nat)) : Pt → Nat → Prop where
  | root {x : Pt} (h : ld x = none) : Dep ld x 0
  | step {x p : Pt} {s n : Nat} (h : ld x = some (p, s)) (k : Dep ld p n) : Dep ld x (n + 1)
theorem Dep.det {ld : Pt → Option (Pt × Nat)} {x : Pt} {n : Nat} (h : Dep ld x n) : ∀ {m : Nat}, Dep ld x m → n = m := by
  induction h with
  | root h =>
    intro m k
    cases k with
    | root _ => rfl
    | step h2 _ => rw [h] at h2; cases h2
  | step h k ih =>
    intro m k2
    cases k2 with
    | root h2 => rw [h] at h2; cases h2
    | step h2 k3 =>
      rw [h] at h2
      cases h2
      rw [ih k3]
/-- g stands above y, or is it -/
inductive Up (ld : Pt → Option (Pt × Nat)) (g : Pt) : Pt → Prop where
  | self : Up ld g g
  | up {y p : Pt} {s : Nat} (h : ld y = some (p, s)) (k : Up ld g p) : Up ld g y
def setL (ld : Pt → Option (Pt × Nat)) (g : Pt) (e : Pt × Nat) : Pt → Option (Pt × Nat) := fun x => if x = g then some e else ld x
theorem Dep.other {ld : Pt → Option (Pt × Nat)} {g : Pt} {e : Pt × Nat} {y : Pt} {n : Nat} (h : Dep ld y n) : ¬ Up ld g y → Dep (setL ld g e) y n := by
  induction h with
  | root h =>
    intro hn
    refine .root ?_
    unfold setL
    rw [if_neg (fun z => hn (by rw [z]; exact .self))]
    exact h
  | @step x p' s' n h k ih =>
    intro hn
    refine .step (p := p') (s := s') ?_ (ih fun u => hn (.up h u))
    unfold setL
    rw [if_neg (fun z => hn (by rw [z]; exact .self))]
    exact h
theorem Dep.set {ld : Pt → Option (Pt × Nat)} {g p : Pt} {s : Nat} (all : ∀ x, ∃ n, Dep ld x n) (hn : ¬ Up ld g p) (x : Pt) : ∃ n, Dep (setL ld g (p, s)) x n := by
  obtain ⟨m, hm⟩ := all p
  have hg : Dep (setL ld g (p, s)) g (m + 1) := .step (p := p) (s := s) (by unfold setL; rw [if_pos rfl]) (hm.other hn)
  obtain ⟨n, h⟩ := all x
  induction h with
  | @root x h =>
    by_cases e : x = g
    · exact ⟨m + 1, by rw [e]; exact hg⟩
    · exact ⟨0, .root (by unfold setL; rw [if_neg e]; exact h)⟩
  | @step x p' s' n h k ih =>
    by_cases e : x = g
    · exact ⟨m + 1, by rw [e]; exact hg⟩
    · obtain ⟨n', h'⟩ := ih
      exact ⟨_, .step (by unfold setL; rw [if_neg e]; exact h) h'⟩
end Cab
set_option Elab.async false
set_option linter.all false
set_option maxRecDepth 100000
set_option maxHeartbeats 2000000
namespace Cab
open PySem PySem.Spec PyProof.Rows L2
/-! ### pairs as data -/
def pd (p : Pt) : PyData := .tuple [.tuple [.int 0, .int p.1], .tuple [.int 0, .int p.2]]
theorem Pr2.dp {K : PySem.W.Frag} {H : Hp} {a : Addr} {p : Pt} (h : Pr2 H a p) : Dp K H (.ref a) (pd p) := by
  obtain ⟨x, y, h1, h2, h3⟩ := h
  exact .tup (sqT_of h1) (.cons (.tup (sqT_of h2) (.cons (.int 0) (.cons (.int p.1) .nil))) (.cons (.tup (sqT_of h3) (.cons (.int 0) (.cons (.int p.2) .nil))) .nil))
theorem pd_lay (p : Pt) : (pd p).canLay0 = true := by simp [pd, PyData.canLay0, PyData.canLayAll0]
theorem pd_depth (p : Pt) : (pd p).depth ≤ 3 := by simp [pd, PyData.depth, PyData.depthAll]
theorem pd_shaped (p : Pt) : SeqAt.shaped (pd p) = true := by
  unfold SeqAt.shaped
  rw [pd_lay, decide_eq_true (by have := pd_depth p; omega)]
  rfl
theorem pds_lay : ∀ ps : List Pt, PyData.canLayAll0 (ps.map pd) = true
  | [] => by simp [PyData.canLayAll0]
  | p :: r => by
    have := pds_lay r
    simp only [List.map_cons, PyData.canLayAll0, pd_lay, this, Bool.and_self]
theorem pds_depth : ∀ ps : List Pt, PyData.depthAll (ps.map pd) ≤ 3
  | [] => by simp [PyData.depthAll]
  | p :: r => by
    have := pds_depth r
    have := pd_depth p
    simp only [List.map_cons, PyData.depthAll]
    omega
theorem pds_shaped (ps : List Pt) : SeqAt.shaped (.list (ps.map pd)) = true := by
  unfold SeqAt.shaped
  have h2 : PyData.depth (.list (ps.map pd)) ≤ 64 := by have := pds_depth ps; simp only [PyData.depth]; omega
  rw [decide_eq_true h2, show PyData.canLay0 (.list (ps.map pd)) = true by simp only [PyData.canLay0]; exact pds_lay ps]
  rfl
theorem pd_eqv (p q : Pt) : PyData.eqv (pd p) (pd q) = decide (p = q) := by
  obtain ⟨a, b⟩ := p
  obtain ⟨c, d⟩ := q
  simp only [pd, PyData.eqv, PyData.eqvAll]
  by_cases h1 : a = c <;> by_cases h2 : b = d <;> simp [h1, h2]
theorem pds_any (x : Pt) : ∀ ps : List Pt, ((ps.map pd).any fun z => PyData.eqv z (pd x)) = decide (x ∈ ps)
  | [] => by simp
  | p :: r => by
    simp only [List.map_cons, List.any_cons, pds_any x r, pd_eqv, List.mem_cons]
    by_cases h : p = x
    · simp [h]
    · have : ¬ x = p := fun z => h z.symm
      simp [h, this]
/-- a list of pairs -/
def PrL (H : Hp) (ls : List (Addr × Pt)) : Prop := ∀ e ∈ ls, Pr2 H e.1 e.2
theorem PrL.px {H H' : Hp} {ls : List (Addr × Pt)} (e : Px H H') (h : PrL H ls) : PrL H' ls := fun x hx => (h x hx).px e
theorem PrL.dp {K : PySem.W.Frag} {H : Hp} : ∀ {ls : List (Addr × Pt)}, PrL H ls → DpAll K H (ls.map fun e => V.ref e.1) (ls.map fun e => pd e.2)
  | [], _ => .nil
  | e :: r, h => .cons (h e List.mem_cons_self).dp (PrL.dp fun x hx => h x (List.mem_cons_of_mem _ hx))
/-! ### the leds -/
def LedD (P : Program) (w : World) (c : W2) (H : Hp) (la : Addr) (ld : Pt → Option (Pt × Nat)) (es : List Ent) : Prop := PK H (RP c) es ∧
  (∀ g, ld g = none → lookE es (kP g) = none) ∧ ∀ g p s, ld g = some (p, s) → ∃ ta pa, lookE es (kP g) = some (.ref ta) ∧ H ta = some (.tup [.ref pa, .int s]) ∧ Pr2 H pa p
theorem LedD.px {P : Program} {w : World} {c : W2} {H H' : Hp} {la : Addr} {ld : Pt → Option (Pt × Nat)} {es : List Ent} (e : Px H H') (h : LedD P w c H la ld es) : LedD P w c H' la ld es := by
  obtain ⟨h1, h2, h3⟩ := h
  refine ⟨h1.px e, h2, fun g p s h => ?_⟩
  obtain ⟨ta, pa, h4, h5, h6⟩ := h3 g p s h
  exact ⟨ta, pa, h4, e _ _ h5 True.intro, h6.px e⟩
theorem LedD.isSome {P : Program} {w : World} {c : W2} {H : Hp} {la : Addr} {ld : Pt → Option (Pt × Nat)} {es : List Ent} (h : LedD P w c H la ld es) (g : Pt) : (lookE es (kP g)).isSome = (ld g).isSome := by
  cases hg : ld g with
  | none => rw [h.2.1 g hg]; rfl
  | some e =>
    obtain ⟨p, s⟩ := e
    obtain ⟨ta, pa, h4, _⟩ := h.2.2 g p s hg
    rw [h4]
    rfl
end Cab
set_option Elab.async false
set_option linter.all false
set_option maxRecDepth 100000
set_option maxHeartbeats 2000000
set_option pp.maxSteps 1500
namespace Cab
open PySem PySem.Spec PyProof.Rows L2

local macro_rules | `(tactic| walk_at "w") => `(tactic| repeat (first | refine Gh.now ?_ | refine ⟨_, rfl, ?_⟩ | refine ⟨_, _, rfl, rfl, ?_⟩ | refine ⟨rfl, ?_⟩))
local macro_rules | `(tactic| walk_at "g") => `(tactic| repeat (first | refine ⟨_, _, rfl, rfl, ?_⟩ | refine ⟨_, _, rfl, ?_⟩ | refine ⟨rfl, ?_⟩ | refine Gh.now ?_ | refine ⟨_, rfl, ?_⟩))
local macro_rules | `(tactic| walk_at "len") => `(tactic| first | (intro hh; obtain ⟨e, _⟩ := hh; exact congrArg List.length e) | (intro hh; obtain ⟨_, e, _⟩ := hh; exact congrArg List.length e) | (intro hh; obtain ⟨_, _, e, _⟩ := hh; exact congrArg List.length e) | (intro hh; obtain ⟨_, _, _, e, _⟩ := hh; exact congrArg List.length e) | (intro hh; obtain ⟨_, _, _, _, e, _⟩ := hh; exact congrArg List.length e) | (intro hh; obtain ⟨_, _, _, _, _, e, _⟩ := hh; exact congrArg List.length e) | (intro hh; obtain ⟨_, _, _, _, _, _, e, _⟩ := hh; exact congrArg List.length e) | (intro hh; obtain ⟨_, _, _, _, _, _, _, e, _⟩ := hh; exact congrArg List.length e) | (intro hh; obtain ⟨_, _, _, _, _, _, _, _, e, _⟩ := hh; exact congrArg List.length e) | (intro hh; obtain ⟨_, _, _, _, _, _, _, _, _, e, _⟩ := hh; exact congrArg List.length e) | (intro hh; obtain ⟨_, _, _, _, _, _, _, _, _, _, e, _⟩ := hh; exact congrArg List.length e) | (intro hh; obtain ⟨_, _, _, _, _, _, _, _, _, _, _, e, _⟩ := hh; exact congrArg List.length e) | (intro hh; obtain ⟨_, _, _, _, _, _, _, _, _, _, _, _, e, _⟩ := hh; exact congrArg List.length e))
variable {P : Program} {w : World} {K : PySem.W.Frag} {mg : Str → Option Value} {base : Heap}

def pr_ring_in (P : Program) (w : World) (K : PySem.W.Frag) : Pr := fun vs H Q => ∃ (la : Addr) (c : W2) (ld : Pt → Option (Pt × Nat)) (es : List Ent), vs = [.ref la] ∧ c.Ok ∧ H la = some (dNo P w la es) ∧ LedD P w c H la ld es ∧ (∀ x, ∃ n, Dep ld x n) ∧
  ∀ H', Same H H' → Q .non H'
theorem ok_ring_in (T : Wd K mg base) : Fn P w K mg base 1 (He.ga K "ring_in") (pr_ring_in P w K) := by
  obtain ⟨fd, F0⟩ := T.fdef 16 (d := d_ring_in)
  have F : FunD K "ring_in" "ring_in" (defArgs s_ring_in) (defBody s_ring_in) (defScope s_ring_in) [] [] (He.ga K "ring_in") fd := F0
  refine fn_mk (N := N_ring_in) (ps := ["led"]) F sc_ring_in (fun kV doc pm an cdv ct us hl => match us, hl with | [u0], _ => rfl) (fun vs H Q => by walk_at "len") fun cdv A outer s H vs Q E hr h => ?_
  refine ⟨_, (pss_gcons (ps_set (i := 1) sc_ring_in.nd rfl (Or.inl rfl) pe_dnNew) (pss_cons (ps_lock (ps_for PassesOwn.never rfl (pi_keysN (pv 0)) (pg_name (i := 2) sc_ring_in.nd rfl (Or.inl rfl)) (pss_gcons (ps_set (i := 3) sc_ring_in.nd rfl (Or.inl rfl) (pv 2)) (pss_gcons (ps_set (i := 4) sc_ring_in.nd rfl (Or.inl rfl) (pe_lst pa_nil)) (pss_cons (ps_while PassesOwn.never (PW.pt (pw_and (pt_cmpR (op_dnIn (hu64 hr) : OpR _ _ (rDnIn P w false)) (pv 3) (pv 0) (by rfl)) (pw_and1 (pt_cmpR (op_dnNotIn (hu64 hr) : OpR _ _ (rDnIn P w true)) (pv 3) (pv 1) (by rfl))))) (pss_gcons (ps_asg (pv 2) (pg_sub (pv 1) (pv 3) (set_dn (hu64 hr)))) (pss_cons (ps_expr (pe_bm PySem.F.plainAttrs_list PySem.F.slot_list_append PySem.F.type_list_append mt_append (pv 4) (pa_cons (pv 3) pa_nil))) (pss_one (ps_set (i := 3) sc_ring_in.nd rfl (Or.inl rfl) (pe_ix (ix_tup : IxR _ (rIxT K)) (pe_dnK (P := P) (w := w) (hu64 hr) (pv 0) (pv 3)) pe_int (fun _ _ => rfl))))))) (pss_one (ps_if (pt_cmpR (op_inD (hu65 hr)) (pv 3) (pv 4) (by rfl)) (pss_one (ps_ret (pe_gh (pv 3)))) pss_nil))))))) (pss_one (ps_ret (pe_gh pe_non))))), ?_⟩
  obtain ⟨la, c, ld, es, rfl, oc, hd, hl, dep, q⟩ := h
  intro dd hdd
  refine .now ?_
  have ndl : la ≠ dd := fun z => by rw [z, hdd] at hd; cases hd
  refine ⟨la, _, (upd_ne ndl).trans hd, True.intro, fun od => ?_⟩
  have hF : Px H (upd H la (.frz od (dNo P w la es))) := Px.frz hd dNo_imm
  have fF : upd H la (.frz od (dNo P w la es)) la = some (.frz od (dNo P w la es)) := upd_same
  have frd : upd H la (.frz od (dNo P w la es)) dd = none := by rw [upd_ne ndl.symm]; exact hdd
  have lF := hl.px hF
  have fin : ∀ H', Same (upd H la (.frz od (dNo P w la es))) H' → Same H (upd H' la (dNo P w la es)) := fun H' e b u hb => by
    by_cases hbl : b = la
    · rw [hbl, hd] at hb
      rw [hbl, upd_same]
      exact hb
    · rw [upd_ne hbl]
      exact e b u (by rw [upd_ne hbl]; exact hb)
  have e0 : Same (upd H la (.frz od (dNo P w la es))) (upd (upd H dd (dNo P w dd [])) la (.frz od (dNo P w la es))) := fun b u hb => by
    by_cases hbl : b = la
    · rw [hbl] at hb ⊢
      rw [upd_same] at hb ⊢
      exact hb
    · rw [upd_ne hbl] at hb ⊢
      rw [upd_ne (ne_of_none hb hdd)]
      exact hb
  have d0 : upd (upd H dd (dNo P w dd [])) la (.frz od (dNo P w la es)) dd = some (dNo P w dd []) := by rw [upd_ne ndl.symm, upd_same]
  show tFor _ _ _ _ _ (upd (upd H dd (dNo P w dd [])) la (.frz od (dNo P w la es)))
  generalize upd (upd H dd (dNo P w dd [])) la (.frz od (dNo P w la es)) = H0 at e0 d0 ⊢
  generalize hFe : upd H la (.frz od (dNo P w la es)) = HF at hF fF frd lF fin e0
  refine ⟨_, rfl, la, od, es, rfl, e0 _ _ fF, ?_⟩
  refine for_go es.length (fun i σ H' => ∃ (s2 s3 s4 : Option V) (ds : List Ent), σ = [some (.ref la), some (.ref dd), s2, s3, s4] ∧ Same HF H' ∧ H' dd = some (dNo P w dd ds) ∧ PK H' (RP c) ds ∧ ds.length + mis2 ds ≤ 121) ?_ ?_ ?_
  · exact ⟨_, _, _, [], rfl, e0, d0, PK.nil, by rw [mis2_nil]; exact Nat.le_refl _⟩
  · rintro i σ H' hi ⟨s2, s3, s4, ds, rfl, e, hdd', pk, hsz⟩
    refine ⟨⟨e _ _ fF, hi⟩, fun x H'' hx => ?_⟩
    obtain ⟨rfl, en, hen, rfl⟩ := hx
    obtain ⟨p, hp1, hp2, hp3⟩ := lF.1 en (List.mem_of_getElem? hen)
    refine ⟨_, rfl, .now ?_⟩
    refine ⟨sz, fun L hL => .now ?_⟩
    have frL : HF L = none := fresh_of e hL
    have ndL : dd ≠ L := fun z => by rw [← z, hdd'] at hL; cases hL
    have e1 : Same H'' (upd H'' L (.lst [])) := same_new hL
    obtain ⟨n0, hn0⟩ := dep p
    refine ⟨fun m σ H3 => ∃ (na : Addr) (y : Pt) (ds : List Ent) (ls : List (Addr × Pt)), σ = [some (.ref la), some (.ref dd), some (.ref en.2.1), some (.ref na), some (.ref L)] ∧ Dep ld y m ∧ Same HF H3 ∧ Pr2 H3 na y ∧ H3 dd = some (dNo P w dd ds) ∧ PK H3 (RP c) ds ∧ ds.length + mis2 ds ≤ 121 ∧ H3 L = some (.lst (ls.map fun e => V.ref e.1)) ∧ PrL H3 ls ∧ ls.length ≤ ds.length ∧ ∀ e ∈ ls, ∃ n, Dep ld e.2 n ∧ m < n,
      ⟨n0, _, p, ds, [], rfl, hn0, e.trans e1, (hp2.px (.of _ _ e)).px (.of _ _ e1), e1 _ _ hdd', pk.px (.of _ _ e1), hsz, upd_same, (fun _ z => nomatch z), Nat.zero_le _, fun _ z => nomatch z⟩, ?_⟩
    rintro m σ H3 ⟨na, y, ds, ls, rfl, hy, e3, hna, hd3, pk3, sz3, hL3, pl3, ln3, rk⟩
    have p3 := Px.of _ _ e3
    refine ⟨_, rfl, _, rfl, la, na, es, kP y, rfl, rfl, ⟨.inr ⟨_, e3 _ _ fF⟩, (lF.px p3).1.ko⟩, hna.key, kP_dp _, ?_⟩
    rw [(lF.px p3).isSome]
    have off : ∀ bk : L2.St → Hp → Prop, tIfS (tTest (tOp (rInD K) (tVar 3) (tVar 4))) (tRet (tGh (tVar 3))) tNext { nx := fun σ' H' => (∃ (s2 s3 s4 : Option V) (ds : List Ent), σ' = [some (.ref la), some (.ref dd), s2, s3, s4] ∧ Same HF H' ∧ H' dd = some (dNo P w dd ds) ∧ PK H' (RP c) ds ∧ ds.length + mis2 ds ≤ 121), rt := fun v H' => H' la = some (.frz od (dNo P w la es)) ∧ Q v (upd H' la (dNo P w la es)), bk := bk, ct := fun σ' H' => (∃ (s2 s3 s4 : Option V) (ds : List Ent), σ' = [some (.ref la), some (.ref dd), s2, s3, s4] ∧ Same HF H' ∧ H' dd = some (dNo P w dd ds) ∧ PK H' (RP c) ds ∧ ds.length + mis2 ds ≤ 121) }
        [some (.ref la), some (.ref dd), some (.ref en.2.1), some (.ref na), some (.ref L)] H3 := by
      intro bk
      walk_at "w"
      have dl : Dp K H3 (.ref L) (.list ((ls.map (·.2)).map pd)) := .lst (sqL_of hL3) (by rw [List.map_map]; exact pl3.dp)
      refine ⟨_, (ls.map (·.2)).map pd, hna.dp, dl, pd_shaped _, pds_shaped _, ?_⟩
      rw [pds_any]
      have hno : decide (y ∈ ls.map (·.2)) = false := dF fun z => by
        obtain ⟨e, he, h2⟩ := List.mem_map.mp z
        obtain ⟨n, h3, h4⟩ := rk e he
        rw [h2] at h3
        have := hy.det h3
        omega
      rw [hno]
      walk_at "w"
      exact ⟨_, _, _, ds, rfl, e3, hd3, pk3, sz3⟩
    cases hy with
    | root h0 =>
      rw [h0]
      exact ⟨false, rfl, off _⟩
    | @step _ p1 s1 n1 h0 hk =>
      rw [h0]
      walk_at "w"
      refine ⟨dd, na, ds, kP y, rfl, rfl, ⟨.of hd3, pk3.ko⟩, hna.key, kP_dp _, ?_⟩
      walk_at "w"
      cases hdn : lookE ds (kP y) with
      | some v0 => exact iF rfl (off _)
      | none =>
        have hin : InP es y := by
          unfold InP
          rw [hl.isSome, h0]
          rfl
        have ry := (hl.1.at hin).1
        refine iT rfl ?_
        refine ⟨_, fun σ' H' h => h, ?_⟩
        have hms := mis2_lt (b := na) (v := V.ref en.2.1) (mem_grid (ry.bd oc)) hdn
        have hpl := put_len ds (kP y) na (.ref en.2.1)
        walk_at "w"
        refine ⟨dd, na, ds, kP y, rfl, rfl, hd3, pk3.ko, hna.key, kP_dp _, szL (by omega), .now ?_⟩
        have p4 : Px H3 (upd H3 dd (dNo P w dd (putE ds (kP y) na (.ref en.2.1)))) := Px.mut hd3 dNo_imm
        have L4 : upd H3 dd (dNo P w dd (putE ds (kP y) na (.ref en.2.1))) L = some (.lst (ls.map fun e => V.ref e.1)) := by rw [upd_ne ndL.symm]; exact hL3
        refine ⟨_, rfl, .inl ⟨rfl, _, sqL_of L4⟩, ?_⟩
        refine ⟨_, rfl, _, _, _, rfl, rfl, L4, szL (by simp; omega), ?_⟩
        have p5 : Px H3 (upd (upd H3 dd (dNo P w dd (putE ds (kP y) na (.ref en.2.1)))) L (.lst ((ls.map fun e => V.ref e.1) ++ [.ref na]))) := p4.trans (Px.mut L4 (fun z => z))
        have e5 : Same HF (upd (upd H3 dd (dNo P w dd (putE ds (kP y) na (.ref en.2.1)))) L (.lst ((ls.map fun e => V.ref e.1) ++ [.ref na]))) := same_mut (same_mut e3 frd) frL
        have d5 : upd (upd H3 dd (dNo P w dd (putE ds (kP y) na (.ref en.2.1)))) L (.lst ((ls.map fun e => V.ref e.1) ++ [.ref na])) dd = some (dNo P w dd (putE ds (kP y) na (.ref en.2.1))) := by rw [upd_ne ndL, upd_same]
        have L5 : upd (upd H3 dd (dNo P w dd (putE ds (kP y) na (.ref en.2.1)))) L (.lst ((ls.map fun e => V.ref e.1) ++ [.ref na])) L = some (.lst ((ls.map fun e => V.ref e.1) ++ [.ref na])) := upd_same
        have lF5 := lF.px (Px.of _ _ e5)
        obtain ⟨ta, pa, h4, h5, h6⟩ := lF5.2.2 y p1 s1 h0
        walk_at "w"
        refine ⟨la, na, es, kP y, _, rfl, rfl, ⟨.inr ⟨_, e5 _ _ fF⟩, lF5.1.ko⟩, (hna.px p5).key, kP_dp _, h4, ?_⟩
        walk_at "w"
        refine ⟨_, _, _, _, rfl, rfl, sqT_of h5, rfl, ?_⟩
        refine ⟨n1, Nat.lt_succ_self _, pa, p1, putE ds (kP y) na (.ref en.2.1), ls ++ [(na, y)], rfl, hk, e5, h6, d5, (pk3.px p5).put (hna.px p5) ry, by omega, by refine L5.trans ?_; rw [List.map_append]; rfl, fun e he => ?_, ?_, fun e he => ?_⟩
        · rcases List.mem_append.mp he with he | he
          · exact (pl3 e he).px p5
          · rw [List.mem_singleton.mp he]
            exact hna.px p5
        · have : (putE ds (kP y) na (.ref en.2.1)).length = ds.length + 1 := by
            unfold putE
            rw [if_neg (by rw [hdn]; decide)]
            simp
          rw [this]
          simp
          omega
        · rcases List.mem_append.mp he with he | he
          · obtain ⟨n, h1, h2⟩ := rk e he
            exact ⟨n, h1, by omega⟩
          · rw [List.mem_singleton.mp he]
            exact ⟨n1 + 1, .step h0 hk, Nat.lt_succ_self _⟩
  · rintro σ H' ⟨s2, s3, s4, ds, rfl, e, hdd', pk, hsz⟩
    refine ⟨⟨e _ _ fF, Nat.le_refl _⟩, ?_⟩
    refine ⟨e _ _ fF, ?_⟩
    exact .now (q _ (fin H' e))
end Cab
set_option Elab.async false
set_option linter.all false
set_option maxRecDepth 100000
set_option maxHeartbeats 2000000
namespace Cab
open PySem PySem.Spec PyProof.Rows L2
/-! ### the rounds of raised, in plain -/
open Classical in
theorem Dep.bound {ld : Pt → Option (Pt × Nat)} (hk : ∀ x e, ld x = some e → x ∈ grid) {x : Pt} {n : Nat} (h : Dep ld x n) : n ≤ (grid.filter fun y => decide (∃ k, 1 ≤ k ∧ k ≤ n ∧ Dep ld y k)).length := by
  induction h with
  | root h => exact Nat.zero_le _
  | @step x p s n h k ih =>
    have lt : (grid.filter fun y => decide (∃ k, 1 ≤ k ∧ k ≤ n ∧ Dep ld y k)).length < (grid.filter fun y => decide (∃ k, 1 ≤ k ∧ k ≤ n + 1 ∧ Dep ld y k)).length := by
      refine filter_lt (fun y _ hy => ?_) ⟨x, hk x _ h, ?_, ?_⟩
      · obtain ⟨k, h1, h2, h3⟩ := of_decide_eq_true hy
        exact decide_eq_true ⟨k, h1, by omega, h3⟩
      · exact decide_eq_true ⟨n + 1, by omega, Nat.le_refl _, .step h k⟩
      · refine decide_eq_false fun ⟨k2, h1, h2, h3⟩ => ?_
        have := h3.det (.step h k)
        omega
    omega
theorem Dep.le {ld : Pt → Option (Pt × Nat)} (hk : ∀ x e, ld x = some e → x ∈ grid) {x : Pt} {n : Nat} (h : Dep ld x n) : n ≤ 121 := by
  have h1 := Dep.bound hk h
  have h2 : ∀ q : Pt → Bool, (grid.filter q).length ≤ 121 := fun q => by
    have := List.length_filter_le q grid
    rw [grid_len] at this
    exact this
  exact Nat.le_trans h1 (h2 _)
theorem sum_lt {α : Type} {f g : α → Nat} : ∀ {L : List α}, (∀ x ∈ L, g x ≤ f x) → (∃ x ∈ L, g x < f x) → (L.map g).sum < (L.map f).sum
  | [], _, h => by obtain ⟨x, hx, _⟩ := h; cases hx
  | a :: r, h1, h2 => by
    have le : ∀ {L : List α}, (∀ x ∈ L, g x ≤ f x) → (L.map g).sum ≤ (L.map f).sum := by
      intro L
      induction L with
      | nil => intro _; exact Nat.le_refl _
      | cons b s ih =>
        intro h
        have := ih fun x hx => h x (List.mem_cons_of_mem _ hx)
        have := h b List.mem_cons_self
        simp only [List.map_cons, List.sum_cons]
        omega
    obtain ⟨x, hx, px⟩ := h2
    have hr := le fun x hx => h1 x (List.mem_cons_of_mem a hx)
    have ha := h1 a List.mem_cons_self
    simp only [List.map_cons, List.sum_cons]
    rcases List.mem_cons.mp hx with e | hx
    · subst e
      omega
    · have := sum_lt (fun x hx => h1 x (List.mem_cons_of_mem a hx)) ⟨x, hx, px⟩
      omega
def Gx : Int := 7000
theorem gn_lo (c : W2) (o : c.Ok) (p : Pt) (v : Nat) (h2 : 1 ≤ p.2) (h1 : 1 ≤ p.1) : -Gx ≤ c.gn p v := by
  have m1 : 0 ≤ c.M1.many p.1 v := by
    unfold Mt.many
    split
    · exact Int.le_refl 0
    · have := Int.ediv_nonneg (show 0 ≤ c.M1.wt v - p.1 by omega) (show 0 ≤ c.M1.drop by have := o.o1.d1; omega)
      omega
  have m2 : c.M2.many p.2 v ≤ 61 := by
    unfold Mt.many
    have hw := (o.o2.wt0 v).2
    have hd := o.o2.d1
    split
    · decide
    · have := Int.ediv_le_self (c.M2.drop) (show 0 ≤ c.M2.wt v - p.2 by omega)
      omega
  have e1 := o.o1.e1
  have e2 := o.o2.e1
  have e3 := o.o2.e2
  have a := Int.mul_nonneg (show 0 ≤ c.M1.each by omega) m1
  have b : c.M2.each * c.M2.many p.2 v ≤ 100 * 61 := by
    by_cases h : 0 ≤ c.M2.many p.2 v
    · exact Int.mul_le_mul e3 m2 h (by omega)
    · have := Int.mul_nonpos_of_nonneg_of_nonpos (show 0 ≤ c.M2.each by omega) (show c.M2.many p.2 v ≤ 0 by omega)
      omega
  unfold W2.gn Gx
  omega
def setB (bs : Pt → Option Int) (g : Pt) (x : Int) : Pt → Option Int := fun y => if y = g then some x else bs y
def fmu (bs : Pt → Option Int) (p : Pt) : Nat := match bs p with
  | none => 123 * 7000
  | some x => (-x).toNat
def mu (bs : Pt → Option Int) : Nat := (grid.map (fmu bs)).sum
structure Pu (c : W2) (bs : Pt → Option Int) (ld : Pt → Option (Pt × Nat)) (n : Nat) : Prop where
  re : ∀ p x, bs p = some x → Re c p x
  rp : ∀ p x, bs p = some x → RP c p
  f0 : bs c.fst = some 0
  lo : ∀ p x, bs p = some x → -(Gx * n) ≤ x
  ok : ∀ g p s, ld g = some (p, s) → s ≤ c.top ∧ g = c.nx p s ∧ ∃ xp xg, bs p = some xp ∧ bs g = some xg ∧ xg ≤ xp + c.gn p s
  dep : ∀ x, ∃ n, Dep ld x n
theorem Pu.up {c : W2} {bs : Pt → Option Int} {ld : Pt → Option (Pt × Nat)} {n : Nat} (k : Pu c bs ld n) {g p : Pt} (u : Up ld g p) : ∀ {xp : Int}, bs p = some xp → ∃ y xg, Path c g p y ∧ bs g = some xg ∧ xp ≤ xg + y := by
  induction u with
  | self => intro xp h; exact ⟨0, xp, .nil, h, by omega⟩
  | @up y p' s h u ih =>
    intro xp hx
    obtain ⟨h1, h2, xp', xg', h3, h4, h5⟩ := k.ok _ _ _ h
    obtain ⟨z, xg, h6, h7, h8⟩ := ih h3
    rw [hx] at h4
    cases h4
    rw [h2]
    exact ⟨z + c.gn p' s, xg, .snoc h6 h1, h7, by omega⟩
theorem Pu.set {c : W2} (o : c.Ok) (D : Dear c.M1 c.M2) {bs : Pt → Option Int} {ld : Pt → Option (Pt × Nat)} {n : Nat} (k : Pu c bs ld n) (hn : n ≤ 121) {p : Pt} {xp : Int} (hp : bs p = some xp) {v : Nat} (hv : v ≤ c.top)
    (hc : bs (c.nx p v) = none ∨ ∃ xg, bs (c.nx p v) = some xg ∧ xg < xp + c.gn p v) {n' : Nat} (hn' : n ≤ n') (hn2 : bs (c.nx p v) = none → n' = n + 1) :
    Pu c (setB bs (c.nx p v) (xp + c.gn p v)) (setL ld (c.nx p v) (p, v)) n' ∧ mu (setB bs (c.nx p v) (xp + c.gn p v)) < mu bs := by
  have hre := (k.re p xp hp).step o hv
  have hle := hre.le o D
  have hrp := k.rp p xp hp
  have bd := hrp.bd o
  have rg : RP c (c.nx p v) := .step hrp hv
  have gl := gn_lo c o p v bd.2.1 bd.1.1
  have lox := k.lo p xp hp
  have notup : ¬ Up ld (c.nx p v) p := fun u => by
    obtain ⟨y, xg, h1, h2, h3⟩ := k.up u hp
    rcases hc with h | ⟨xg', h4, h5⟩
    · rw [h] at h2
      cases h2
    · rw [h2] at h4
      cases h4
      have := no_ring o D (k.re _ _ h2) (Path.snoc h1 hv)
      omega
  have hpg : p ≠ c.nx p v := fun z => notup (by rw [← z]; exact .self)
  have hgf : c.nx p v ≠ c.fst := fun z => by
    rw [z] at hc
    rcases hc with h | ⟨xg, h1, h2⟩
    · rw [k.f0] at h
      cases h
    · rw [k.f0] at h1
      cases h1
      omega
  have nn : -(Gx * n') ≤ -(Gx * n) := by
    have : Gx * n ≤ Gx * n' := Int.mul_le_mul_of_nonneg_left (by omega) (by unfold Gx; omega)
    omega
  generalize hg : c.nx p v = g at *
  refine ⟨⟨fun q x h => ?_, fun q x h => ?_, ?_, fun q x h => ?_, fun g2 p2 s2 h => ?_, Dep.set k.dep notup⟩, ?_⟩
  · unfold setB at h
    by_cases e : q = g
    · rw [if_pos e] at h
      cases h
      rw [e]
      exact hre
    · rw [if_neg e] at h
      exact k.re q x h
  · unfold setB at h
    by_cases e : q = g
    · rw [e]
      exact rg
    · rw [if_neg e] at h
      exact k.rp q x h
  · unfold setB
    rw [if_neg (fun z => hgf z.symm)]
    exact k.f0
  · unfold setB at h
    by_cases e : q = g
    · rw [if_pos e] at h
      cases h
      rcases hc with h | ⟨xg, h1, h2⟩
      · rw [hn2 h]
        rw [show Gx * ((n + 1 : Nat) : Int) = Gx * n + Gx by rw [Int.natCast_add, Int.mul_add]; simp]
        omega
      · have := k.lo _ _ h1
        omega
    · rw [if_neg e] at h
      have := k.lo q x h
      omega
  · unfold setL at h
    by_cases e : g2 = g
    · rw [if_pos e] at h
      cases h
      refine ⟨hv, by rw [e, hg], xp, xp + c.gn p v, ?_, ?_, Int.le_refl _⟩
      · unfold setB
        rw [if_neg hpg]
        exact hp
      · unfold setB
        rw [if_pos e]
    · rw [if_neg e] at h
      obtain ⟨h1, h2, xp2, xg2, h3, h4, h5⟩ := k.ok _ _ _ h
      have h4' : setB bs g (xp + c.gn p v) g2 = some xg2 := by unfold setB; rw [if_neg e]; exact h4
      by_cases e2 : p2 = g
      · refine ⟨h1, h2, xp + c.gn p v, xg2, ?_, h4', ?_⟩
        · unfold setB
          rw [if_pos e2]
        · rw [e2] at h3
          rcases hc with h | ⟨xg, h6, h7⟩
          · rw [h] at h3
            cases h3
          · rw [h6] at h3
            cases h3
            omega
      · exact ⟨h1, h2, xp2, xg2, by unfold setB; rw [if_neg e2]; exact h3, h4', h5⟩
  · have key : fmu (setB bs g (xp + c.gn p v)) g < fmu bs g := by
      have e1 : setB bs g (xp + c.gn p v) g = some (xp + c.gn p v) := by unfold setB; rw [if_pos rfl]
      unfold fmu
      rw [e1]
      rcases hc with h | ⟨xg, h1, h2⟩
      · rw [h]
        show (-(xp + c.gn p v)).toNat < 123 * 7000
        have : Gx * n ≤ Gx * 121 := Int.mul_le_mul_of_nonneg_left (by omega) (by unfold Gx; omega)
        unfold Gx at *
        omega
      · rw [h1]
        show (-(xp + c.gn p v)).toNat < (-xg).toNat
        omega
    refine sum_lt (fun x _ => ?_) ⟨g, mem_grid (rg.bd o), key⟩
    by_cases e : x = g
    · rw [e]
      exact Nat.le_of_lt key
    · unfold fmu setB
      rw [if_neg e]
      exact Nat.le_refl _
end Cab
set_option Elab.async false
set_option linter.all false
set_option maxRecDepth 100000
set_option maxHeartbeats 2000000
/-! x = {.. for ..}: the value is used ahead of the block's end -/
namespace Cab
open PySem PySem.Spec PyProof.Rows L2
section
variable {X : Cx}
theorem swD_true {kx vx : Expr} {gs : List Comprehension} {scope : Scope} {pos py : Pos} {y : Str} {l : Nat} {env : Env} (hk : env.scope.kind = .function) (hy : env.scope.names.lookup y = some .local) (hl : (py.line == pos.line) = true)
    (ha : (scope.names.any fun (n, k) => n == y && (k == .local || k == .cell)) = false) : swapsWith (.DictComp kx vx gs scope pos) (some (.Name y py)) l env = pure true := by
  have ky : env.kindOf y = some .local := hy
  have hb : env.blockKind = .function := by unfold Env.blockKind; rw [hk]; rfl
  unfold swapsWith
  simp only [hb, ky, ha, Expr.pos, hl]
  rfl
theorem ps_setDcx {i : Nat} {y : Str} {py : Pos} {kx vx tg iter : Expr} {ifs : List Expr} {rest : List Comprehension} {scope : Scope} {own : List (Str × Nat)} {pos spos : Pos} {u0 : Addr → HO} {wi : TI} {g : TG} {tt : TT} {tb : L2.St → Hp → Addr → (Hp → Prop) → Prop} {B : Tail}
    (hc : X.calm = true) (hN : X.N.Nodup) (hy : X.N[i]? = some y) (hyl : X.env.scope.names.lookup y = some .local) (hsw : swapsWith (.DictComp kx vx (⟨tg, iter, ifs, 0⟩ :: rest) scope pos) (some (.Name y py)) spos.line X.env = pure true)
    (hi : PI X tg iter wi) (ok : BlkOk X.N X.env.scope scope own)
    (hg : ∀ (s : Shared) (H : Hp) (C : Addr) (cl : List (Str × Addr)) (fp : List Addr), PG (Blk X s H scope cl C fp) tg g) (ht : ∀ (s : Shared) (H : Hp) (C : Addr) (cl : List (Str × Addr)) (fp : List Addr), PTs (Blk X s H scope cl C fp) ifs tt)
    (hu : ∀ (H : Hp) (h : Heap), sysModules < h.objs.size → ObjOk X.prog X.w H (h.push { cls := .type "dict", data := .dict #[] }) h.objs.size (u0 h.objs.size))
    (hL : Loops X.prog X.w X.A (.DictComp kx vx (⟨tg, iter, ifs, 0⟩ :: rest) scope pos) tg ifs B) (hB : TailOk X scope B tb (own.map (·.2))) (hs : ∀ x, foldedSetIterable iter X.env x = pure x) :
    PS X (.Assign [.Name y py] (.DictComp kx vx (⟨tg, iter, ifs, 0⟩ :: rest) scope pos) spos) (tAsg (tDcx u0 wi g tt tb (own.map (·.2))) (gName i)) := by
  refine ⟨fun pins s σ H D I h => ?_⟩
  rw [exec_Assign_Name_used _ _ _ _ hsw]
  refine wpAny_bind (wpAny_standAt (wpAny_bind ?_))
  show wpAny _ X.A (do let _ ← comprehension (.DictComp kx vx (⟨tg, iter, ifs, 0⟩ :: rest) scope pos) scope X.env (firstIterPos (⟨tg, iter, ifs, 0⟩ :: rest) pos) newDict false (eval iter X.env) (some (assign (.Name y py) X.env))) _ _ s
  have h : tDcx u0 wi g tt tb (own.map (·.2)) σ H (fun x H1 => gName i x σ H1 D.nx) := h
  refine wpAny_bind (thn (dcx_core (Qf := fun _ s' => SP X pins D .next s') hc hN I hi ok hg ht hu hL hB hs h fun L C s' m H' I' q hn f => ?_) fun _ s' hq => wpAny_pure (wpAny_pure hq))
  show wpAny _ _ (assign (.Name y py) X.env (.ref L)) _ _ _
  refine wpAny_assign_Name (store_ok2 (v := V.ref L) I' hN hy (.inl hyl) rfl (fun s2 I2 ⟨a, sb, ha⟩ => ?_) (.inr hyl))
  obtain ⟨f0, f1, f2, f3, f4, f5⟩ := f
  have haC : C ≠ a := by
    rcases ha with z | z
    · rw [z]; exact f1
    · exact fun e => f4 y a z e.symm
  refine ⟨m, hn.sameBut sb haC, fun h3 sb3 => ?_⟩
  exact ⟨_, H', I2.turned (t' := s2.toks) (fun b o hb e => (sb3.2 b hb).trans e) f0 f1 f3 f4 f5, q⟩
theorem ps_setDcN {i : Nat} {y : Str} {py : Pos} {kx vx tg iter : Expr} {ifs : List Expr} {scope : Scope} {own : List (Str × Nat)} {pos spos : Pos} {wi : TI} {g : TG} {tt : TT} {tk tv : TE} (hu : X.A.units + 64 < cLine)
    (hc : X.calm = true) (hN : X.N.Nodup) (hy : X.N[i]? = some y) (hyl : X.env.scope.names.lookup y = some .local) (hsw : swapsWith (.DictComp kx vx [⟨tg, iter, ifs, 0⟩] scope pos) (some (.Name y py)) spos.line X.env = pure true)
    (hi : PI X tg iter wi) (ok : BlkOk X.N X.env.scope scope own)
    (hg : ∀ (s : Shared) (H : Hp) (C : Addr) (cl : List (Str × Addr)) (fp : List Addr), PG (Blk X s H scope cl C fp) tg g) (ht : ∀ (s : Shared) (H : Hp) (C : Addr) (cl : List (Str × Addr)) (fp : List Addr), PTs (Blk X s H scope cl C fp) ifs tt)
    (hk : ∀ (s : Shared) (H : Hp) (C : Addr) (cl : List (Str × Addr)) (fp : List Addr), PE (Blk X s H scope cl C fp) kx tk) (hv : ∀ (s : Shared) (H : Hp) (C : Addr) (cl : List (Str × Addr)) (fp : List Addr), PE (Blk X s H scope cl C fp) vx tv)
    (hs : ∀ x, foldedSetIterable iter X.env x = pure x := by intro _; rfl) :
    PS X (.Assign [.Name y py] (.DictComp kx vx [⟨tg, iter, ifs, 0⟩] scope pos) spos) (tAsg (tDcx (fun D => dNo X.prog X.w D []) wi g tt (tbN X.prog X.w tk tv) (own.map (·.2))) (gName i)) := by
  refine ps_setDcx hc hN hy hyl hsw hi ok hg ht (fun H h hb => dn_empty h hb) loops1 (fun s H C cl fp pins σ2 H3 s3 D Nx E K I q fin => ?_) hs
  refine thnF ((hk s H C cl fp).run _ s3 σ2 H3 _ I q) fun kv s4 ⟨y, H4, I4, r4, q4⟩ => ?_
  refine thnF ((hv s H C cl fp).run _ s4 σ2 H4 _ I4 q4) fun vv s5 ⟨z, H5, I5, r5, es, b, k, ey, hD, ko, hk, dp, hl, nx⟩ => ?_
  subst ey
  obtain rfl : kv = Value.ref b := r4
  exact dn_dictSet (X := Blk X s H scope cl C fp) hu I5 hD ko hk dp hl r5 fun s6 I6 => fin σ2 _ s6 I6 rfl (fun j v e => (wipe_some e).1) nx
/-- int keys, one for -/
def tb1 (tk tv : TE) : L2.St → Hp → Addr → (Hp → Prop) → Prop := fun σ2 H3 D Nx => tk σ2 H3 fun y H4 => tv σ2 H4 fun z H5 => ∃ kvs k0, y = kV k0 ∧ H5 D = some (.dK kvs) ∧ kvs.length < sizeLine ∧ Nx (upd H5 D (.dK (putK kvs k0 z)))
theorem ps_setDc1 {i : Nat} {y : Str} {py : Pos} {kx vx tg iter : Expr} {ifs : List Expr} {scope : Scope} {own : List (Str × Nat)} {pos spos : Pos} {wi : TI} {g : TG} {tt : TT} {tk tv : TE}
    (hc : X.calm = true) (hN : X.N.Nodup) (hy : X.N[i]? = some y) (hyl : X.env.scope.names.lookup y = some .local) (hsw : swapsWith (.DictComp kx vx [⟨tg, iter, ifs, 0⟩] scope pos) (some (.Name y py)) spos.line X.env = pure true)
    (hi : PI X tg iter wi) (ok : BlkOk X.N X.env.scope scope own)
    (hg : ∀ (s : Shared) (H : Hp) (C : Addr) (cl : List (Str × Addr)) (fp : List Addr), PG (Blk X s H scope cl C fp) tg g) (ht : ∀ (s : Shared) (H : Hp) (C : Addr) (cl : List (Str × Addr)) (fp : List Addr), PTs (Blk X s H scope cl C fp) ifs tt)
    (hk : ∀ (s : Shared) (H : Hp) (C : Addr) (cl : List (Str × Addr)) (fp : List Addr), PE (Blk X s H scope cl C fp) kx tk) (hv : ∀ (s : Shared) (H : Hp) (C : Addr) (cl : List (Str × Addr)) (fp : List Addr), PE (Blk X s H scope cl C fp) vx tv)
    (hs : ∀ x, foldedSetIterable iter X.env x = pure x := by intro _; rfl) :
    PS X (.Assign [.Name y py] (.DictComp kx vx [⟨tg, iter, ifs, 0⟩] scope pos) spos) (tAsg (tDcx (fun _ => .dK []) wi g tt (tb1 tk tv) (own.map (·.2))) (gName i)) := by
  refine ps_setDcx hc hN hy hyl hsw hi ok hg ht (fun H h hb => dk_empty h hb) loops1 (fun s H C cl fp pins σ2 H3 s3 D Nx E K I q fin => ?_) hs
  refine thnF ((hk s H C cl fp).run _ s3 σ2 H3 _ I q) fun kv s4 ⟨y, H4, I4, r4, q4⟩ => ?_
  refine thnF ((hv s H C cl fp).run _ s4 σ2 H4 _ I4 q4) fun vv s5 ⟨z, H5, I5, r5, kvs, k0, ey, hD, hz, nx⟩ => ?_
  subst ey
  exact d_dictSet (X := Blk X s H scope cl C fp) I5 hD hz r4 r5 fun s6 I6 => fin σ2 _ s6 I6 rfl (fun j v e => (wipe_some e).1) nx
end
theorem ps_setDc2 {X : Cx} {i : Nat} {y : Str} {py spos : Pos} {kx vx tg iter tg1 iter1 : Expr} {ifs ifs1 : List Expr} {scope : Scope} {own : List (Str × Nat)} {vs1 : List Nat} {pos : Pos} {wi wi1 : TI} {g g1 : TG} {tt tt1 : TT} {tk tv : TE}
    (hc : X.calm = true) (hN : X.N.Nodup) (hy : X.N[i]? = some y) (hyl : X.env.scope.names.lookup y = some .local) (hsw : swapsWith (.DictComp kx vx [⟨tg, iter, ifs, 0⟩, ⟨tg1, iter1, ifs1, 0⟩] scope pos) (some (.Name y py)) spos.line X.env = pure true) (hi : PI X tg iter wi) (ok : BlkOk X.N X.env.scope scope own) (hv1 : ∀ i ∈ vs1, i ∈ own.map (·.2))
    (hg : ∀ (s : Shared) (H : Hp) (C : Addr) (cl : List (Str × Addr)) (fp : List Addr), PG (Blk X s H scope cl C fp) tg g) (ht : ∀ (s : Shared) (H : Hp) (C : Addr) (cl : List (Str × Addr)) (fp : List Addr), PTs (Blk X s H scope cl C fp) ifs tt)
    (hi1 : ∀ (s : Shared) (H : Hp) (C : Addr) (cl : List (Str × Addr)) (fp : List Addr), PI (Blk X s H scope cl C fp) tg1 iter1 wi1)
    (hg1 : ∀ (s : Shared) (H : Hp) (C : Addr) (cl : List (Str × Addr)) (fp : List Addr), PG (Blk X s H scope cl C fp) tg1 g1) (ht1 : ∀ (s : Shared) (H : Hp) (C : Addr) (cl : List (Str × Addr)) (fp : List Addr), PTs (Blk X s H scope cl C fp) ifs1 tt1)
    (hk : ∀ (s : Shared) (H : Hp) (C : Addr) (cl : List (Str × Addr)) (fp : List Addr), PE (Blk X s H scope cl C fp) kx tk) (hv : ∀ (s : Shared) (H : Hp) (C : Addr) (cl : List (Str × Addr)) (fp : List Addr), PE (Blk X s H scope cl C fp) vx tv)
    (hs : ∀ x, foldedSetIterable iter X.env x = pure x := by intro _; rfl) (hs1 : ∀ env x, foldedSetIterable iter1 env x = pure x := by intro _ _; rfl) :
    PS X (.Assign [.Name y py] (.DictComp kx vx [⟨tg, iter, ifs, 0⟩, ⟨tg1, iter1, ifs1, 0⟩] scope pos) spos) (tAsg (tDcx (fun _ => .dK []) wi g tt (tb2 wi1 g1 tt1 tk tv vs1) (own.map (·.2))) (gName i)) := by
  refine ps_setDcx hc hN hy hyl hsw hi ok hg ht (fun H h hb => dk_empty h hb) (loops2 hs1) (fun s H C cl fp pins σ2 H3 s3 D Nx E K I q fin => ?_) hs
  refine thnF ((hi1 s H C cl fp).run _ s3 σ2 H3 _ I q) fun xv s4 hx => thnF hx fun itv s5 h5 => ?_
  obtain ⟨it1, fp1, tn1, J1, H5, e1, I5, T1, st5, f5, W1, ⟨m1, w1⟩, turn1⟩ := h5
  subst e1
  have stat1 : ∀ {H' : Hp}, (∀ b ∈ fp1, H' b = none) → ∀ b ∈ fp1, FpOk (Blk X s H scope cl C fp) pins H' b := fun hn b hb => ⟨hn b hb, (f5 b hb).2⟩
  have key : codeAny (model X.prog X.w) X.A (.compLoop (DC2 kx vx tg iter tg1 iter1 ifs ifs1 scope pos) 1 (.ref it1) (.ref D) (compEnvC scope cl C X.env)) (fun r s' => match r with
      | .ok _ => K s'
      | .error _ => False) s5 := by
    refine loop_in (fun k s' => ∃ j H', Inv (Blk X s H scope cl C fp) pins (wipe σ2 vs1) H' s' ∧ tn1 j s'.heap ∧ (∀ b ∈ fp1, H' b = none) ∧ W1 j k H') ?_ m1 ⟨0, H5, I5.weak (wipe_length _ _) (fun j v e => (wipe_some e).1), st5, fun b hb => (f5 b hb).1, w1⟩
    rintro k s6 ⟨j, H6, I6, st6, n6, w6⟩
    rcases turn1 j k H6 w6 with ⟨stop1, nx1⟩ | ⟨go1, Nx1, hNx1, step1⟩
    · refine thnF (T1.done (Blk X s H scope cl C fp) rfl rfl rfl hc j _ s6 (wipe σ2 vs1) H6 (fun _ _ => False) I6 (stat1 n6) st6 stop1) fun r s7 ⟨hr, I7⟩ => ?_
      subst hr
      refine fin (wipe σ2 vs1) H6 s7 I7 (wipe_length _ _) (fun j v e => ?_) nx1
      obtain ⟨e1, e2⟩ := wipe_some e
      rw [wipe_out fun z => e2 (hv1 j z)]
      exact e1
    · refine thnF (T1.item (Blk X s H scope cl C fp) rfl rfl rfl hc j _ s6 (wipe σ2 vs1) H6 (fun _ _ => False) I6 (stat1 n6) st6 go1) fun r s7 ⟨u1, hr, h7⟩ => ?_
      subst hr
      refine thnF h7 fun _ s8 ⟨x1, H8, I8, r8, y8, st8, n8⟩ => ?_
      refine thnF ((hg1 s H C cl fp).run _ s8 (wipe σ2 vs1) H8 x1 u1 _ (I8.pinned (stat1 n8) (T1.obj _ _ st8)) r8 (step1 x1 H8 y8)) fun _ s9 ⟨σ9, H9, I9, hw9, q9⟩ => ?_
      refine thnF ((ht1 s H C cl fp).run _ s9 σ9 H9 _ I9 q9) fun b1 s10 ⟨H10, I10, q10⟩ => ?_
      have fin1 : ∀ {s' : Shared} {H' : Hp}, Inv (Blk X s H scope cl C fp) (pins ++ pinsAt fp1 s8.heap) σ9 H' s' → Nx1 H' → ∃ m, m < k ∧ ∃ j H', Inv (Blk X s H scope cl C fp) pins (wipe σ2 vs1) H' s' ∧ tn1 j s'.heap ∧ (∀ b ∈ fp1, H' b = none) ∧ W1 j m H' := fun {s' H'} I' nx => by
        obtain ⟨m', hm, w'⟩ := hNx1 H' nx
        have pin' : ∀ b ∈ fp1, ∀ o, s8.heap.get? b = some o → s'.heap.get? b = some o ∧ H' b = none := fun b hb o e =>
          let z := I'.pin (b, o) (List.mem_append_right _ (List.mem_append_right _ (mem_pinsAt hb e)))
          ⟨z.1, z.2.1⟩
        refine ⟨m', hm, j + 1, H', I'.unpinned.weak (by rw [← hw9, wipe_length]) (fun j v e => by rw [← hw9] at e; exact (wipe_some e).1), T1.keep _ _ _ st8 fun b hb o e => (pin' b hb o e).1, fun b hb => ?_, w'⟩
        obtain ⟨o, e, _⟩ := T1.obj _ _ st8 b hb
        exact (pin' b hb o e).2
      cases b1 with
      | false =>
        simp only [Bool.false_eq_true, if_false] at q10 ⊢
        exact fin1 I10 q10
      | true =>
        simp only [if_true] at q10 ⊢
        refine thnF ((hk s H C cl fp).run _ s10 σ9 H10 _ I10 q10) fun kv s11 ⟨y, H11, I11, r11, q11⟩ => ?_
        refine thnF ((hv s H C cl fp).run _ s11 σ9 H11 _ I11 q11) fun vv s12 ⟨z, H12, I12, r12, kvs, k0, ey, hD, hz, nx⟩ => ?_
        subst ey
        exact d_dictSet (X := Blk X s H scope cl C fp) I12 hD hz r11 r12 fun s13 I13 => fin1 I13 nx
  exact start_in key (T1.self X.A 0 _ _ _ st5 key)
end Cab
set_option Elab.async false
set_option linter.all false
set_option maxRecDepth 100000
set_option maxHeartbeats 2000000
set_option pp.maxSteps 1500
namespace Cab
open PySem PySem.Spec PyProof.Rows L2

local macro_rules | `(tactic| walk_at "w") => `(tactic| repeat (first | refine Gh.now ?_ | refine ⟨_, rfl, ?_⟩ | refine ⟨_, _, rfl, rfl, ?_⟩ | refine ⟨rfl, ?_⟩))
local macro_rules | `(tactic| walk_at "g") => `(tactic| repeat (first | refine ⟨_, _, rfl, rfl, ?_⟩ | refine ⟨_, _, rfl, ?_⟩ | refine ⟨rfl, ?_⟩ | refine Gh.now ?_ | refine ⟨_, rfl, ?_⟩))
local macro_rules | `(tactic| walk_at "len") => `(tactic| first | (intro hh; obtain ⟨e, _⟩ := hh; exact congrArg List.length e) | (intro hh; obtain ⟨_, e, _⟩ := hh; exact congrArg List.length e) | (intro hh; obtain ⟨_, _, e, _⟩ := hh; exact congrArg List.length e) | (intro hh; obtain ⟨_, _, _, e, _⟩ := hh; exact congrArg List.length e) | (intro hh; obtain ⟨_, _, _, _, e, _⟩ := hh; exact congrArg List.length e) | (intro hh; obtain ⟨_, _, _, _, _, e, _⟩ := hh; exact congrArg List.length e) | (intro hh; obtain ⟨_, _, _, _, _, _, e, _⟩ := hh; exact congrArg List.length e) | (intro hh; obtain ⟨_, _, _, _, _, _, _, e, _⟩ := hh; exact congrArg List.length e) | (intro hh; obtain ⟨_, _, _, _, _, _, _, _, e, _⟩ := hh; exact congrArg List.length e) | (intro hh; obtain ⟨_, _, _, _, _, _, _, _, _, e, _⟩ := hh; exact congrArg List.length e) | (intro hh; obtain ⟨_, _, _, _, _, _, _, _, _, _, e, _⟩ := hh; exact congrArg List.length e) | (intro hh; obtain ⟨_, _, _, _, _, _, _, _, _, _, _, e, _⟩ := hh; exact congrArg List.length e) | (intro hh; obtain ⟨_, _, _, _, _, _, _, _, _, _, _, _, e, _⟩ := hh; exact congrArg List.length e))
variable {P : Program} {w : World} {K : PySem.W.Frag} {mg : Str → Option Value} {base : Heap}

def pr_trip_to (P : Program) (w : World) (K : PySem.W.Frag) : Pr := fun vs H Q => ∃ (la pa : Addr) (c : W2) (ld : Pt → Option (Pt × Nat)) (es : List Ent) (p : Pt), vs = [.ref la, .ref pa] ∧ c.Ok ∧ Rd H la (dNo P w la es) ∧ LedD P w c H la ld es ∧ (∀ x, ∃ n, Dep ld x n) ∧ (∀ g p s, ld g = some (p, s) → s ≤ 9) ∧ Pr2 H pa p ∧
  ∀ t H' b z, Same H H' → H' t = some (.tup [.ref b, .str z]) → Q (.ref t) H'
theorem ok_trip_to (T : Wd K mg base) : Fn P w K mg base 1 (He.ga K "trip_to") (pr_trip_to P w K) := by
  obtain ⟨fd, F0⟩ := T.fdef 18 (d := d_trip_to)
  have F : FunD K "trip_to" "trip_to" (defArgs s_trip_to) (defBody s_trip_to) (defScope s_trip_to) [] [] (He.ga K "trip_to") fd := F0
  refine fn_mk (N := N_trip_to) (ps := ["led", "pair"]) F sc_trip_to (fun kV doc pm an cdv ct us hl => match us, hl with | [u0, u1], _ => rfl) (fun vs H Q => by walk_at "len") fun cdv A outer s H vs Q E hr h => ?_
  refine ⟨_, (pss_gcons (ps_set (i := 2) sc_trip_to.nd rfl (Or.inl rfl) pe_str) (pss_cons (ps_while PassesOwn.never (pt_cmpR (op_dnIn (hu64 hr) : OpR _ _ (rDnIn P w false)) (pv 1) (pv 0) (by rfl)) (pss_gcons (ps_asg (pe_dnK (P := P) (w := w) (hu64 hr) (pv 0) (pv 1)) (pg_tupK (n := 2) rfl (pgs_cons (pg_name (i := 1) sc_trip_to.nd rfl (Or.inl rfl)) (pgs_cons (pg_name (i := 3) sc_trip_to.nd rfl (Or.inl rfl)) pgs_nil)))) (pss_one (ps_set (i := 2) sc_trip_to.nd rfl (Or.inl rfl) (pe_op op_add_str (pe_callTy call_str_int (by rfl) T.f_str (by decide +kernel) (pa_cons (pv 3) pa_nil)) (pv 2)))))) (pss_one (ps_ret (pe_gh (pe_tup (pa_cons (pv 1) (pa_cons (pv 2) pa_nil)))))))), ?_⟩
  obtain ⟨la, pa, c, ld, es, p, rfl, oc, hd, hl, dep, hs9, hp, q⟩ := h
  have hgr : ∀ x e, ld x = some e → x ∈ grid := fun x e h => by
    have hin : InP es x := by unfold InP; rw [hl.isSome, h]; rfl
    exact mem_grid ((hl.1.at hin).1.bd oc)
  obtain ⟨n0, hn0⟩ := dep p
  have hn121 := hn0.le hgr
  walk_at "w"
  refine ⟨fun m σ H' => ∃ (na : Addr) (y : Pt) (z : Str) (s3 : Option V), σ = [some (.ref la), some (.ref na), some (.str z), s3] ∧ H' = H ∧ Pr2 H na y ∧ Dep ld y m ∧ z.length + 2 * m ≤ 2 * n0, ⟨n0, pa, p, "", _, rfl, rfl, hp, hn0, by show 0 + _ ≤ _; omega⟩, ?_⟩
  rintro m σ H' ⟨na, y, z, s3, rfl, rfl, hna, hy, hz⟩
  refine ⟨_, rfl, _, rfl, la, na, es, kP y, rfl, rfl, ⟨hd, hl.1.ko⟩, hna.key, kP_dp _, ?_⟩
  rw [hl.isSome]
  cases hy with
  | root h0 =>
    rw [h0]
    refine ⟨_, rfl, iF rfl ?_⟩
    refine ⟨_, rfl, _, rfl, sz, fun t ht => .now ?_⟩
    exact q t _ na z (same_new ht) upd_same
  | @step _ p1 s1 n1 h0 hk =>
    rw [h0]
    refine ⟨_, rfl, iT rfl ?_⟩
    refine ⟨_, fun σ' H' h => h, ?_⟩
    obtain ⟨ta, pa1, h4, h5, h6⟩ := hl.2.2 y p1 s1 h0
    refine ⟨_, rfl, _, rfl, la, na, es, kP y, _, rfl, rfl, ⟨hd, hl.1.ko⟩, hna.key, kP_dp _, h4, ?_⟩
    refine ⟨_, _, rfl, sqT_of h5, rfl, ?_⟩
    walk_at "g"
    have h9 := hs9 _ _ _ h0
    have ht := (txt_ok s1 (by omega)).1
    have hlg : (Int.ofNat s1).natAbs.log2 < 1920 := by
      have e : ∀ m : Fin 61, (Int.ofNat m.1).natAbs.log2 < 1920 := by decide +kernel
      exact e ⟨s1, by omega⟩
    refine ⟨hlg, ?_⟩
    refine ⟨_, rfl, _, _, rfl, rfl, ?_, ?_⟩
    · exact Nat.le_trans (show (txt s1).length + z.length ≤ 300 by omega) (by decide)
    · refine ⟨n1, Nat.lt_succ_self _, pa1, p1, _, _, rfl, rfl, h6, hk, ?_⟩
      have e : (txt s1 ++ z).length = (txt s1).length + z.length := Array.size_append
      show (txt s1 ++ z).length + 2 * n1 ≤ 2 * n0
      rw [e]
      omega
/-- the greatest gains so far -/
def BestD (P : Program) (w : World) (c : W2) (H : Hp) (bs : Pt → Option Int) (es : List Ent) : Prop := PK H (RP c) es ∧ ∀ p, lookE es (kP p) = (bs p).map V.int
theorem BestD.px {P : Program} {w : World} {c : W2} {H H' : Hp} {bs : Pt → Option Int} {es : List Ent} (e : Px H H') (h : BestD P w c H bs es) : BestD P w c H' bs es := ⟨h.1.px e, h.2⟩
theorem BestD.put {P : Program} {w : World} {c : W2} {H : Hp} {bs : Pt → Option Int} {es : List Ent} {p : Pt} {b : Addr} {x : Int} (h : BestD P w c H bs es) (hb : Pr2 H b p) (hp : RP c p) : BestD P w c H (setB bs p x) (putE es (kP p) b (.int x)) := by
  refine ⟨h.1.put hb hp, fun q => ?_⟩
  rw [lookP_put]
  unfold setB
  by_cases e : q = p
  · rw [if_pos e.symm, if_pos e]
    rfl
  · rw [if_neg (fun z => e z.symm), if_neg e]
    exact h.2 q
theorem LedD.put {P : Program} {w : World} {c : W2} {H : Hp} {la : Addr} {ld : Pt → Option (Pt × Nat)} {es : List Ent} {g p : Pt} {b ta pa : Addr} {s : Nat} (h : LedD P w c H la ld es) (hb : Pr2 H b g) (hg : RP c g) (ht : H ta = some (.tup [.ref pa, .int s])) (hp : Pr2 H pa p) :
    LedD P w c H la (setL ld g (p, s)) (putE es (kP g) b (.ref ta)) := by
  refine ⟨h.1.put hb hg, fun q hq => ?_, fun q p' s' hq => ?_⟩
  · unfold setL at hq
    rw [lookP_put]
    by_cases e : q = g
    · rw [if_pos e] at hq
      cases hq
    · rw [if_neg e] at hq
      rw [if_neg (fun z => e z.symm)]
      exact h.2.1 q hq
  · unfold setL at hq
    rw [lookP_put]
    by_cases e : q = g
    · rw [if_pos e] at hq
      cases hq
      rw [if_pos e.symm]
      exact ⟨ta, pa, rfl, ht, hp⟩
    · rw [if_neg e] at hq
      rw [if_neg (fun z => e z.symm)]
      exact h.2.2 q p' s' hq
/-- in the midst of the rounds -/
structure Ri (P : Program) (w : World) (c : W2) (ba la : Addr) (H : Hp) (bs : Pt → Option Int) (ld : Pt → Option (Pt × Nat)) (bes les : List Ent) : Prop where
  b : H ba = some (dNo P w ba bes)
  l : H la = some (dNo P w la les)
  bd : BestD P w c H bs bes
  ll : LedD P w c H la ld les
  pu : Pu c bs ld bes.length
  s1 : bes.length + mis2 bes ≤ 121
  s2 : les.length + mis2 les ≤ 121
theorem Ri.same {P : Program} {w : World} {c : W2} {ba la : Addr} {H H' : Hp} {bs : Pt → Option Int} {ld : Pt → Option (Pt × Nat)} {bes les : List Ent} (e : Same H H') (k : Ri P w c ba la H bs ld bes les) : Ri P w c ba la H' bs ld bes les :=
  ⟨e _ _ k.b, e _ _ k.l, k.bd.px (.of _ _ e), k.ll.px (.of _ _ e), k.pu, k.s1, k.s2⟩
theorem b0 (n : Nat) : n + (if false = true then 1 else 0) ≤ n := Nat.le_refl n
theorem filter_le {α : Type} {p q : α → Bool} : ∀ {L : List α}, (∀ x ∈ L, q x = true → p x = true) → (L.filter q).length ≤ (L.filter p).length
  | [], _ => Nat.le_refl _
  | b :: s, h => by
    have i2 := filter_le fun x hx => h x (List.mem_cons_of_mem b hx)
    rw [List.filter_cons, List.filter_cons]
    by_cases hq : q b = true
    · rw [if_pos hq, if_pos (h b List.mem_cons_self hq)]
      simp only [List.length_cons]
      omega
    · rw [if_neg hq]
      split
      · simp only [List.length_cons]; omega
      · exact i2
theorem put_some {es : List Ent} {k : NestedKey} {b : Addr} {v u : V} (h : lookE es k = some u) : (putE es k b v).length = es.length := by
  unfold putE
  rw [h, Option.isSome_some, if_pos rfl, List.length_map]
theorem put_none {es : List Ent} {k : NestedKey} {b : Addr} {v : V} (h : lookE es k = none) : (putE es k b v).length = es.length + 1 := by
  unfold putE
  rw [h, Option.isSome_none, if_neg (by decide), List.length_append, List.length_singleton]
theorem put_ge (es : List Ent) (k : NestedKey) (b : Addr) (v : V) : es.length ≤ (putE es k b v).length := by
  cases h : lookE es k with
  | none => rw [put_none h]; omega
  | some u => rw [put_some h]; omega
theorem sz_put {es : List Ent} {p : Pt} {b : Addr} {v : V} (hp : p ∈ grid) (h : es.length + mis2 es ≤ 121) : (putE es (kP p) b v).length + mis2 (putE es (kP p) b v) ≤ 121 := by
  cases hk : lookE es (kP p) with
  | none =>
    have := mis2_lt (b := b) (v := v) hp hk
    rw [put_none hk]
    omega
  | some u =>
    rw [put_some hk]
    have : mis2 (putE es (kP p) b v) ≤ mis2 es := by
      refine filter_le fun x _ hx => ?_
      rw [look_put] at hx
      by_cases e : kP p = kP x
      · rw [if_pos e] at hx
        cases hx
      · rw [if_neg e] at hx
        exact hx
    omega
def pr_raised (P : Program) (w : World) (K : PySem.W.Frag) : Pr := fun vs H Q => ∃ (sd s fa : Addr) (c : W2), vs = [.ref sd, .ref s] ∧ c.Ok ∧ Dear c.M1 c.M2 ∧ StepsP P w c H sd ∧ SqL K H s [.ref fa] ∧ Pr2 H fa c.fst ∧
  ∀ t H' ba la ob ol bs ld bes les, Same H H' → H' t = some (.tup [.ref ba, .ref la, .non]) → H' ba = some (.frz ob (dNo P w ba bes)) → H' la = some (.frz ol (dNo P w la les)) → BestD P w c H' bs bes → LedD P w c H' la ld les → Pu c bs ld bes.length → bes.length ≤ 121 → Q (.ref t) H'
theorem ok_raised (T : Wd K mg base) : Fn P w K mg base 2 (He.ga K "raised") (pr_raised P w K) := by
  obtain ⟨fd, F0⟩ := T.fdef 17 (d := d_raised)
  have F : FunD K "raised" "raised" (defArgs s_raised) (defBody s_raised) (defScope s_raised) [] [] (He.ga K "raised") fd := F0
  refine fn_mk (N := N_raised) (ps := ["steps", "sources"]) F sc_raised (fun kV doc pm an cdv ct us hl => match us, hl with | [u0, u1], _ => rfl) (fun vs H Q => by walk_at "len") fun cdv A outer s H vs Q E hr h => ?_
  refine ⟨_, (pss_gcons (ps_setDcN (i := 2) (own := [("pair", 5)]) (hu64 hr) rfl sc_raised.nd rfl rfl (swD_true rfl rfl rfl (by decide +kernel)) (pi_listK (K := K) (pv 1)) (blkOk_by (own := [("pair", 5)]) (N := N_raised) (sc := defScope s_raised) (by decide +kernel)) (fun _ _ _ _ _ => (pg_name (i := 5) sc_raised.nd rfl (Or.inl rfl))) (fun _ _ _ _ _ => pts_nil) (fun _ _ _ _ _ => (pv 5)) (fun _ _ _ _ _ => pe_int)) (pss_gcons (ps_set (i := 3) sc_raised.nd rfl (Or.inl rfl) pe_dnNew) (pss_gcons (ps_set (i := 4) sc_raised.nd rfl (Or.inl rfl) pe_bl) (pss_cons (ps_while PassesOwn.never (pt_val (pv 4)) (pss_gcons (ps_set (i := 4) sc_raised.nd rfl (Or.inl rfl) pe_bl) (pss_cons (ps_gh (ps_for PassesOwn.never rfl (pi_keysN (pv 0)) (pg_name (i := 5) sc_raised.nd rfl (Or.inl rfl)) (pss_one (ps_for PassesOwn.never rfl (pi_listK (K := K) (pe_ifExp (pt_cmpR (op_dnIn (hu64 hr) : OpR _ _ (rDnIn P w false)) (pv 5) (pv 2) (by rfl)) (pe_dnK (P := P) (w := w) (hu64 hr) (pv 0) (pv 5)) (pe_lst pa_nil))) (pg_tupK (n := 3) rfl (pgs_cons (pg_name (i := 6) sc_raised.nd rfl (Or.inl rfl)) (pgs_cons (pg_name (i := 7) sc_raised.nd rfl (Or.inl rfl)) (pgs_cons (pg_name (i := 8) sc_raised.nd rfl (Or.inl rfl)) pgs_nil)))) (pss_one (ps_if (PW.pt (pw_or (pt_cmpR (op_dnNotIn (hu64 hr) : OpR _ _ (rDnIn P w true)) (pv 8) (pv 2) (by rfl)) (pw_or1 (pt_cmpR op_lt (pe_dnK (P := P) (w := w) (hu64 hr) (pv 2) (pv 8)) (pe_op op_add (pe_dnK (P := P) (w := w) (hu64 hr) (pv 2) (pv 5)) (pv 7)) (nomark _))))) (pss_gcons (ps_asg (pe_op op_add (pe_dnK (P := P) (w := w) (hu64 hr) (pv 2) (pv 5)) (pv 7)) (pg_sub (pv 2) (pv 8) (set_dn (hu64 hr)))) (pss_gcons (ps_asg (pe_tup (pa_cons (pv 5) (pa_cons (pv 6) pa_nil))) (pg_sub (pv 3) (pv 8) (set_dn (hu64 hr)))) (pss_one (ps_set (i := 4) sc_raised.nd rfl (Or.inl rfl) pe_bl)))) pss_nil)))))) (pss_one (ps_if (pt_cmpR op_notN (pe_R (ok_ring_in T) (hr.mono (by decide)) T.g_ring_in T.k_ring_in (pa_cons (pv 3) pa_nil)) pe_non (nomark _)) (pss_one (ps_ret (pe_gh (pe_tup (pa_cons (pv 2) (pa_cons (pv 3) (pa_cons (pe_R (ok_ring_in T) (hr.mono (by decide)) T.g_ring_in T.k_ring_in (pa_cons (pv 3) pa_nil)) pa_nil))))))) pss_nil))))) (pss_one (ps_ret (pe_gh (pe_tup (pa_cons (pv 2) (pa_cons (pv 3) (pa_cons pe_non pa_nil))))))))))), ?_⟩
  obtain ⟨sd, s, fa, c, rfl, oc, D, ⟨os, ses, hsd, spk, hst⟩, hs, hfa, q⟩ := h
  have tp := oc.tp
  refine ⟨_, rfl, _, rfl, ⟨_, hs⟩, fun ba hba => ?_⟩
  refine ⟨fun i m H' => (i = 0 ∧ m = 1 ∧ H' = upd H ba (dNo P w ba [])) ∨ (i = 1 ∧ m = 0 ∧ H' = upd (upd H ba (dNo P w ba [])) ba (dNo P w ba [(kP c.fst, fa, .int 0)])), ⟨1, .inl ⟨rfl, rfl, rfl⟩⟩, ?_⟩
  have e0 : Same H (upd H ba (dNo P w ba [])) := same_new hba
  rintro i m H' (⟨rfl, rfl, rfl⟩ | ⟨rfl, rfl, rfl⟩)
  · refine .inr ⟨⟨_, _, SqL.same e0 hs, rfl⟩, fun H' => H' = upd (upd H ba (dNo P w ba [])) ba (dNo P w ba [(kP c.fst, fa, .int 0)]), fun H' h => ⟨0, Nat.one_pos, .inr ⟨rfl, rfl, h⟩⟩, fun x H'' hx => ?_⟩
    obtain ⟨rfl, hx⟩ := hx
    obtain rfl : V.ref fa = x := Option.some.inj (hx _ (SqL.same e0 hs))
    refine ⟨rfl, ?_⟩
    walk_at "w"
    exact ⟨[], fa, kP c.fst, rfl, upd_same, (fun _ z => nomatch z), (hfa.px (.of _ _ e0)).key, kP_dp _, szL (by decide), rfl⟩
  refine .inl ⟨⟨_, SqL.same (same_mut e0 hba) hs, Nat.le_refl _⟩, .now ?_⟩
  have e1 : Same H (upd (upd H ba (dNo P w ba [])) ba (dNo P w ba [(kP c.fst, fa, .int 0)])) := same_mut e0 hba
  have b1 : upd (upd H ba (dNo P w ba [])) ba (dNo P w ba [(kP c.fst, fa, .int 0)]) ba = some (dNo P w ba [(kP c.fst, fa, .int 0)]) := upd_same
  generalize upd (upd H ba (dNo P w ba [])) ba (dNo P w ba [(kP c.fst, fa, .int 0)]) = H1 at e1 b1 ⊢
  intro la hla
  refine .now ?_
  have nbl : ba ≠ la := fun z => by rw [← z, b1] at hla; cases hla
  have frl : H la = none := fresh_of e1 hla
  have e2 : Same H (upd H1 la (dNo P w la [])) := e1.trans (same_new hla)
  have k0 : Ri P w c ba la (upd H1 la (dNo P w la [])) (setB (fun _ => none) c.fst 0) (fun _ => none) [(kP c.fst, fa, .int 0)] [] := by
    have mm : mis2 [(kP c.fst, fa, V.int 0)] < 121 := Nat.lt_of_lt_of_eq (mis2_lt (es := []) (b := fa) (v := V.int 0) (mem_grid (RP.bd oc .first)) rfl) mis2_nil
    have sb : ∀ q x, setB (fun _ => none) c.fst 0 q = some x → q = c.fst ∧ x = 0 := fun q x h => by
      unfold setB at h
      by_cases e : q = c.fst
      · rw [if_pos e] at h; cases h; exact ⟨e, rfl⟩
      · rw [if_neg e] at h; cases h
    refine ⟨(same_new hla) _ _ b1, upd_same, BestD.put (es := []) ⟨PK.nil, fun p => rfl⟩ (hfa.px (.of _ _ e2)) .first, ⟨PK.nil, fun g _ => rfl, (fun g p s h => by cases h)⟩, ⟨?_, ?_, (by unfold setB; rw [if_pos rfl]), ?_, (fun g p s h => by cases h), fun x => ⟨0, .root rfl⟩⟩, by simp; omega, by rw [mis2_nil]; exact Nat.le_refl _⟩
    · intro q x h
      obtain ⟨rfl, rfl⟩ := sb q x h
      exact Re.first oc
    · intro q x h
      obtain ⟨rfl, rfl⟩ := sb q x h
      exact .first
    · intro q x h
      obtain ⟨rfl, rfl⟩ := sb q x h
      unfold Gx
      simp
  walk_at "w"
  refine ⟨fun m σ H' => ∃ (t : Bool) (s5 s6 s7 s8 : Option V) (bs : Pt → Option Int) (ld : Pt → Option (Pt × Nat)) (bes les : List Ent), σ = [some (.ref sd), some (.ref s), some (.ref ba), some (.ref la), some (.bl t), s5, s6, s7, s8] ∧ m = 2 * mu bs + (if t = true then 1 else 0) ∧ Same H H' ∧ Ri P w c ba la H' bs ld bes les,
    ⟨_, true, _, _, _, _, _, _, _, _, rfl, rfl, e2, k0⟩, ?_⟩
  rintro m σ H3 ⟨t, s5, s6, s7, s8, bs, ld, bes, les, rfl, rfl, e3, k⟩
  refine ⟨_, rfl, t, rfl, ?_⟩
  cases t with
  | false =>
    refine iF rfl ?_
    refine ⟨_, rfl, _, rfl, sz, fun t ht => ?_⟩
    have kn := k.same (same_new (o := .tup [.ref ba, .ref la, .non]) ht)
    refine .frz kn.b True.intro fun ob => .frz (u := dNo P w la les) (by rw [upd_ne nbl.symm]; exact kn.l) True.intro fun ol => .now ?_
    have ntb : t ≠ ba := fun z => by rw [z, k.b] at ht; cases ht
    have ntl : t ≠ la := fun z => by rw [z, k.l] at ht; cases ht
    have pE : Px (upd H3 t (.tup [.ref ba, .ref la, .non])) (upd (upd (upd H3 t (.tup [.ref ba, .ref la, .non])) ba (.frz ob (dNo P w ba bes))) la (.frz ol (dNo P w la les))) := (Px.frz kn.b dNo_imm).trans (Px.frz (by rw [upd_ne nbl.symm]; exact kn.l) dNo_imm)
    refine q t _ ba la ob ol bs ld bes les (same_mut (same_mut (e3.trans (same_new ht)) hba) frl) ?_ ?_ upd_same (kn.bd.px pE) (kn.ll.px pE) k.pu (by have := k.s1; omega)
    · rw [upd_ne ntl, upd_ne ntb, upd_same]
    · rw [upd_ne nbl, upd_same]
  | true =>
    refine iT rfl ?_
    refine ⟨_, fun σ' H' h => h, .now ?_⟩
    refine .now ?_
    refine ⟨_, rfl, sd, os, ses, rfl, e3 _ _ hsd, ?_⟩
    refine for_go ses.length (fun i σ H' => ∃ (t : Bool) (s5 s6 s7 s8 : Option V) (bs' : Pt → Option Int) (ld : Pt → Option (Pt × Nat)) (bes les : List Ent), σ = [some (.ref sd), some (.ref s), some (.ref ba), some (.ref la), some (.bl t), s5, s6, s7, s8] ∧ mu bs' + (if t = true then 1 else 0) ≤ mu bs ∧ Same H H' ∧ Ri P w c ba la H' bs' ld bes les) ?_ ?_ ?_
    · exact ⟨false, _, _, _, _, bs, ld, bes, les, rfl, b0 _, e3, k⟩
    · rintro i σ H4 hi ⟨t, s5, s6, s7, s8, bs', ld', bes', les', rfl, hm, e4, k⟩
      refine ⟨⟨e4 _ _ hsd, hi⟩, fun x H'' hx => ?_⟩
      obtain ⟨rfl, en, hen, rfl⟩ := hx
      obtain ⟨p, hp1, hp2, hp3⟩ := spk en (List.mem_of_getElem? hen)
      obtain ⟨v0, hv0, L, ts, rfl, hL, hts, hstp⟩ := hst p hp3
      have p4 := Px.of _ _ e4
      have hp4 := hp2.px p4
      refine ⟨_, rfl, _, rfl, ba, en.2.1, bes', kP p, rfl, rfl, ⟨.of k.b, k.bd.1.ko⟩, hp4.key, kP_dp _, ?_⟩
      rw [k.bd.2 p]
      have goon : ∀ (La : Addr) (tl : List V) (H5 : Hp) (n : Nat), SqL K H5 La tl → (∀ H6, Same H5 H6 → SqL K H6 La tl) → Same H H5 → Ri P w c ba la H5 bs' ld' bes' les' → True := fun _ _ _ _ _ _ _ _ => True.intro
      cases hbp : bs' p with
      | none =>
        refine ⟨_, rfl, iF rfl ?_⟩
        refine ⟨sz, fun E0 hE0 => ?_⟩
        refine ⟨_, rfl, ⟨_, sqL_of upd_same⟩, ?_⟩
        refine for_go 0 (fun i σ H' => ∃ (t : Bool) (s5 s6 s7 s8 : Option V) (bs' : Pt → Option Int) (ld : Pt → Option (Pt × Nat)) (bes les : List Ent), σ = [some (.ref sd), some (.ref s), some (.ref ba), some (.ref la), some (.bl t), s5, s6, s7, s8] ∧ mu bs' + (if t = true then 1 else 0) ≤ mu bs ∧ Same H H' ∧ Ri P w c ba la H' bs' ld bes les ∧ H' E0 = some (.lst [])) ?_ ?_ ?_
        · exact ⟨t, _, _, _, _, bs', ld', bes', les', rfl, hm, e4.trans (same_new hE0), k.same (same_new hE0), upd_same⟩
        · intro i σ H' hi
          omega
        · rintro σ H' ⟨t, s5, s6, s7, s8, bs2, ld2, bes2, les2, rfl, h1, h2, h3, h4⟩
          exact ⟨⟨_, sqL_of h4, Nat.le_refl _⟩, t, _, _, _, _, bs2, ld2, bes2, les2, rfl, h1, h2, h3⟩
      | some xp0 =>
        refine ⟨_, rfl, iT rfl ?_⟩
        refine ⟨_, rfl, _, rfl, sd, en.2.1, ses, kP p, _, rfl, rfl, ⟨.inr ⟨_, e4 _ _ hsd⟩, (spk.px p4).ko⟩, hp4.key, kP_dp _, hv0, ?_⟩
        refine ⟨_, rfl, ⟨_, (hL.px p4).sq⟩, ?_⟩
        refine for_go (c.top + 1) (fun i σ H' => ∃ (t : Bool) (s6 s7 s8 : Option V) (bs' : Pt → Option Int) (ld : Pt → Option (Pt × Nat)) (bes les : List Ent) (xp : Int), σ = [some (.ref sd), some (.ref s), some (.ref ba), some (.ref la), some (.bl t), some (.ref en.2.1), s6, s7, s8] ∧ mu bs' + (if t = true then 1 else 0) ≤ mu bs ∧ Same H H' ∧ Ri P w c ba la H' bs' ld bes les ∧ bs' p = some xp) ?_ ?_ ?_
        · exact ⟨t, _, _, _, bs', ld', bes', les', xp0, rfl, hm, e4, k, hbp⟩
        · rintro j σ H5 hj ⟨t, s6, s7, s8, bs5, ld5, bes5, les5, xp, rfl, hm5, e5, k, hxp⟩
          have p5 := Px.of _ _ e5
          refine ⟨itl_go (hL.px p5).sq (by omega), fun y H'' hy => ?_⟩
          obtain ⟨rfl, hy⟩ := hy
          have hy := hy _ (hL.px p5).sq
          obtain ⟨sa, h1, g, h2, h3⟩ := hstp j (by omega)
          rw [h1] at hy
          obtain rfl : V.ref sa = y := Option.some.inj hy
          have hg := h3.px p5
          have hpp := hp2.px p5
          refine ⟨_, _, rfl, sqT_of (p5 _ _ h2 True.intro), rfl, ?_⟩
          walk_at "g"
          refine ⟨ba, g, bes5, kP (c.nx p j), rfl, rfl, ⟨.of k.b, k.bd.1.ko⟩, hg.key, kP_dp _, ?_⟩
          rw [k.bd.2 (c.nx p j)]
          cases hbg : bs5 (c.nx p j) with
          | none =>
            have hc : bs5 (c.nx p j) = none ∨ ∃ xg, bs5 (c.nx p j) = some xg ∧ xg < xp + c.gn p j := .inl hbg
            refine ⟨_, rfl, iT rfl ?_⟩
            refine iT rfl ?_
            have rg : RP c (c.nx p j) := .step hp3 (by omega)
            have ks1 := k.s1
            have ks2 := k.s2
            obtain ⟨pu', mulT⟩ := k.pu.set oc D (by omega) hxp (show j ≤ c.top by omega) hc (n' := (putE bes5 (kP (c.nx p j)) g (.int (xp + c.gn p j))).length) (put_ge _ _ _ _) (fun h => put_none (by rw [k.bd.2, h]; rfl))
            have hmu : mu bs5 ≤ mu bs := Nat.le_trans (Nat.le_add_right _ _) hm5
            have lkp : lookE bes5 (kP p) = some (.int xp) := by rw [k.bd.2 p, hxp]; rfl
            refine ⟨_, rfl, _, rfl, ba, en.2.1, bes5, kP p, _, rfl, rfl, ⟨.of k.b, k.bd.1.ko⟩, hpp.key, kP_dp _, lkp, ?_⟩
            walk_at "w"
            refine ⟨ba, g, bes5, kP (c.nx p j), rfl, rfl, k.b, k.bd.1.ko, hg.key, kP_dp _, szL (by omega), .now ?_⟩
            have b6 : upd H'' ba (dNo P w ba (putE bes5 (kP (c.nx p j)) g (.int (xp + c.gn p j)))) ba = some (dNo P w ba (putE bes5 (kP (c.nx p j)) g (.int (xp + c.gn p j)))) := upd_same
            have l6 : upd H'' ba (dNo P w ba (putE bes5 (kP (c.nx p j)) g (.int (xp + c.gn p j)))) la = some (dNo P w la les5) := by rw [upd_ne nbl.symm]; exact k.l
            have p6 : Px H'' (upd H'' ba (dNo P w ba (putE bes5 (kP (c.nx p j)) g (.int (xp + c.gn p j))))) := Px.mut k.b dNo_imm
            have e6 : Same H (upd H'' ba (dNo P w ba (putE bes5 (kP (c.nx p j)) g (.int (xp + c.gn p j))))) := same_mut e5 hba
            have bd6 := (k.bd.put (x := xp + c.gn p j) hg rg).px p6
            have ll6 := k.ll.px p6
            show tSeqG _ _ _ _ (upd H'' ba (dNo P w ba (putE bes5 (kP (c.nx p j)) g (.int (xp + c.gn p j)))))
            generalize upd H'' ba (dNo P w ba (putE bes5 (kP (c.nx p j)) g (.int (xp + c.gn p j)))) = H6 at b6 l6 p6 e6 bd6 ll6 ⊢
            walk_at "w"
            refine ⟨sz, fun ta hta => ?_⟩
            have p7 : Px H6 (upd H6 ta (.tup [.ref en.2.1, .int j])) := Px.new hta
            have t7 : upd H6 ta (.tup [.ref en.2.1, .int j]) ta = some (.tup [.ref en.2.1, .int j]) := upd_same
            have b7 := (same_new (o := HO.tup [.ref en.2.1, .int j]) hta) _ _ b6
            have l7 := (same_new (o := HO.tup [.ref en.2.1, .int j]) hta) _ _ l6
            have e7 : Same H (upd H6 ta (.tup [.ref en.2.1, .int j])) := e6.trans (same_new hta)
            have pq := p6.trans p7
            have ll7 := (ll6.px p7).put (s := j) (hg.px pq) rg t7 (hpp.px pq)
            refine ⟨_, rfl, _, rfl, la, g, les5, kP (c.nx p j), rfl, rfl, l7, (ll6.px p7).1.ko, (hg.px pq).key, kP_dp _, szL (by omega), .now ?_⟩
            have p8 : Px (upd H6 ta (.tup [.ref en.2.1, .int j])) (upd (upd H6 ta (.tup [.ref en.2.1, .int j])) la (dNo P w la (putE les5 (kP (c.nx p j)) g (.ref ta)))) := Px.mut l7 dNo_imm
            have gr := mem_grid (rg.bd oc)
            refine ⟨true, _, _, _, setB bs5 (c.nx p j) (xp + c.gn p j), setL ld5 (c.nx p j) (p, j), putE bes5 (kP (c.nx p j)) g (.int (xp + c.gn p j)), putE les5 (kP (c.nx p j)) g (.ref ta), if p = c.nx p j then xp + c.gn p j else xp, rfl, by rw [if_pos rfl]; omega, same_mut e7 frl, ⟨by rw [upd_ne nbl]; exact b7, upd_same, (bd6.px p7).px p8, ll7.px p8, pu', sz_put gr ks1, sz_put gr ks2⟩, ?_⟩
            unfold setB
            by_cases e : p = c.nx p j
            · rw [if_pos e, if_pos e]
            · rw [if_neg e, if_neg e]
              exact hxp
          | some xg =>
            refine ⟨_, rfl, iF rfl ?_⟩
            have lkg : lookE bes5 (kP (c.nx p j)) = some (.int xg) := by rw [k.bd.2, hbg]; rfl
            have lkq : lookE bes5 (kP p) = some (.int xp) := by rw [k.bd.2 p, hxp]; rfl
            refine ⟨_, rfl, _, rfl, ba, g, bes5, kP (c.nx p j), _, rfl, rfl, ⟨.of k.b, k.bd.1.ko⟩, hg.key, kP_dp _, lkg, ?_⟩
            refine ⟨_, rfl, _, rfl, ba, en.2.1, bes5, kP p, _, rfl, rfl, ⟨.of k.b, k.bd.1.ko⟩, hpp.key, kP_dp _, lkq, ?_⟩
            refine ⟨_, rfl, _, _, rfl, rfl, _, _, rfl, rfl, _, rfl, ?_⟩
            refine iB (fun hlt => ?_) fun hlt => ?_
            · have hc : bs5 (c.nx p j) = none ∨ ∃ xg, bs5 (c.nx p j) = some xg ∧ xg < xp + c.gn p j := .inr ⟨xg, hbg, of_decide_eq_true hlt⟩
              have rg : RP c (c.nx p j) := .step hp3 (by omega)
              have ks1 := k.s1
              have ks2 := k.s2
              obtain ⟨pu', mulT⟩ := k.pu.set oc D (by omega) hxp (show j ≤ c.top by omega) hc (n' := (putE bes5 (kP (c.nx p j)) g (.int (xp + c.gn p j))).length) (put_ge _ _ _ _) (fun h => put_none (by rw [k.bd.2, h]; rfl))
              have hmu : mu bs5 ≤ mu bs := Nat.le_trans (Nat.le_add_right _ _) hm5
              have lkp : lookE bes5 (kP p) = some (.int xp) := by rw [k.bd.2 p, hxp]; rfl
              refine ⟨_, rfl, _, rfl, ba, en.2.1, bes5, kP p, _, rfl, rfl, ⟨.of k.b, k.bd.1.ko⟩, hpp.key, kP_dp _, lkp, ?_⟩
              walk_at "w"
              refine ⟨ba, g, bes5, kP (c.nx p j), rfl, rfl, k.b, k.bd.1.ko, hg.key, kP_dp _, szL (by omega), .now ?_⟩
              have b6 : upd H'' ba (dNo P w ba (putE bes5 (kP (c.nx p j)) g (.int (xp + c.gn p j)))) ba = some (dNo P w ba (putE bes5 (kP (c.nx p j)) g (.int (xp + c.gn p j)))) := upd_same
              have l6 : upd H'' ba (dNo P w ba (putE bes5 (kP (c.nx p j)) g (.int (xp + c.gn p j)))) la = some (dNo P w la les5) := by rw [upd_ne nbl.symm]; exact k.l
              have p6 : Px H'' (upd H'' ba (dNo P w ba (putE bes5 (kP (c.nx p j)) g (.int (xp + c.gn p j))))) := Px.mut k.b dNo_imm
              have e6 : Same H (upd H'' ba (dNo P w ba (putE bes5 (kP (c.nx p j)) g (.int (xp + c.gn p j))))) := same_mut e5 hba
              have bd6 := (k.bd.put (x := xp + c.gn p j) hg rg).px p6
              have ll6 := k.ll.px p6
              show tSeqG _ _ _ _ (upd H'' ba (dNo P w ba (putE bes5 (kP (c.nx p j)) g (.int (xp + c.gn p j)))))
              generalize upd H'' ba (dNo P w ba (putE bes5 (kP (c.nx p j)) g (.int (xp + c.gn p j)))) = H6 at b6 l6 p6 e6 bd6 ll6 ⊢
              walk_at "w"
              refine ⟨sz, fun ta hta => ?_⟩
              have p7 : Px H6 (upd H6 ta (.tup [.ref en.2.1, .int j])) := Px.new hta
              have t7 : upd H6 ta (.tup [.ref en.2.1, .int j]) ta = some (.tup [.ref en.2.1, .int j]) := upd_same
              have b7 := (same_new (o := HO.tup [.ref en.2.1, .int j]) hta) _ _ b6
              have l7 := (same_new (o := HO.tup [.ref en.2.1, .int j]) hta) _ _ l6
              have e7 : Same H (upd H6 ta (.tup [.ref en.2.1, .int j])) := e6.trans (same_new hta)
              have pq := p6.trans p7
              have ll7 := (ll6.px p7).put (s := j) (hg.px pq) rg t7 (hpp.px pq)
              refine ⟨_, rfl, _, rfl, la, g, les5, kP (c.nx p j), rfl, rfl, l7, (ll6.px p7).1.ko, (hg.px pq).key, kP_dp _, szL (by omega), .now ?_⟩
              have p8 : Px (upd H6 ta (.tup [.ref en.2.1, .int j])) (upd (upd H6 ta (.tup [.ref en.2.1, .int j])) la (dNo P w la (putE les5 (kP (c.nx p j)) g (.ref ta)))) := Px.mut l7 dNo_imm
              have gr := mem_grid (rg.bd oc)
              refine ⟨true, _, _, _, setB bs5 (c.nx p j) (xp + c.gn p j), setL ld5 (c.nx p j) (p, j), putE bes5 (kP (c.nx p j)) g (.int (xp + c.gn p j)), putE les5 (kP (c.nx p j)) g (.ref ta), if p = c.nx p j then xp + c.gn p j else xp, rfl, by rw [if_pos rfl]; omega, same_mut e7 frl, ⟨by rw [upd_ne nbl]; exact b7, upd_same, (bd6.px p7).px p8, ll7.px p8, pu', sz_put gr ks1, sz_put gr ks2⟩, ?_⟩
              unfold setB
              by_cases e : p = c.nx p j
              · rw [if_pos e, if_pos e]
              · rw [if_neg e, if_neg e]
                exact hxp
            · exact ⟨t, _, _, _, bs5, ld5, bes5, les5, xp, rfl, hm5, e5, k, hxp⟩
        · rintro σ H5 ⟨t, s6, s7, s8, bs5, ld5, bes5, les5, xp, rfl, hm5, e5, k, hxp⟩
          exact ⟨⟨_, (hL.px (.of _ _ e5)).sq, by omega⟩, t, _, _, _, _, bs5, ld5, bes5, les5, rfl, hm5, e5, k⟩
    · rintro σ H4 ⟨t, s5, s6, s7, s8, bs', ld', bes', les', rfl, hm, e4, k⟩
      refine ⟨⟨e4 _ _ hsd, Nat.le_refl _⟩, ?_⟩
      walk_at "w"
      refine ⟨la, c, ld', les', rfl, oc, k.l, k.ll, k.pu.dep, fun H5 e5 => ?_⟩
      walk_at "w"
      refine ⟨2 * mu bs' + (if t = true then 1 else 0), ?_, t, _, _, _, _, bs', ld', bes', les', rfl, rfl, e4.trans e5, k.same e5⟩
      cases t with
      | true => rw [if_pos rfl] at hm ⊢; omega
      | false => rw [if_neg (by decide)] at hm ⊢; simp; omega
end Cab
set_option Elab.async false
set_option linter.all false
set_option maxRecDepth 100000
set_option maxHeartbeats 2000000
set_option pp.maxSteps 1500
namespace Cab
open PySem PySem.Spec PyProof.Rows L2

local macro_rules | `(tactic| walk_at "w") => `(tactic| repeat (first | refine Gh.now ?_ | refine ⟨_, rfl, ?_⟩ | refine ⟨_, _, rfl, rfl, ?_⟩ | refine ⟨rfl, ?_⟩))
local macro_rules | `(tactic| walk_at "g") => `(tactic| repeat (first | refine ⟨_, _, rfl, rfl, ?_⟩ | refine ⟨_, _, rfl, ?_⟩ | refine ⟨rfl, ?_⟩ | refine Gh.now ?_ | refine ⟨_, rfl, ?_⟩))
local macro_rules | `(tactic| walk_at "len") => `(tactic| first | (intro hh; obtain ⟨e, _⟩ := hh; exact congrArg List.length e) | (intro hh; obtain ⟨_, e, _⟩ := hh; exact congrArg List.length e) | (intro hh; obtain ⟨_, _, e, _⟩ := hh; exact congrArg List.length e) | (intro hh; obtain ⟨_, _, _, e, _⟩ := hh; exact congrArg List.length e) | (intro hh; obtain ⟨_, _, _, _, e, _⟩ := hh; exact congrArg List.length e) | (intro hh; obtain ⟨_, _, _, _, _, e, _⟩ := hh; exact congrArg List.length e) | (intro hh; obtain ⟨_, _, _, _, _, _, e, _⟩ := hh; exact congrArg List.length e) | (intro hh; obtain ⟨_, _, _, _, _, _, _, e, _⟩ := hh; exact congrArg List.length e) | (intro hh; obtain ⟨_, _, _, _, _, _, _, _, e, _⟩ := hh; exact congrArg List.length e) | (intro hh; obtain ⟨_, _, _, _, _, _, _, _, _, e, _⟩ := hh; exact congrArg List.length e) | (intro hh; obtain ⟨_, _, _, _, _, _, _, _, _, _, e, _⟩ := hh; exact congrArg List.length e) | (intro hh; obtain ⟨_, _, _, _, _, _, _, _, _, _, _, e, _⟩ := hh; exact congrArg List.length e) | (intro hh; obtain ⟨_, _, _, _, _, _, _, _, _, _, _, _, e, _⟩ := hh; exact congrArg List.length e))
variable {P : Program} {w : World} {K : PySem.W.Frag} {mg : Str → Option Value} {base : Heap}

theorem ints_of' : ∀ (gs : List V) (R : Nat → Int → Prop), (∀ j y, gs[j]? = some y → ∃ g : Int, y = .int g ∧ R j g) → ∃ ns : List Int, gs = ns.map V.int ∧ ∀ j g, ns[j]? = some g → R j g
  | [], _, _ => ⟨[], rfl, fun j g h => by simp at h⟩
  | y :: r, R, h => by
    obtain ⟨g, rfl, hg⟩ := h 0 y rfl
    obtain ⟨gas, rfl, hr⟩ := ints_of' r (fun j g => R (j + 1) g) fun j y hy => h (j + 1) y (by simpa using hy)
    refine ⟨g :: gas, rfl, fun j g' hj => ?_⟩
    cases j with
    | zero => cases hj; exact hg
    | succ j => exact hr j g' (by simpa using hj)
theorem in_idx {es : List Ent} {p : Pt} (h : InP es p) : ∃ (i : Nat) (e : Ent), es[i]? = some e ∧ e.1 = kP p := by
  unfold InP lookE at h
  rw [Option.isSome_map, List.find?_isSome] at h
  obtain ⟨e, he, h2⟩ := h
  obtain ⟨i, hi, h3⟩ := List.mem_iff_getElem.mp he
  exact ⟨i, e, by rw [List.getElem?_eq_getElem hi, h3], of_decide_eq_true h2⟩
def pr_greatest_excess (P : Program) (w : World) (K : PySem.W.Frag) : Pr := fun vs H Q => ∃ (m1 m2 : Addr) (c : W2), vs = [.ref m1, .ref m2, .int c.top] ∧ c.Ok ∧ Dear c.M1 c.M2 ∧ MetAt P w K H m1 c.M1 ∧ MetAt P w K H m2 c.M2 ∧
  ∀ t H' z, Same H H' → H' t = some (.tup [.int (c.M1.flag - c.M2.flag), .str z]) → Q (.ref t) H'
theorem ok_greatest_excess (T : Wd K mg base) : Fn P w K mg base 7 (He.ga K "greatest_excess") (pr_greatest_excess P w K) := by
  obtain ⟨fd, F0⟩ := T.fdef 19 (d := d_greatest_excess)
  have F : FunD K "greatest_excess" "greatest_excess" (defArgs s_greatest_excess) (defBody s_greatest_excess) (defScope s_greatest_excess) [V.int 9] [] (He.ga K "greatest_excess") fd := F0
  refine fn_mkD (N := N_greatest_excess) (ps := ["one", "other", "top"]) F sc_greatest_excess (by intro z; cases z) (fun T kV doc pm an cdv ct us its hl hl2 => match us, its, hl, hl2 with | [u0, u1, u2], [d0], _, _ => ⟨_, rfl, rfl⟩) (fun vs H Q => by walk_at "len") fun cdv A outer s H vs Q E hr h => ?_
  refine ⟨_, (pss_cons (ps_expr (pe_R (ok_check_top T) (hr.mono (by decide)) T.g_check_top T.k_check_top (pa_cons (pv 2) pa_nil))) (pss_gcons (ps_set (i := 3) sc_greatest_excess.nd rfl (Or.inl rfl) (pe_tup (pa_cons (pe_P (ok_Meter_start T) (hr.mono (by decide)) T.cls_Meter T.p_Meter_start (pv 0)) (pa_cons (pe_P (ok_Meter_start T) (hr.mono (by decide)) T.cls_Meter T.p_Meter_start (pv 1)) pa_nil)))) (pss_gcons (ps_asg (pe_R (ok_raised T) (hr.mono (by decide)) T.g_raised T.k_raised (pa_cons (pe_R (ok_pairs_from T) (hr.mono (by decide)) T.g_pairs_from T.k_pairs_from (pa_cons (pv 0) (pa_cons (pv 1) (pa_cons (pv 2) (pa_cons (pe_lst (pa_cons (pv 3) pa_nil)) pa_nil))))) (pa_cons (pe_lst (pa_cons (pv 3) pa_nil)) pa_nil))) (pg_tupK (n := 3) rfl (pgs_cons (pg_name (i := 4) sc_greatest_excess.nd rfl (Or.inr rfl)) (pgs_cons (pg_name (i := 5) sc_greatest_excess.nd rfl (Or.inl rfl)) (pgs_cons (pg_name (i := 6) sc_greatest_excess.nd rfl (Or.inl rfl)) pgs_nil))))) (pss_cons (ps_if (pt_cmpR op_notN (pv 6) pe_non (nomark _)) (pss_one (ps_ret (pe_gh pe_non))) pss_nil) (pss_gcons (ps_set (i := 7) sc_greatest_excess.nd rfl (Or.inr rfl) (pe_callB (cr_max rfl) (by rfl) T.f_max (by decide +kernel) (pa_cons (pe_lc (own := [("pair", 8)]) rfl sc_greatest_excess.nd (pi_keysN (pv 4)) (blkOk_by (own := [("pair", 8)]) (N := N_greatest_excess) (sc := defScope s_greatest_excess) (by decide +kernel)) (fun _ _ _ _ _ => (pg_name (i := 8) sc_greatest_excess.nd rfl (Or.inl rfl))) (fun _ _ _ _ _ => pts_nil) (fun _ _ _ _ _ => (pe_dnK (P := P) (w := w) (hu64 hr) (pv 4) (pv 8)))) pa_nil))) (pss_gcons (ps_set (i := 8) sc_greatest_excess.nd rfl (Or.inl rfl) (pe_ix (ix_list : IxR _ (rIxL K)) (pe_lc (own := [("pair", 8)]) rfl sc_greatest_excess.nd (pi_keysN (pv 4)) (blkOk_by (own := [("pair", 8)]) (N := N_greatest_excess) (sc := defScope s_greatest_excess) (by decide +kernel)) (fun _ _ _ _ _ => (pg_name (i := 8) sc_greatest_excess.nd rfl (Or.inl rfl))) (fun _ _ _ _ _ => (pts_one (pt_cmpR op_eq (pe_dnK (P := P) (w := w) (hu64 hr) (pv 4) (pv 8)) (pv 7) (nomark _)))) (fun _ _ _ _ _ => (pv 8))) pe_int (fun _ _ => rfl))) (pss_one (ps_ret (pe_gh (pe_tup (pa_cons (pe_op op_add (pe_op op_sub (pe_P (ok_Meter_flag T) (hr.mono (by decide)) T.cls_Meter T.p_Meter_flag (pv 0)) (pe_P (ok_Meter_flag T) (hr.mono (by decide)) T.cls_Meter T.p_Meter_flag (pv 1))) (pv 7)) (pa_cons (pe_ix (ix_tup : IxR _ (rIxT K)) (pe_R (ok_trip_to T) (hr.mono (by decide)) T.g_trip_to T.k_trip_to (pa_cons (pv 5) (pa_cons (pv 8) pa_nil))) pe_int (fun _ _ => rfl)) pa_nil)))))))))))), ?_⟩
  obtain ⟨m1, m2, c, rfl, oc, D, hm1, hm2, q⟩ := h
  have tp := oc.tp
  obtain ⟨ad1, i1, _⟩ := id hm1
  obtain ⟨o1, dx1, an1, a21, a31, tb1, h11, _⟩ := id i1
  obtain ⟨ad2, i2, _⟩ := id hm2
  obtain ⟨o2, dx2, an2, a22, a32, tb2, h21, _⟩ := id i2
  walk_at "w"
  refine ⟨by omega, by omega, ?_⟩
  refine ⟨_, rfl, _, _, _, rfl, h11, _, _, _, rfl, i1, fun x H1 _ e1 sx => ?_⟩
  refine ⟨_, rfl, _, _, _, rfl, e1 _ _ h21, _, _, _, rfl, i2.px (.of _ _ e1), fun y H2 _ e2 sy => ?_⟩
  refine ⟨sz, fun fa hfa => .now ?_⟩
  have e3 : Same H (upd H2 fa (.tup [.ref x, .ref y])) := (e1.trans e2).trans (same_new hfa)
  have hP : Pr2 (upd H2 fa (.tup [.ref x, .ref y])) fa c.fst := ⟨x, y, upd_same, same_new hfa _ _ (e2 _ _ sx), same_new hfa _ _ sy⟩
  show tSeqG _ _ _ _ (upd H2 fa (.tup [.ref x, .ref y]))
  generalize upd H2 fa (.tup [.ref x, .ref y]) = H3 at e3 hP ⊢
  have p3 := Px.of _ _ e3
  walk_at "w"
  refine ⟨sz, fun s1 hs1 => ?_⟩
  have e4 : Same H3 (upd H3 s1 (.lst [.ref fa])) := same_new hs1
  refine ⟨m1, m2, s1, fa, c, rfl, oc, (hm1.px p3).px (.of _ _ e4), (hm2.px p3).px (.of _ _ e4), sqL_of upd_same, hP.px (.of _ _ e4), fun sd H5 _ e5 hsd => ?_⟩
  walk_at "w"
  refine ⟨sz, fun s2 hs2 => ?_⟩
  have e6 : Same H5 (upd H5 s2 (.lst [.ref fa])) := same_new hs2
  have e36 := (e4.trans e5).trans e6
  refine ⟨sd, s2, fa, c, rfl, oc, D, hsd.px (.of _ _ e6), sqL_of upd_same, hP.px (.of _ _ e36), fun t H7 ba la ob ol bs ld bes les e7 ht hb hl bd ll pu bz => ?_⟩
  have eH7 := (e3.trans e36).trans e7
  have p7 := Px.of _ _ eH7
  refine ⟨_, _, rfl, sqT_of ht, rfl, ?_⟩
  walk_at "g"
  refine ⟨ba, ob, bes, rfl, hb, fun L1 hL1 => ?_⟩
  refine lc_rel bes.length (fun i y H => ∃ n : Int, y = .int n ∧ ∃ (e : Ent) (p : Pt), bes[i]? = some e ∧ e.1 = kP p ∧ bs p = some n) hL1 (fun i H' hi cr => ?_) fun xs H8 hxs e8 hl8 hR => ⟨⟨e8 _ _ hb, Nat.le_refl _⟩, ?_⟩
  · refine ⟨⟨cr.same _ _ hb, hi⟩, fun y H'' hy => ?_⟩
    obtain ⟨rfl, en, hen, rfl⟩ := hy
    obtain ⟨p, hp1, hp2, hp3⟩ := bd.1 en (List.mem_of_getElem? hen)
    refine ⟨rfl, ?_⟩
    have hin : (lookE bes (kP p)).isSome = true := by rw [← hp1]; exact look_mem (List.mem_of_getElem? hen)
    rw [bd.2 p, Option.isSome_map] at hin
    obtain ⟨n, hn⟩ := Option.isSome_iff_exists.mp hin
    have lk : lookE bes (kP p) = some (.int n) := by rw [bd.2 p, hn]; rfl
    walk_at "w"
    refine ⟨ba, en.2.1, bes, kP p, _, rfl, rfl, ⟨.inr ⟨_, cr.same _ _ hb⟩, bd.1.ko.px cr.px⟩, (hp2.px cr.px).key, kP_dp _, lk, ?_⟩
    exact CR.fin (fun i y H H' _ h => h) cr (by omega) (Same.refl _) ⟨n, rfl, en, p, hen, hp1, hn⟩
  obtain ⟨ns, rfl, hns⟩ := ints_of' xs _ hR
  have hf : InP bes c.fst := by unfold InP; rw [bd.2, pu.f0]; rfl
  obtain ⟨j0, e0, hj0, hk0⟩ := in_idx hf
  have hj0l := (List.getElem?_eq_some_iff.mp hj0).1
  rw [List.length_map] at hxs
  have h0 : ns[j0]? = some 0 := by
    have hlt : j0 < ns.length := by omega
    obtain ⟨e, p, h1, h2, h3⟩ := hns j0 _ (List.getElem?_eq_getElem hlt)
    rw [hj0] at h1
    cases h1
    have : c.fst = p := kP_inj (hk0.symm.trans h2)
    rw [← this, pu.f0] at h3
    rw [List.getElem?_eq_getElem hlt, ← h3]
  walk_at "w"
  refine ⟨_, ns, rfl, sqL_of hl8, by omega, fun m hm1' hm2' => ?_⟩
  have em : m = 0 := by
    have g1 := hm2' 0 (List.mem_of_getElem? h0)
    obtain ⟨i, hi, h4⟩ := List.mem_iff_getElem.mp hm1'
    obtain ⟨e, p, h1, h2, h3⟩ := hns i m (by rw [List.getElem?_eq_getElem hi, h4])
    have := (pu.re _ _ h3).le oc D
    omega
  subst em
  have hb8 := e8 _ _ hb
  have bd8 := bd.px (.of _ _ e8)
  walk_at "w"
  refine ⟨ba, ob, bes, rfl, hb8, fun L2 hL2 => ?_⟩
  refine lc_go bes.length (fun i H' => ∃ acc : List V, acc.length ≤ i ∧ Same H8 H' ∧ H' L2 = some (.lst acc) ∧ (∀ y ∈ acc, ∃ a p, y = .ref a ∧ Pr2 H8 a p) ∧ (j0 < i → acc ≠ [])) ⟨[], Nat.le_refl _, same_new hL2, upd_same, (fun _ z => nomatch z), fun h => by omega⟩ (fun i H' hi hN => ?_) fun H9 hN => ⟨⟨hN.elim fun acc h => h.2.1 _ _ hb8, Nat.le_refl _⟩, ?_⟩
  · obtain ⟨acc, hal, e9, hacc, hall, hne⟩ := hN
    refine ⟨⟨e9 _ _ hb8, hi⟩, fun y H'' hy => ?_⟩
    obtain ⟨rfl, en, hen, rfl⟩ := hy
    obtain ⟨p, hp1, hp2, hp3⟩ := bd8.1 en (List.mem_of_getElem? hen)
    have hin : (lookE bes (kP p)).isSome = true := by rw [← hp1]; exact look_mem (List.mem_of_getElem? hen)
    rw [bd.2 p, Option.isSome_map] at hin
    obtain ⟨n, hn⟩ := Option.isSome_iff_exists.mp hin
    have lk : lookE bes (kP p) = some (.int n) := by rw [bd.2 p, hn]; rfl
    refine ⟨rfl, ?_⟩
    walk_at "w"
    refine ⟨ba, en.2.1, bes, kP p, _, rfl, rfl, ⟨.inr ⟨_, e9 _ _ hb8⟩, bd8.1.ko.px (.of _ _ e9)⟩, (hp2.px (.of _ _ e9)).key, kP_dp _, lk, ?_⟩
    walk_at "w"
    refine iB (fun hq => ?_) fun hq => ?_
    · walk_at "w"
      refine ⟨acc, hacc, szL (by omega), acc ++ [.ref en.2.1], by simp; omega, same_mut e9 hL2, upd_same, fun y hy => ?_, fun _ z => by simp at z⟩
      rcases List.mem_append.mp hy with h | h
      · exact hall y h
      · rw [List.mem_singleton.mp h]
        exact ⟨_, p, rfl, hp2⟩
    · refine ⟨acc, by omega, e9, hacc, hall, fun h => ?_⟩
      by_cases hj : j0 = i
      · subst hj
        rw [hj0] at hen
        cases hen
        have : c.fst = p := kP_inj (hk0.symm.trans hp1)
        rw [← this, pu.f0] at hn
        cases hn
        exact absurd rfl (of_decide_eq_false hq)
      · exact hne (by omega)
  obtain ⟨acc, hal, e9, hacc, hall, hne⟩ := hN
  obtain ⟨y0, rest, rfl⟩ : ∃ y0 rest, acc = y0 :: rest := by
    cases acc with
    | nil => exact absurd rfl (hne hj0l)
    | cons a r => exact ⟨a, r, rfl⟩
  obtain ⟨pa, p, rfl, hpa⟩ := hall _ List.mem_cons_self
  have eH9 := (eH7.trans e8).trans e9
  have p9 := Px.of _ _ eH9
  have e79 := Px.of _ _ (e8.trans e9)
  walk_at "w"
  refine ⟨_, _, _, _, rfl, rfl, sqL_of hacc, atI_nat (i := 0) rfl, .now ?_⟩
  refine ⟨_, rfl, _, _, _, rfl, p9 _ _ h11 True.intro, _, _, _, rfl, i1.px p9, ?_⟩
  refine ⟨_, rfl, _, _, _, rfl, p9 _ _ h21 True.intro, _, _, _, rfl, i2.px p9, ?_⟩
  walk_at "w"
  refine ⟨la, pa, c, ld, les, p, rfl, oc, .inr ⟨ol, e79 _ _ hl True.intro⟩, ll.px e79, pu.dep, fun g p s h => by have := (pu.ok g p s h).1; omega, hpa.px (.of _ _ e9), fun t2 H10 b z e10 ht2 => ?_⟩
  walk_at "w"
  refine ⟨_, _, _, _, rfl, rfl, sqT_of ht2, rfl, ?_⟩
  refine ⟨sz, fun t3 ht3 => .now ?_⟩
  refine q t3 _ z ((eH9.trans e10).trans (same_new ht3)) ?_
  rw [upd_same]
  exact congrArg (fun v => some (HO.tup [V.int v, V.str z])) (Int.add_zero _)
def pr_never_dearer (P : Program) (w : World) (K : PySem.W.Frag) : Pr := fun vs H Q => ∃ (m1 m2 : Addr) (c : W2), vs = [.ref m1, .ref m2, .int c.top] ∧ c.Ok ∧ Dear c.M1 c.M2 ∧ MetAt P w K H m1 c.M1 ∧ MetAt P w K H m2 c.M2 ∧ ∀ H', Same H H' → Q (.bl true) H'
theorem ok_never_dearer (T : Wd K mg base) : Fn P w K mg base 8 (He.ga K "never_dearer") (pr_never_dearer P w K) := by
  obtain ⟨fd, F0⟩ := T.fdef 20 (d := d_never_dearer)
  have F : FunD K "never_dearer" "never_dearer" (defArgs s_never_dearer) (defBody s_never_dearer) (defScope s_never_dearer) [V.int 9] [] (He.ga K "never_dearer") fd := F0
  refine fn_mkD (N := N_never_dearer) (ps := ["one", "other", "top"]) F sc_never_dearer (by intro z; cases z) (fun T kV doc pm an cdv ct us its hl hl2 => match us, its, hl, hl2 with | [u0, u1, u2], [d0], _, _ => ⟨_, rfl, rfl⟩) (fun vs H Q => by walk_at "len") fun cdv A outer s H vs Q E hr h => ?_
  refine ⟨_, (pss_gcons (ps_set (i := 3) sc_never_dearer.nd rfl (Or.inl rfl) (pe_R (ok_greatest_excess T) (hr.mono (by decide)) T.g_greatest_excess T.k_greatest_excess (pa_cons (pv 0) (pa_cons (pv 1) (pa_cons (pv 2) pa_nil))))) (pss_one (ps_ret (pe_gh (pe_and (pe_cmpR op_notN (pv 3) pe_non (nomark _)) (pe_one (pe_cmpR op_le (pe_ix (ix_tup : IxR _ (rIxT K)) (pv 3) pe_int (fun _ _ => rfl)) pe_int (nomark _)))))))), ?_⟩
  obtain ⟨m1, m2, c, rfl, oc, D, hm1, hm2, q⟩ := h
  walk_at "w"
  refine ⟨m1, m2, c, rfl, oc, D, hm1, hm2, fun t H1 z e1 ht => ?_⟩
  walk_at "w"
  refine ⟨_, _, _, _, rfl, rfl, sqT_of ht, rfl, ?_⟩
  walk_at "w"
  exact qv_eq (congrArg V.bl (dT (by have := D.g; omega))) (q _ e1)
end Cab
set_option Elab.async false
set_option linter.all false
set_option maxRecDepth 100000
set_option maxHeartbeats 2000000
set_option pp.maxSteps 1500
namespace Cab
open PySem PySem.Spec PyProof.Rows L2

local macro_rules | `(tactic| walk_at "w") => `(tactic| repeat (first | refine Gh.now ?_ | refine ⟨_, rfl, ?_⟩ | refine ⟨_, _, rfl, rfl, ?_⟩ | refine ⟨rfl, ?_⟩))
local macro_rules | `(tactic| walk_at "g") => `(tactic| repeat (first | refine ⟨_, _, rfl, rfl, ?_⟩ | refine ⟨_, _, rfl, ?_⟩ | refine ⟨rfl, ?_⟩ | refine Gh.now ?_ | refine ⟨_, rfl, ?_⟩))
local macro_rules | `(tactic| walk_at "len") => `(tactic| first | (intro hh; obtain ⟨e, _⟩ := hh; exact congrArg List.length e) | (intro hh; obtain ⟨_, e, _⟩ := hh; exact congrArg List.length e) | (intro hh; obtain ⟨_, _, e, _⟩ := hh; exact congrArg List.length e) | (intro hh; obtain ⟨_, _, _, e, _⟩ := hh; exact congrArg List.length e) | (intro hh; obtain ⟨_, _, _, _, e, _⟩ := hh; exact congrArg List.length e) | (intro hh; obtain ⟨_, _, _, _, _, e, _⟩ := hh; exact congrArg List.length e) | (intro hh; obtain ⟨_, _, _, _, _, _, e, _⟩ := hh; exact congrArg List.length e) | (intro hh; obtain ⟨_, _, _, _, _, _, _, e, _⟩ := hh; exact congrArg List.length e) | (intro hh; obtain ⟨_, _, _, _, _, _, _, _, e, _⟩ := hh; exact congrArg List.length e) | (intro hh; obtain ⟨_, _, _, _, _, _, _, _, _, e, _⟩ := hh; exact congrArg List.length e) | (intro hh; obtain ⟨_, _, _, _, _, _, _, _, _, _, e, _⟩ := hh; exact congrArg List.length e) | (intro hh; obtain ⟨_, _, _, _, _, _, _, _, _, _, _, e, _⟩ := hh; exact congrArg List.length e) | (intro hh; obtain ⟨_, _, _, _, _, _, _, _, _, _, _, _, e, _⟩ := hh; exact congrArg List.length e))
variable {P : Program} {w : World} {K : PySem.W.Frag} {mg : Str → Option Value} {base : Heap}

def Fix (c : W2) (am : Pt → Option Int) (p : Pt) : Prop := ∀ y, am p = some y → ∀ v, v ≤ c.top → ∃ y2, am (c.nx p v) = some y2 ∧ c.gn p v + y2 ≤ y
/-- the amounts, complete -/
def AmtD (P : Program) (w : World) (c : W2) (H : Hp) (D : Addr) (am : Pt → Option Int) : Prop := ∃ o es, H D = some (.frz o (dNo P w D es)) ∧ BestD P w c H am es ∧ es.length ≤ 121 ∧ (∀ p y, am p = some y → 0 ≤ y ∧ RP c p) ∧ am c.fst = some 0 ∧ (∀ p, RP c p → am p ≠ none) ∧ ∀ p, RP c p → Fix c am p
theorem AmtD.px {P : Program} {w : World} {c : W2} {H H' : Hp} {D : Addr} {am : Pt → Option Int} (e : Px H H') (h : AmtD P w c H D am) : AmtD P w c H' D am := by
  obtain ⟨o, es, h1, h2, h3⟩ := h
  exact ⟨o, es, e _ _ h1 True.intro, h2.px e, h3⟩
open Classical in
noncomputable def bnd (c : W2) (p : Pt) : Int := if h : ∃ x, Re c p x then -(Classical.choose h) else 0
theorem bnd_le {c : W2} (o : c.Ok) (D : Dear c.M1 c.M2) {p : Pt} (h : RP c p) {y : Int} (k : Amt c p y) : y ≤ bnd c p := by
  have he := h.re o
  have := k.le o D (Classical.choose_spec he)
  unfold bnd
  rw [dif_pos he]
  omega
noncomputable def fam (c : W2) (am : Pt → Option Int) (p : Pt) : Nat := match am p with
  | none => 0
  | some y => (bnd c p - y).toNat
noncomputable def mu2 (c : W2) (am : Pt → Option Int) : Nat := (grid.map (fam c am)).sum
theorem mu2_lt {c : W2} (o : c.Ok) (D : Dear c.M1 c.M2) {am : Pt → Option Int} {p : Pt} {y z : Int} (h : RP c p) (hy : am p = some y) (hz : y < z) (k : Amt c p z) : mu2 c (setB am p z) < mu2 c am := by
  have hb := bnd_le o D h k
  have key : fam c (setB am p z) p < fam c am p := by
    have e1 : setB am p z p = some z := by unfold setB; rw [if_pos rfl]
    unfold fam
    rw [e1, hy]
    show (bnd c p - z).toNat < (bnd c p - y).toNat
    omega
  refine sum_lt (fun x _ => ?_) ⟨p, mem_grid (h.bd o), key⟩
  by_cases e : x = p
  · rw [e]
    exact Nat.le_of_lt key
  · unfold fam setB
    rw [if_neg e]
    exact Nat.le_refl _
structure Am (P : Program) (w : World) (c : W2) (D : Addr) (H : Hp) (am : Pt → Option Int) (es : List Ent) : Prop where
  d : H D = some (dNo P w D es)
  b : BestD P w c H am es
  z : es.length ≤ 121
  v : ∀ p y, am p = some y → 0 ≤ y ∧ Amt c p y ∧ RP c p
  a : ∀ p, RP c p → am p ≠ none
theorem Am.same {P : Program} {w : World} {c : W2} {D : Addr} {H H' : Hp} {am : Pt → Option Int} {es : List Ent} (e : Same H H') (k : Am P w c D H am es) : Am P w c D H' am es := ⟨e _ _ k.d, k.b.px (.of _ _ e), k.z, k.v, k.a⟩
def pr_amounts_of (P : Program) (w : World) (K : PySem.W.Frag) : Pr := fun vs H Q => ∃ (sd : Addr) (c : W2), vs = [.ref sd] ∧ c.Ok ∧ Dear c.M1 c.M2 ∧ StepsP P w c H sd ∧ ∀ D H' am, Same H H' → AmtD P w c H' D am → Q (.ref D) H'
theorem ok_amounts_of (T : Wd K mg base) : Fn P w K mg base 1 (He.ga K "amounts_of") (pr_amounts_of P w K) := by
  obtain ⟨fd, F0⟩ := T.fdef 21 (d := d_amounts_of)
  have F : FunD K "amounts_of" "amounts_of" (defArgs s_amounts_of) (defBody s_amounts_of) (defScope s_amounts_of) [] [] (He.ga K "amounts_of") fd := F0
  refine fn_mk (N := N_amounts_of) (ps := ["steps"]) F sc_amounts_of (fun kV doc pm an cdv ct us hl => match us, hl with | [u0], _ => rfl) (fun vs H Q => by walk_at "len") fun cdv A outer s H vs Q E hr h => ?_
  refine ⟨_, (pss_gcons (ps_set (i := 1) sc_amounts_of.nd rfl (Or.inr rfl) (pe_dcN (own := [("pair", 3)]) (hu64 hr) rfl sc_amounts_of.nd (pi_keysN (pv 0)) (blkOk_by (own := [("pair", 3)]) (N := N_amounts_of) (sc := defScope s_amounts_of) (by decide +kernel)) (fun _ _ _ _ _ => (pg_name (i := 3) sc_amounts_of.nd rfl (Or.inl rfl))) (fun _ _ _ _ _ => pts_nil) (fun _ _ _ _ _ => (pv 3)) (fun _ _ _ _ _ => pe_int))) (pss_gcons (ps_set (i := 2) sc_amounts_of.nd rfl (Or.inl rfl) pe_bl) (pss_cons (ps_while PassesOwn.never (pt_val (pv 2)) (pss_gcons (ps_set (i := 2) sc_amounts_of.nd rfl (Or.inl rfl) pe_bl) (pss_one (ps_gh (ps_for PassesOwn.never rfl (pi_keysN (pv 0)) (pg_name (i := 3) sc_amounts_of.nd rfl (Or.inl rfl)) (pss_gcons (ps_set (i := 4) sc_amounts_of.nd rfl (Or.inl rfl) (pe_callB (cr_max rfl) (by rfl) T.f_max (by decide +kernel) (pa_cons (pe_lst (pa_cons pe_int (StX.pa_star (pe_lc (own := [("speed", 5), ("gain", 6), ("goal", 7)]) rfl sc_amounts_of.nd (pi_listK (K := K) (pe_dnK (P := P) (w := w) (hu64 hr) (pv 0) (pv 3))) (blkOk_by (own := [("speed", 5), ("gain", 6), ("goal", 7)]) (N := N_amounts_of) (sc := defScope s_amounts_of) (by decide +kernel)) (fun _ _ _ _ _ => (pg_tupK (n := 3) rfl (pgs_cons (pg_name (i := 5) sc_amounts_of.nd rfl (Or.inl rfl)) (pgs_cons (pg_name (i := 6) sc_amounts_of.nd rfl (Or.inl rfl)) (pgs_cons (pg_name (i := 7) sc_amounts_of.nd rfl (Or.inl rfl)) pgs_nil))))) (fun _ _ _ _ _ => pts_nil) (fun _ _ _ _ _ => (pe_op op_add (pv 6) (pe_dnK (P := P) (w := w) (hu64 hr) (pv 1) (pv 7))))) pa_nil))) pa_nil))) (pss_one (ps_if (pt_cmpR op_gt (pv 4) (pe_dnK (P := P) (w := w) (hu64 hr) (pv 1) (pv 3)) (nomark _)) (pss_gcons (ps_asg (pv 4) (pg_sub (pv 1) (pv 3) (set_dn (hu64 hr)))) (pss_one (ps_set (i := 2) sc_amounts_of.nd rfl (Or.inl rfl) pe_bl))) pss_nil)))))))) (pss_one (ps_ret (pe_gh (pv 1))))))), ?_⟩
  obtain ⟨sd, c, rfl, oc, D, ⟨os, ses, hsd, spk, hst⟩, q⟩ := h
  have tp := oc.tp
  refine ⟨_, rfl, sd, os, ses, rfl, hsd, fun ba hba => ?_⟩
  refine ⟨fun i m H' => m = ses.length - i ∧ i ≤ ses.length ∧ Same H H' ∧ ∃ es am, H' ba = some (dNo P w ba es) ∧ BestD P w c H' am es ∧ (∀ p x, am p = some x → x = 0) ∧ (∀ j < i, ∀ e p, ses[j]? = some e → e.1 = kP p → am p ≠ none) ∧ es.length + mis2 es ≤ 121,
    ⟨_, rfl, Nat.zero_le _, same_new hba, [], fun _ => none, upd_same, ⟨PK.nil, fun p => rfl⟩, (fun p x h => by cases h), (fun j h => by omega), by rw [mis2_nil]; exact Nat.le_refl _⟩, ?_⟩
  rintro i m H1 ⟨rfl, hi, e1, es, am, hd, hb, h0, hall, hz⟩
  by_cases hlt : i < ses.length
  · refine .inr ⟨⟨e1 _ _ hsd, hlt⟩, _, fun H' h => ⟨ses.length - (i + 1), by omega, rfl, hlt, h⟩, fun x H'' hx => ?_⟩
    obtain ⟨rfl, en, hen, rfl⟩ := hx
    obtain ⟨p, hp1, hp2, hp3⟩ := spk en (List.mem_of_getElem? hen)
    refine ⟨rfl, ?_⟩
    have hp4 := hp2.px (.of _ _ e1)
    walk_at "w"
    refine ⟨es, en.2.1, kP p, rfl, hd, hb.1.ko, hp4.key, kP_dp _, szL (by omega), ?_⟩
    have pm : Px H'' (upd H'' ba (dNo P w ba (putE es (kP p) en.2.1 (.int 0)))) := Px.mut hd dNo_imm
    refine ⟨same_mut e1 hba, putE es (kP p) en.2.1 (.int 0), setB am p 0, upd_same, (hb.put hp4 hp3).px pm, fun p' x h => ?_, fun j hj e p' he hp' => ?_, sz_put (mem_grid (hp3.bd oc)) hz⟩
    · unfold setB at h
      by_cases e : p' = p
      · rw [if_pos e] at h
        cases h
        rfl
      · rw [if_neg e] at h
        exact h0 _ _ h
    · unfold setB
      by_cases ep : p' = p
      · rw [if_pos ep]
        exact fun z => by cases z
      · rw [if_neg ep]
        by_cases hji : j < i
        · exact hall j hji e p' he hp'
        · have : j = i := by omega
          subst this
          rw [hen] at he
          cases he
          exact absurd (kP_inj (hp'.symm.trans hp1)) ep
  have ei : i = ses.length := by omega
  subst ei
  refine .inl ⟨⟨e1 _ _ hsd, Nat.le_refl _⟩, .now ?_⟩
  have k0 : Am P w c ba H1 am es := by
    refine ⟨hd, hb, by omega, fun p y h => ?_, fun p hp => ?_⟩
    · have hin : InP es p := by unfold InP; rw [hb.2, h]; rfl
      rw [h0 p y h]
      exact ⟨Int.le_refl 0, .zero p, (hb.1.at hin).1⟩
    · obtain ⟨v, hv, _⟩ := hst p hp
      obtain ⟨j, e, hj, hk⟩ := in_idx (inOf hv)
      exact hall j (List.getElem?_eq_some_iff.mp hj).1 e p hj hk
  walk_at "w"
  refine ⟨fun m σ H' => ∃ (t : Bool) (s3 s4 s5 s6 s7 : Option V) (am : Pt → Option Int) (es : List Ent), σ = [some (.ref sd), some (.ref ba), some (.bl t), s3, s4, s5, s6, s7] ∧ m = 2 * mu2 c am + (if t = true then 1 else 0) ∧ Same H H' ∧ Am P w c ba H' am es ∧ (t = false → ∀ p, RP c p → Fix c am p),
    ⟨_, true, _, _, _, _, _, am, es, rfl, rfl, e1, k0, fun z => by cases z⟩, ?_⟩
  clear k0 hall h0 hb hd hz e1
  rintro m σ H3 ⟨t, s3, s4, s5, s6, s7, am, es, rfl, rfl, e3, k, hfix⟩
  refine ⟨_, rfl, t, rfl, ?_⟩
  cases t with
  | false =>
    refine iF rfl ?_
    refine ⟨_, rfl, .frz k.d True.intro fun ob => .now ?_⟩
    have pE : Px H3 (upd H3 ba (.frz ob (dNo P w ba es))) := Px.frz k.d dNo_imm
    refine q ba _ am (same_mut e3 hba) ⟨ob, es, upd_same, k.b.px pE, k.z, fun p y h => ⟨(k.v p y h).1, (k.v p y h).2.2⟩, ?_, k.a, hfix rfl⟩
    cases hf : am c.fst with
    | none => exact absurd hf (k.a _ .first)
    | some y =>
      obtain ⟨h1, h2, _⟩ := k.v _ _ hf
      have := h2.le oc D (Re.first oc)
      rw [show y = 0 by omega]
  | true =>
    refine iT rfl ?_
    refine ⟨_, fun σ' H' h => h, .now ?_⟩
    refine .now ?_
    refine ⟨_, rfl, sd, os, ses, rfl, e3 _ _ hsd, ?_⟩
    refine for_go ses.length (fun i σ H' => ∃ (t : Bool) (s3 s4 s5 s6 s7 : Option V) (am' : Pt → Option Int) (es' : List Ent), σ = [some (.ref sd), some (.ref ba), some (.bl t), s3, s4, s5, s6, s7] ∧ Same H H' ∧ Am P w c ba H' am' es' ∧ ((t = true ∧ mu2 c am' < mu2 c am) ∨ (t = false ∧ am' = am ∧ ∀ j < i, ∀ e p, ses[j]? = some e → e.1 = kP p → Fix c am p))) ?_ ?_ ?_
    · exact ⟨false, _, _, _, _, _, am, es, rfl, e3, k, .inr ⟨rfl, rfl, fun j h => by omega⟩⟩
    · rintro i σ H4 hi ⟨t, s3, s4, s5, s6, s7, am', es', rfl, e4, k, hor⟩
      refine ⟨⟨e4 _ _ hsd, hi⟩, fun x H'' hx => ?_⟩
      obtain ⟨rfl, en, hen, rfl⟩ := hx
      obtain ⟨p, hp1, hp2, hp3⟩ := spk en (List.mem_of_getElem? hen)
      obtain ⟨v0, hv0, L, ts, rfl, hL, hts, hstp⟩ := hst p hp3
      have p4 := Px.of _ _ e4
      have hp4 := hp2.px p4
      obtain ⟨yp, hyp⟩ : ∃ y, am' p = some y := by
        cases h : am' p with
        | none => exact absurd h (k.a p hp3)
        | some y => exact ⟨y, rfl⟩
      obtain ⟨yp0, ypA, _⟩ := k.v p yp hyp
      walk_at "w"
      refine ⟨sd, en.2.1, ses, kP p, _, rfl, rfl, ⟨.inr ⟨_, e4 _ _ hsd⟩, (spk.px p4).ko⟩, hp4.key, kP_dp _, hv0, ?_⟩
      refine ⟨_, rfl, ⟨_, (hL.px p4).sq⟩, fun D2 hD2 => ?_⟩
      refine lc_rel (c.top + 1) (fun v y H => ∃ n : Int, y = .int n ∧ ∃ y2, am' (c.nx p v) = some y2 ∧ n = c.gn p v + y2) hD2 (fun v H' hv cr => ?_) fun xs H5 hxs e5 hl5 hR => ⟨⟨_, ((hL.px p4).px (.of _ _ e5)).sq, by omega⟩, ?_⟩
      · have pc := p4.trans cr.px
        refine ⟨itl_go (hL.px pc).sq (by omega), fun y H6 hy => ?_⟩
        obtain ⟨rfl, hy⟩ := hy
        have hy := hy _ (hL.px pc).sq
        obtain ⟨sa, h1, g, h2, h3⟩ := hstp v (by omega)
        rw [h1] at hy
        obtain rfl : V.ref sa = y := Option.some.inj hy
        refine ⟨_, _, rfl, sqT_of (pc _ _ h2 True.intro), rfl, ?_⟩
        have rg : RP c (c.nx p v) := .step hp3 (by omega)
        obtain ⟨y2, hy2⟩ : ∃ y, am' (c.nx p v) = some y := by
          cases h : am' (c.nx p v) with
          | none => exact absurd h (k.a _ rg)
          | some y => exact ⟨y, rfl⟩
        have lk : lookE es' (kP (c.nx p v)) = some (.int y2) := by rw [k.b.2, hy2]; rfl
        walk_at "g"
        refine ⟨ba, g, es', kP (c.nx p v), _, rfl, rfl, ⟨.of (cr.same _ _ k.d), (k.b.px cr.px).1.ko⟩, (h3.px pc).key, kP_dp _, lk, ?_⟩
        refine ⟨_, _, rfl, rfl, ?_⟩
        exact CR.fin (fun i y H H' _ h => h) cr (by omega) (Same.refl _) ⟨_, rfl, y2, hy2, rfl⟩
      obtain ⟨ns, rfl, hns⟩ := ints_of' xs _ hR
      rw [List.length_map] at hxs
      refine ⟨D2, ns.map V.int, rfl, .inr (sqL_of hl5), ?_⟩
      refine ⟨by simp; exact Nat.le_trans (by omega : ns.length + 1 ≤ 100) (by decide), fun L3 hL3 => ?_⟩
      have e45 := e5.trans (same_new (o := .lst (.int 0 :: (ns.map V.int ++ []))) hL3)
      have k5 := k.same e45
      have hL3' : upd H5 L3 (.lst (.int 0 :: (ns.map V.int ++ []))) L3 = some (.lst ((0 :: ns).map V.int)) := by rw [upd_same, List.append_nil]; rfl
      have eH6 : Same H (upd H5 L3 (.lst (.int 0 :: (ns.map V.int ++ [])))) := e4.trans e45
      have hp6 := hp2.px (Px.of _ _ eH6)
      refine ⟨L3, 0 :: ns, rfl, sqL_of hL3', by simp, fun mo hmo hmx => .now ?_⟩
      have lkp : lookE es' (kP p) = some (.int yp) := by rw [k5.b.2, hyp]; rfl
      refine ⟨_, rfl, _, rfl, _, rfl, ba, en.2.1, es', kP p, _, rfl, rfl, ⟨.of k5.d, k5.b.1.ko⟩, hp6.key, kP_dp _, lkp, ?_⟩
      refine ⟨_, _, rfl, rfl, _, rfl, ?_⟩
      refine iB (fun hgt => ?_) fun hgt => ?_
      · have hgt : yp < mo := of_decide_eq_true hgt
        have hA : Amt c p mo := by
          rcases List.mem_cons.mp hmo with h | h
          · omega
          · obtain ⟨v, hv, h4⟩ := List.mem_iff_getElem.mp h
            obtain ⟨y2, h5, h6⟩ := hns v mo (by rw [List.getElem?_eq_getElem hv, h4])
            rw [h6]
            exact .cons (by omega) (k.v _ _ h5).2.1
        have hmu := mu2_lt oc D hp3 hyp hgt hA
        walk_at "w"
        refine ⟨ba, en.2.1, es', kP p, rfl, rfl, k5.d, k5.b.1.ko, hp6.key, kP_dp _, szL (by have := k.z; omega), .now ?_⟩
        have pm : Px (upd H5 L3 (.lst (.int 0 :: (ns.map V.int ++ [])))) (upd (upd H5 L3 (.lst (.int 0 :: (ns.map V.int ++ [])))) ba (dNo P w ba (putE es' (kP p) en.2.1 (.int mo)))) := Px.mut k5.d dNo_imm
        refine ⟨true, _, _, _, _, _, setB am' p mo, putE es' (kP p) en.2.1 (.int mo), rfl, same_mut eH6 hba, ⟨upd_same, (k5.b.put hp6 hp3).px pm, by rw [put_some lkp]; exact k.z, fun p' y h => ?_, fun p' hp' => ?_⟩, .inl ⟨rfl, ?_⟩⟩
        · unfold setB at h
          by_cases e : p' = p
          · rw [if_pos e] at h
            cases h
            rw [e]
            exact ⟨by omega, hA, hp3⟩
          · rw [if_neg e] at h
            exact k.v _ _ h
        · unfold setB
          by_cases e : p' = p
          · rw [if_pos e]
            exact fun z => by cases z
          · rw [if_neg e]
            exact k.a _ hp'
        · rcases hor with ⟨_, h⟩ | ⟨_, h, _⟩
          · omega
          · rw [h] at hmu ⊢
            exact hmu
      · have hgt : ¬ yp < mo := of_decide_eq_false hgt
        have hfx : Fix c am' p := fun y hy v hv => by
          rw [hyp] at hy
          cases hy
          have hlt : v < ns.length := by omega
          obtain ⟨y2, h5, h6⟩ := hns v _ (List.getElem?_eq_getElem hlt)
          have := hmx _ (List.mem_cons_of_mem _ (List.getElem_mem hlt))
          exact ⟨y2, h5, by omega⟩
        refine ⟨t, _, _, _, _, _, am', es', rfl, eH6, k5, ?_⟩
        rcases hor with h | ⟨h1, h2, h3⟩
        · exact .inl h
        · refine .inr ⟨h1, h2, fun j hj e p' he hp' => ?_⟩
          by_cases hji : j < i
          · exact h3 j hji e p' he hp'
          · have : j = i := by omega
            subst this
            rw [hen] at he
            cases he
            rw [kP_inj (hp'.symm.trans hp1), ← h2]
            exact hfx
    · rintro σ H4 ⟨t, s3, s4, s5, s6, s7, am', es', rfl, e4, k, hor⟩
      refine ⟨⟨e4 _ _ hsd, Nat.le_refl _⟩, ?_⟩
      refine ⟨2 * mu2 c am' + (if t = true then 1 else 0), ?_, t, _, _, _, _, _, am', es', rfl, rfl, e4, k, fun ht => ?_⟩
      · rcases hor with ⟨rfl, h⟩ | ⟨rfl, rfl, _⟩
        · rw [if_pos rfl]; omega
        · simp
      · rcases hor with ⟨rfl, h⟩ | ⟨_, rfl, h⟩
        · cases ht
        · intro p hp
          obtain ⟨v, hv, _⟩ := hst p hp
          obtain ⟨j, e, hj, hk⟩ := in_idx (inOf hv)
          exact h j (List.getElem?_eq_some_iff.mp hj).1 e p hj hk
def pr_excess_amounts (P : Program) (w : World) (K : PySem.W.Frag) : Pr := fun vs H Q => ∃ (m1 m2 : Addr) (c : W2), vs = [.ref m1, .ref m2, .int c.top] ∧ c.Ok ∧ Dear c.M1 c.M2 ∧ MetAt P w K H m1 c.M1 ∧ MetAt P w K H m2 c.M2 ∧ ∀ D H' am, Same H H' → AmtD P w c H' D am → Q (.ref D) H'
theorem ok_excess_amounts (T : Wd K mg base) : Fn P w K mg base 8 (He.ga K "excess_amounts") (pr_excess_amounts P w K) := by
  obtain ⟨fd, F0⟩ := T.fdef 22 (d := d_excess_amounts)
  have F : FunD K "excess_amounts" "excess_amounts" (defArgs s_excess_amounts) (defBody s_excess_amounts) (defScope s_excess_amounts) [V.int 9] [] (He.ga K "excess_amounts") fd := F0
  refine fn_mkD (N := N_excess_amounts) (ps := ["one", "other", "top"]) F sc_excess_amounts (by intro z; cases z) (fun T kV doc pm an cdv ct us its hl hl2 => match us, its, hl, hl2 with | [u0, u1, u2], [d0], _, _ => ⟨_, rfl, rfl⟩) (fun vs H Q => by walk_at "len") fun cdv A outer s H vs Q E hr h => ?_
  refine ⟨_, (pss_cons (ps_if (pt_cmpR op_isN (pe_R (ok_greatest_excess T) (hr.mono (by decide)) T.g_greatest_excess T.k_greatest_excess (pa_cons (pv 0) (pa_cons (pv 1) (pa_cons (pv 2) pa_nil)))) pe_non (nomark _)) (pss_one (ps_ret (pe_gh pe_non))) pss_nil) (pss_one (ps_ret (pe_gh (pe_R (ok_amounts_of T) (hr.mono (by decide)) T.g_amounts_of T.k_amounts_of (pa_cons (pe_R (ok_pairs_from T) (hr.mono (by decide)) T.g_pairs_from T.k_pairs_from (pa_cons (pv 0) (pa_cons (pv 1) (pa_cons (pv 2) (pa_cons (pe_lst (pa_cons (pe_tup (pa_cons (pe_P (ok_Meter_start T) (hr.mono (by decide)) T.cls_Meter T.p_Meter_start (pv 0)) (pa_cons (pe_P (ok_Meter_start T) (hr.mono (by decide)) T.cls_Meter T.p_Meter_start (pv 1)) pa_nil))) pa_nil)) pa_nil))))) pa_nil)))))), ?_⟩
  obtain ⟨m1, m2, c, rfl, oc, D, hm1, hm2, q⟩ := h
  obtain ⟨ad1, i1, _⟩ := id hm1
  obtain ⟨o1, dx1, an1, a21, a31, tb1, h11, _⟩ := id i1
  obtain ⟨ad2, i2, _⟩ := id hm2
  obtain ⟨o2, dx2, an2, a22, a32, tb2, h21, _⟩ := id i2
  walk_at "w"
  refine ⟨m1, m2, c, rfl, oc, D, hm1, hm2, fun t H1 z e1 ht => ?_⟩
  walk_at "w"
  have p1 := Px.of _ _ e1
  refine ⟨_, _, _, rfl, e1 _ _ h11, _, _, _, rfl, i1.px p1, fun x H2 _ e2 sx => ?_⟩
  have e12 := e1.trans e2
  refine ⟨_, rfl, _, _, _, rfl, e12 _ _ h21, _, _, _, rfl, i2.px (.of _ _ e12), fun y H3 _ e3 sy => ?_⟩
  refine ⟨sz, fun fa hfa => ?_⟩
  have e4 : Same H (upd H3 fa (.tup [.ref x, .ref y])) := (e12.trans e3).trans (same_new hfa)
  have hP : Pr2 (upd H3 fa (.tup [.ref x, .ref y])) fa c.fst := ⟨x, y, upd_same, same_new hfa _ _ (e3 _ _ sx), same_new hfa _ _ sy⟩
  refine ⟨sz, fun s1 hs1 => ?_⟩
  have e5 : Same (upd H3 fa (.tup [.ref x, .ref y])) (upd (upd H3 fa (.tup [.ref x, .ref y])) s1 (.lst [.ref fa])) := same_new hs1
  have e45 := e4.trans e5
  refine ⟨m1, m2, s1, fa, c, rfl, oc, hm1.px (.of _ _ e45), hm2.px (.of _ _ e45), sqL_of upd_same, hP.px (.of _ _ e5), fun sd H5 _ e6 hsd => ?_⟩
  refine ⟨sd, c, rfl, oc, D, hsd, fun D2 H6 am e7 hA => .now ?_⟩
  exact q D2 _ am ((e45.trans e6).trans e7) hA
end Cab
set_option Elab.async false
set_option linter.all false
set_option maxRecDepth 100000
set_option maxHeartbeats 2000000
set_option pp.maxSteps 1500
namespace Cab
open PySem PySem.Spec PyProof.Rows L2

local macro_rules | `(tactic| walk_at "w") => `(tactic| repeat (first | refine Gh.now ?_ | refine ⟨_, rfl, ?_⟩ | refine ⟨_, _, rfl, rfl, ?_⟩ | refine ⟨rfl, ?_⟩))
local macro_rules | `(tactic| walk_at "g") => `(tactic| repeat (first | refine ⟨_, _, rfl, rfl, ?_⟩ | refine ⟨_, _, rfl, ?_⟩ | refine ⟨rfl, ?_⟩ | refine Gh.now ?_ | refine ⟨_, rfl, ?_⟩))
local macro_rules | `(tactic| walk_at "len") => `(tactic| first | (intro hh; obtain ⟨e, _⟩ := hh; exact congrArg List.length e) | (intro hh; obtain ⟨_, e, _⟩ := hh; exact congrArg List.length e) | (intro hh; obtain ⟨_, _, e, _⟩ := hh; exact congrArg List.length e) | (intro hh; obtain ⟨_, _, _, e, _⟩ := hh; exact congrArg List.length e) | (intro hh; obtain ⟨_, _, _, _, e, _⟩ := hh; exact congrArg List.length e) | (intro hh; obtain ⟨_, _, _, _, _, e, _⟩ := hh; exact congrArg List.length e) | (intro hh; obtain ⟨_, _, _, _, _, _, e, _⟩ := hh; exact congrArg List.length e) | (intro hh; obtain ⟨_, _, _, _, _, _, _, e, _⟩ := hh; exact congrArg List.length e) | (intro hh; obtain ⟨_, _, _, _, _, _, _, _, e, _⟩ := hh; exact congrArg List.length e) | (intro hh; obtain ⟨_, _, _, _, _, _, _, _, _, e, _⟩ := hh; exact congrArg List.length e) | (intro hh; obtain ⟨_, _, _, _, _, _, _, _, _, _, e, _⟩ := hh; exact congrArg List.length e) | (intro hh; obtain ⟨_, _, _, _, _, _, _, _, _, _, _, e, _⟩ := hh; exact congrArg List.length e) | (intro hh; obtain ⟨_, _, _, _, _, _, _, _, _, _, _, _, e, _⟩ := hh; exact congrArg List.length e))
variable {P : Program} {w : World} {K : PySem.W.Frag} {mg : Str → Option Value} {base : Heap}

def lcScope (st : Stmt) : Scope := match (defBody st).getD 0 (.Pass ⟨0, 0, 0, 0⟩) with
  | .Assign _ (.ListComp _ _ s _) _ => s
  | _ => defScope st
theorem pe_dcNK {X : Cx} {P : Program} {w : World} {kx vx tg iter : Expr} {ifs : List Expr} {scope : Scope} {own : List (Str × Nat)} {pos : Pos} {wi : TI} {g : TG} {tt : TT} {tk tv : TE} (hu : X.A.units + 64 < cLine)
    (hc : X.calm = true) (hN : X.N.Nodup) (hi : PI X tg iter wi) (ok : BlkOk X.N X.env.scope scope own)
    (hg : ∀ (s : Shared) (H : Hp) (C : Addr) (cl : List (Str × Addr)) (fp : List Addr), PG (Blk X s H scope cl C fp) tg g) (ht : ∀ (s : Shared) (H : Hp) (C : Addr) (cl : List (Str × Addr)) (fp : List Addr), PTs (Blk X s H scope cl C fp) ifs tt)
    (hk : ∀ (s : Shared) (H : Hp) (C : Addr) (cl : List (Str × Addr)) (fp : List Addr), PE (Blk X s H scope cl C fp) kx tk) (hv : ∀ (s : Shared) (H : Hp) (C : Addr) (cl : List (Str × Addr)) (fp : List Addr), PE (Blk X s H scope cl C fp) vx tv)
    (hs : ∀ x, foldedSetIterable iter X.env x = pure x := by intro _; rfl) (hP : X.prog = P := by rfl) (hW : X.w = w := by rfl) :
    PE X (.DictComp kx vx [⟨tg, iter, ifs, 0⟩] scope pos) (tDcx (fun D => dNo P w D []) wi g tt (tbN P w tk tv) (own.map (·.2))) := by
  subst hP
  subst hW
  exact pe_dcN hu hc hN hi ok hg ht hk hv hs
theorem yT {σ : L2.St} {H : Hp} {Q : Bool → Hp → Prop} (h : Q true H) : tYes σ H Q := h
def StD (P : Program) (w : World) (M : Mt) (H : Hp) (D : Addr) : Prop := ∃ es, H D = some (dNo P w D es) ∧ KeysOk H es ∧ ∀ l, Rch M l → Inn es l
theorem StD.same {P : Program} {w : World} {M : Mt} {H H' : Hp} {D : Addr} (e : Same H H') (h : StD P w M H D) : StD P w M H' D := h.elim fun es h => ⟨es, e _ _ h.1, h.2.1.px (.of _ _ e), h.2.2⟩
theorem StD.upd {P : Program} {w : World} {M : Mt} {H : Hp} {D L : Addr} {xs ys : List V} (hL : H L = some (.lst xs)) (h : StD P w M H D) : StD P w M (upd H L (.lst ys)) D := by
  obtain ⟨es, h1, h2, h3⟩ := h
  have : D ≠ L := fun z => by rw [z, hL] at h1; cases h1
  exact ⟨es, by rw [upd_ne this]; exact h1, h2.px (Px.mut hL (fun z => z)), h3⟩
def pr_are_pairs (P : Program) (w : World) (K : PySem.W.Frag) : Pr := fun vs H Q => ∃ (m1 m2 D : Addr) (c : W2) (am : Pt → Option Int), vs = [.ref m1, .ref m2, .ref D, .int c.top] ∧ c.Ok ∧ MetAt P w K H m1 c.M1 ∧ MetAt P w K H m2 c.M2 ∧ AmtD P w c H D am ∧ ∀ H', Same H H' → Q (.bl true) H'
theorem ok_are_pairs (T : Wd K mg base) : Fn P w K mg base 5 (He.ga K "are_pairs") (pr_are_pairs P w K) := by
  obtain ⟨fd, F0⟩ := T.fdef 15 (d := d_are_pairs)
  have F : FunD K "are_pairs" "are_pairs" (defArgs s_are_pairs) (defBody s_are_pairs) (defScope s_are_pairs) [] [] (He.ga K "are_pairs") fd := F0
  refine fn_mk (N := N_are_pairs) (ps := ["one", "other", "pairs", "top"]) F sc_are_pairs (fun kV doc pm an cdv ct us hl => match us, hl with | [u0, u1, u2, u3], _ => rfl) (fun vs H Q => by walk_at "len") fun cdv A outer s H vs Q E hr h => ?_
  refine ⟨_, (pss_gcons (ps_set (i := 4) sc_are_pairs.nd rfl (Or.inr rfl) (pe_lc (own := [("meter", 5)]) rfl sc_are_pairs.nd (pi_tup (pe_tup (pa_cons (pv 0) (pa_cons (pv 1) pa_nil)))) (blkOk_by (own := [("meter", 5)]) (N := N_are_pairs) (sc := defScope s_are_pairs) (by decide +kernel)) (fun _ _ _ _ _ => (pg_name (i := 5) sc_are_pairs.nd rfl (Or.inl rfl))) (fun _ _ _ _ _ => pts_nil) (fun _ _ _ _ _ => (pe_dcNK (P := P) (w := w) (own := [("stand", 6)]) (hu64 hr) rfl sc_are_pairs.nd (pi_listK (K := K) (pe_M0 (ok_Meter_stands0 (P := P) (w := w) T) (hr.mono (by decide)) T.cls_Meter T.m_Meter_stands (pv 5))) (blkOk_by (own := [("stand", 6)]) (N := N_are_pairs) (sc := (lcScope s_are_pairs)) (by decide +kernel)) (fun _ _ _ _ _ => (pg_name (i := 6) sc_are_pairs.nd rfl (Or.inl rfl))) (fun _ _ _ _ _ => pts_nil) (fun _ _ _ _ _ => (pv 6)) (fun _ _ _ _ _ => pe_bl))))) (pss_cons (ps_if (pt_cmpR (op_dnNotIn (hu64 hr) : OpR _ _ (rDnIn P w true)) (pe_tup (pa_cons (pe_P (ok_Meter_start T) (hr.mono (by decide)) T.cls_Meter T.p_Meter_start (pv 0)) (pa_cons (pe_P (ok_Meter_start T) (hr.mono (by decide)) T.cls_Meter T.p_Meter_start (pv 1)) pa_nil))) (pv 2) (by rfl)) (pss_one (ps_ret (pe_gh pe_bl))) pss_nil) (pss_one (ps_ret (pe_gh (pe_callB (cr_all rfl) (by rfl) T.f_all (by decide +kernel) (pa_cons (pe_lc (own := [("pair", 7)]) rfl sc_are_pairs.nd (pi_keysN (pv 2)) (blkOk_by (own := [("pair", 7)]) (N := N_are_pairs) (sc := defScope s_are_pairs) (by decide +kernel)) (fun _ _ _ _ _ => (pg_name (i := 7) sc_are_pairs.nd rfl (Or.inl rfl))) (fun _ _ _ _ _ => pts_nil) (fun _ _ _ _ _ => (pe_and (pe_cmpR op_eq (pe_callB (call_lenK (K := K)) (by rfl) T.f_len (by decide +kernel) (pa_cons (pv 7) pa_nil)) pe_int (nomark _)) (pe_and (pe_cmpR (op_dnIn (hu64 hr) : OpR _ _ (rDnIn P w false)) (pe_ix (ix_tup : IxR _ (rIxT K)) (pv 7) pe_int (fun _ _ => rfl)) (pe_ix (ix_list : IxR _ (rIxL K)) (pv 4) pe_int (fun _ _ => rfl)) (by rfl)) (pe_one (pe_cmpR (op_dnIn (hu64 hr) : OpR _ _ (rDnIn P w false)) (pe_ix (ix_tup : IxR _ (rIxT K)) (pv 7) pe_int (fun _ _ => rfl)) (pe_ix (ix_list : IxR _ (rIxL K)) (pv 4) pe_int (fun _ _ => rfl)) (by rfl))))))) pa_nil))))))), ?_⟩
  obtain ⟨m1, m2, D, c, am, rfl, oc, hm1, hm2, hA, q⟩ := h
  obtain ⟨ad1, i1, _⟩ := id hm1
  obtain ⟨o1, dx1, an1, a21, a31, tb1, h11, _⟩ := id i1
  obtain ⟨ad2, i2, _⟩ := id hm2
  obtain ⟨o2, dx2, an2, a22, a32, tb2, h21, _⟩ := id i2
  walk_at "w"
  refine ⟨sz, fun tp htp => ?_⟩
  have e1 : Same H (upd H tp (.tup [.ref m1, .ref m2])) := same_new htp
  have t1 : upd H tp (.tup [.ref m1, .ref m2]) tp = some (.tup [.ref m1, .ref m2]) := upd_same
  refine ⟨_, rfl, ⟨_, sqT_of t1⟩, fun L hL => ?_⟩
  generalize upd H tp (.tup [.ref m1, .ref m2]) = H1 at e1 t1 hL ⊢
  have dc : ∀ (H' : Hp) (m : Addr) (M : Mt) (acc : List V) (R : Hp → Prop) (Q0 : VK), Same H1 H' → MetAt P w K H' m M → H' L = some (.lst acc) → (∀ D' H'', Same H' H'' → StD P w M H'' D' → Q0 (.ref D') H'') →
      tDcx (fun D => dNo P w D []) (iList K (tM (He.ga K "Meter") "stands" (fun vs H Q => pr_Meter_stands0 P w K (vs ++ [V.int 9]) H Q) (tVar 5) tNil)) (gName 6) tYes (tbN P w (tVar 6) (tC (.bl true))) [6] [some (.ref m1), some (.ref m2), some (.ref D), some (.int c.top), none, some (.ref m), none, none] H' Q0 := by
    intro H' m M acc R Q0 e hm hl hq
    obtain ⟨ad, i, _⟩ := id hm
    obtain ⟨o, dx, an, a2, a3, tb, h1, _⟩ := id i
    refine ⟨_, rfl, m, _, _, rfl, h1, rfl, ?_⟩
    refine ⟨m, M, rfl, hm, fun p H2 as hp e2 hLs hz hall hcov => ?_⟩
    refine ⟨p, rfl, ⟨_, hLs.sq⟩, fun D' hD' => ?_⟩
    refine ⟨fun i m H3 => m = as.length - i ∧ i ≤ as.length ∧ Same H2 H3 ∧ ∃ es, H3 D' = some (dNo P w D' es) ∧ KeysOk H3 es ∧ es.length ≤ i ∧ ∀ j < i, ∀ a l, as[j]? = some a → St H2 a l → Inn es l, ⟨_, rfl, Nat.zero_le _, same_new hD', [], upd_same, (fun _ z => nomatch z), Nat.le_refl _, fun j h => by omega⟩, ?_⟩
    rintro i m3 H3 ⟨rfl, hi, e3, es, hd, hk, hle, hin⟩
    by_cases hlt : i < as.length
    · refine .inr ⟨itl_go (hLs.px (.of _ _ e3)).sq (by simpa using hlt), _, fun H' h => ⟨as.length - (i + 1), by omega, rfl, hlt, h⟩, fun x H'' hx => ?_⟩
      obtain ⟨rfl, hx⟩ := hx
      have hx := hx _ (hLs.px (.of _ _ e3)).sq
      rw [List.getElem?_map, List.getElem?_eq_getElem hlt] at hx
      obtain rfl : V.ref as[i] = x := Option.some.inj hx
      obtain ⟨l, hs, hr2⟩ := hall as[i] (List.getElem_mem hlt)
      have hs3 := hs.px (.of _ _ e3)
      refine ⟨rfl, ?_⟩
      walk_at "w"
      refine ⟨es, as[i], kS l, rfl, hd, hk, hs3.key, kS_dp _, szL (by omega), ?_⟩
      refine ⟨same_mut e3 hD', _, upd_same, (hk.put hs3.key).px (Px.mut hd dNo_imm), Nat.le_trans (put_len _ _ _ _) (by omega), fun j hj a l' ha hl' => ?_⟩
      by_cases hji : j < i
      · exact (hin j hji a l' ha hl').put
      · have : j = i := by omega
        subst this
        rw [List.getElem?_eq_getElem hlt] at ha
        cases ha
        unfold St at hs hl'
        rw [hs] at hl'
        have : l = l' := by cases hl'; rfl
        rw [← this]
        exact Inn.put1
    · have ei : i = as.length := by omega
      subst ei
      refine .inl ⟨⟨_, (hLs.px (.of _ _ e3)).sq, by simp⟩, ?_⟩
      refine hq D' _ (e2.trans e3) ⟨es, hd, hk, fun l hl' => ?_⟩
      obtain ⟨a, ha, hs⟩ := hcov l hl'
      obtain ⟨j, hj, h4⟩ := List.mem_iff_getElem.mp ha
      exact hin j hj a l (by rw [List.getElem?_eq_getElem hj, h4]) hs
  refine lc_go 2 (fun i H' => Same H1 H' ∧ ((i = 0 ∧ H' L = some (.lst [])) ∨ (i = 1 ∧ ∃ D1, H' L = some (.lst [.ref D1]) ∧ StD P w c.M1 H' D1) ∨ (i = 2 ∧ ∃ D1 D2, H' L = some (.lst [.ref D1, .ref D2]) ∧ StD P w c.M1 H' D1 ∧ StD P w c.M2 H' D2)))
    ⟨same_new hL, .inl ⟨rfl, upd_same⟩⟩ (fun i H' hi hN => ?_) fun H2 hN => ⟨⟨_, sqT_of (hN.1 _ _ t1), Nat.le_refl _⟩, ?_⟩
  · obtain ⟨e, hN⟩ := hN
    have eH := e1.trans e
    refine ⟨itt_go (sqT_of (e _ _ t1)) hi, fun x H'' hx => ?_⟩
    obtain ⟨rfl, hx⟩ := hx
    have hx := hx _ (sqT_of (e _ _ t1))
    rcases hN with ⟨rfl, hl⟩ | ⟨rfl, D1, hl, hs⟩ | ⟨rfl, _⟩
    · obtain rfl : V.ref m1 = x := Option.some.inj hx
      refine ⟨rfl, ?_⟩
      refine yT (iT rfl ?_)
      refine dc _ m1 c.M1 [] (fun _ => True) _ e (hm1.px (.of _ _ eH)) hl fun D' H4 e4 hs => ?_
      have hl4 := e4 _ _ hl
      exact ⟨[], hl4, szL (by decide), same_mut (e.trans e4) hL, .inr (.inl ⟨rfl, D', upd_same, hs.upd hl4⟩)⟩
    · obtain rfl : V.ref m2 = x := Option.some.inj hx
      refine ⟨rfl, ?_⟩
      refine yT (iT rfl ?_)
      refine dc _ m2 c.M2 _ (fun _ => True) _ e (hm2.px (.of _ _ eH)) hl fun D' H4 e4 hs2 => ?_
      have hl4 := e4 _ _ hl
      exact ⟨_, hl4, szL (Nat.le_of_ble_eq_true rfl), same_mut (e.trans e4) hL, .inr (.inr ⟨rfl, D1, D', upd_same, (hs.same e4).upd hl4, hs2.upd hl4⟩)⟩
    · omega
  obtain ⟨e2, hN⟩ := hN
  obtain ⟨D1, D2, hl, hs1, hs2⟩ : ∃ D1 D2, H2 L = some (.lst [.ref D1, .ref D2]) ∧ StD P w c.M1 H2 D1 ∧ StD P w c.M2 H2 D2 := by
    rcases hN with ⟨h, _⟩ | ⟨h, _⟩ | ⟨_, h⟩
    · cases h
    · cases h
    · exact h
  have eH2 := e1.trans e2
  have p2 := Px.of _ _ eH2
  refine .now ?_
  obtain ⟨oA, es, hD, hb, hz, hv, hf, ha, hfx⟩ := id hA
  refine ⟨_, rfl, _, _, _, rfl, eH2 _ _ h11, _, _, _, rfl, i1.px p2, fun x H3 _ e3 sx => ?_⟩
  have eH3 := eH2.trans e3
  refine ⟨_, rfl, _, _, _, rfl, eH3 _ _ h21, _, _, _, rfl, i2.px (.of _ _ eH3), fun y H4 _ e4 sy => ?_⟩
  refine ⟨sz, fun fa hfa => ?_⟩
  have eH5 : Same H (upd H4 fa (.tup [.ref x, .ref y])) := (eH3.trans e4).trans (same_new hfa)
  have hP : Pr2 (upd H4 fa (.tup [.ref x, .ref y])) fa c.fst := ⟨x, y, upd_same, same_new hfa _ _ (e4 _ _ sx), same_new hfa _ _ sy⟩
  have e25 : Same H2 (upd H4 fa (.tup [.ref x, .ref y])) := (e3.trans e4).trans (same_new hfa)
  have lkf : lookE es (kP c.fst) = some (.int 0) := by rw [hb.2, hf]; rfl
  refine ⟨_, rfl, D, fa, es, kP c.fst, rfl, rfl, ⟨.inr ⟨oA, eH5 _ _ hD⟩, (hb.px (.of _ _ eH5)).1.ko⟩, hP.key, kP_dp _, ?_⟩
  rw [lkf]
  walk_at "w"
  refine ⟨D, oA, es, rfl, eH5 _ _ hD, fun L2 hL2 => ?_⟩
  refine lc_map ((List.replicate es.length true).map V.bl) hL2 (fun i H' hi cr => ?_) fun H6 e6 hl6 => ⟨⟨e6 _ _ (eH5 _ _ hD), by simp⟩, ?_⟩
  · have hi' : i < es.length := by simpa using hi
    refine ⟨⟨cr.same _ _ (eH5 _ _ hD), hi'⟩, fun x H'' hx => ?_⟩
    obtain ⟨rfl, en, hen, rfl⟩ := hx
    obtain ⟨p, hp1, hp2, hp3⟩ := hb.1 en (List.mem_of_getElem? hen)
    have e26 := e25.trans cr.same
    obtain ⟨x0, y0, hpa, sx0, sy0⟩ := hp2.px (.of _ _ (eH5.trans cr.same))
    obtain ⟨es1, h1, h2, h3⟩ := hs1.same e26
    obtain ⟨es2, g1, g2, g3⟩ := hs2.same e26
    have rr := hp3.rch oc
    have hl' := e26 _ _ hl
    refine ⟨rfl, ?_⟩
    walk_at "w"
    refine ⟨_, _, rfl, .inr (sqT_of hpa), ?_⟩
    walk_at "w"
    refine ⟨_, _, _, _, rfl, rfl, sqT_of hpa, rfl, ?_⟩
    walk_at "w"
    refine ⟨_, _, _, _, rfl, rfl, sqL_of hl', rfl, ?_⟩
    refine ⟨D1, x0, es1, kS p.1, rfl, rfl, ⟨.of h1, h2⟩, sx0.key, kS_dp _, ?_⟩
    rw [show (lookE es1 (kS p.1)).isSome = true from h3 _ rr.1]
    walk_at "w"
    refine ⟨_, _, _, _, rfl, rfl, sqT_of hpa, rfl, ?_⟩
    walk_at "w"
    refine ⟨_, _, _, _, rfl, rfl, sqL_of hl', rfl, ?_⟩
    refine ⟨D2, y0, es2, kS p.2, rfl, rfl, ⟨.of g1, g2⟩, sy0.key, kS_dp _, ?_⟩
    rw [show (lookE es2 (kS p.2)).isSome = true from g3 _ rr.2]
    exact CR.fin Rz.mono cr (by omega) (Same.refl _) (rz_rep hi')
  walk_at "w"
  refine ⟨_, _, rfl, sqL_of hl6, .now ?_⟩
  exact qv_eq (congrArg V.bl (allB _)) (q _ (eH5.trans e6))
end Cab
set_option Elab.async false
set_option linter.all false
set_option maxRecDepth 100000
set_option maxHeartbeats 2000000
set_option pp.maxSteps 1500
namespace Cab
open PySem PySem.Spec PyProof.Rows L2

local macro_rules | `(tactic| walk_at "w") => `(tactic| repeat (first | refine Gh.now ?_ | refine ⟨_, rfl, ?_⟩ | refine ⟨_, _, rfl, rfl, ?_⟩ | refine ⟨rfl, ?_⟩))
local macro_rules | `(tactic| walk_at "g") => `(tactic| repeat (first | refine ⟨_, _, rfl, rfl, ?_⟩ | refine ⟨_, _, rfl, ?_⟩ | refine ⟨rfl, ?_⟩ | refine Gh.now ?_ | refine ⟨_, rfl, ?_⟩))
local macro_rules | `(tactic| walk_at "len") => `(tactic| first | (intro hh; obtain ⟨e, _⟩ := hh; exact congrArg List.length e) | (intro hh; obtain ⟨_, e, _⟩ := hh; exact congrArg List.length e) | (intro hh; obtain ⟨_, _, e, _⟩ := hh; exact congrArg List.length e) | (intro hh; obtain ⟨_, _, _, e, _⟩ := hh; exact congrArg List.length e) | (intro hh; obtain ⟨_, _, _, _, e, _⟩ := hh; exact congrArg List.length e) | (intro hh; obtain ⟨_, _, _, _, _, e, _⟩ := hh; exact congrArg List.length e) | (intro hh; obtain ⟨_, _, _, _, _, _, e, _⟩ := hh; exact congrArg List.length e) | (intro hh; obtain ⟨_, _, _, _, _, _, _, e, _⟩ := hh; exact congrArg List.length e) | (intro hh; obtain ⟨_, _, _, _, _, _, _, _, e, _⟩ := hh; exact congrArg List.length e) | (intro hh; obtain ⟨_, _, _, _, _, _, _, _, _, e, _⟩ := hh; exact congrArg List.length e) | (intro hh; obtain ⟨_, _, _, _, _, _, _, _, _, _, e, _⟩ := hh; exact congrArg List.length e) | (intro hh; obtain ⟨_, _, _, _, _, _, _, _, _, _, _, e, _⟩ := hh; exact congrArg List.length e) | (intro hh; obtain ⟨_, _, _, _, _, _, _, _, _, _, _, _, e, _⟩ := hh; exact congrArg List.length e))
variable {P : Program} {w : World} {K : PySem.W.Frag} {mg : Str → Option Value} {base : Heap}

def pr_is_excess_amounts (P : Program) (w : World) (K : PySem.W.Frag) : Pr := fun vs H Q => ∃ (m1 m2 D : Addr) (c : W2) (am : Pt → Option Int), vs = [.ref m1, .ref m2, .ref D, .int (c.M1.flag - c.M2.flag), .int c.top] ∧ c.Ok ∧ MetAt P w K H m1 c.M1 ∧ MetAt P w K H m2 c.M2 ∧ AmtD P w c H D am ∧ ∀ H', Same H H' → Q (.bl true) H'
theorem ok_is_excess_amounts (T : Wd K mg base) : Fn P w K mg base 6 (He.ga K "is_excess_amounts") (pr_is_excess_amounts P w K) := by
  obtain ⟨fd, F0⟩ := T.fdef 23 (d := d_is_excess_amounts)
  have F : FunD K "is_excess_amounts" "is_excess_amounts" (defArgs s_is_excess_amounts) (defBody s_is_excess_amounts) (defScope s_is_excess_amounts) [V.int 9] [] (He.ga K "is_excess_amounts") fd := F0
  refine fn_mkD (N := N_is_excess_amounts) (ps := ["one", "other", "amounts", "excess", "top"]) F sc_is_excess_amounts (by intro z; cases z) (fun T kV doc pm an cdv ct us its hl hl2 => match us, its, hl, hl2 with | [u0, u1, u2, u3, u4], [d0], _, _ => ⟨_, rfl, rfl⟩) (fun vs H Q => by walk_at "len") fun cdv A outer s H vs Q E hr h => ?_
  refine ⟨_, (pss_cons (ps_expr (pe_R (ok_check_top T) (hr.mono (by decide)) T.g_check_top T.k_check_top (pa_cons (pv 4) pa_nil))) (pss_cons (ps_if (pt_not (pt_val (pe_R (ok_are_pairs T) (hr.mono (by decide)) T.g_are_pairs T.k_are_pairs (pa_cons (pv 0) (pa_cons (pv 1) (pa_cons (pv 2) (pa_cons (pv 4) pa_nil))))))) (pss_one (ps_ret (pe_gh pe_bl))) pss_nil) (pss_cons (ps_if (pt_cmpR op_ne (pe_dnK (P := P) (w := w) (hu64 hr) (pv 2) (pe_tup (pa_cons (pe_P (ok_Meter_start T) (hr.mono (by decide)) T.cls_Meter T.p_Meter_start (pv 0)) (pa_cons (pe_P (ok_Meter_start T) (hr.mono (by decide)) T.cls_Meter T.p_Meter_start (pv 1)) pa_nil)))) (pe_op op_add (pe_op op_sub (pv 3) (pe_P (ok_Meter_flag T) (hr.mono (by decide)) T.cls_Meter T.p_Meter_flag (pv 0))) (pe_P (ok_Meter_flag T) (hr.mono (by decide)) T.cls_Meter T.p_Meter_flag (pv 1))) (nomark _)) (pss_one (ps_ret (pe_gh pe_bl))) pss_nil) (pss_cons (ps_gh (ps_for PassesOwn.never rfl (pi_keysN (pv 2)) (pg_name (i := 5) sc_is_excess_amounts.nd rfl (Or.inl rfl)) (pss_one (ps_for PassesOwn.never rfl (pi_listK (K := K) (pe_R (ok_pair_steps T) (hr.mono (by decide)) T.g_pair_steps T.k_pair_steps (pa_cons (pv 0) (pa_cons (pv 1) (pa_cons (pv 5) (pa_cons (pv 4) pa_nil)))))) (pg_tupK (n := 3) rfl (pgs_cons (pg_name (i := 6) sc_is_excess_amounts.nd rfl (Or.inl rfl)) (pgs_cons (pg_name (i := 7) sc_is_excess_amounts.nd rfl (Or.inl rfl)) (pgs_cons (pg_name (i := 8) sc_is_excess_amounts.nd rfl (Or.inl rfl)) pgs_nil)))) (pss_one (ps_if (PW.pt (pw_or (pt_cmpR (op_dnNotIn (hu64 hr) : OpR _ _ (rDnIn P w true)) (pv 8) (pv 2) (by rfl)) (pw_or1 (pt_cmpR op_lt (pe_dnK (P := P) (w := w) (hu64 hr) (pv 2) (pv 5)) (pe_op op_add (pv 7) (pe_dnK (P := P) (w := w) (hu64 hr) (pv 2) (pv 8))) (nomark _))))) (pss_one (ps_ret (pe_gh pe_bl))) pss_nil)))))) (pss_one (ps_ret (pe_gh (pe_callB (cr_all rfl) (by rfl) T.f_all (by decide +kernel) (pa_cons (pe_lc (own := [("pair", 5)]) rfl sc_is_excess_amounts.nd (pi_keysN (pv 2)) (blkOk_by (own := [("pair", 5)]) (N := N_is_excess_amounts) (sc := defScope s_is_excess_amounts) (by decide +kernel)) (fun _ _ _ _ _ => (pg_name (i := 5) sc_is_excess_amounts.nd rfl (Or.inl rfl))) (fun _ _ _ _ _ => pts_nil) (fun _ _ _ _ _ => (pe_cmpR op_ge (pe_dnK (P := P) (w := w) (hu64 hr) (pv 2) (pv 5)) pe_int (nomark _)))) pa_nil))))))))), ?_⟩
  obtain ⟨m1, m2, D, c, am, rfl, oc, hm1, hm2, hA, q⟩ := h
  have tp := oc.tp
  obtain ⟨ad1, i1, _⟩ := id hm1
  obtain ⟨o1, dx1, an1, a21, a31, tb1, h11, _⟩ := id i1
  obtain ⟨ad2, i2, _⟩ := id hm2
  obtain ⟨o2, dx2, an2, a22, a32, tb2, h21, _⟩ := id i2
  obtain ⟨oA, es, hD, hb, hz, hv, hf, ha, hfx⟩ := id hA
  walk_at "w"
  refine ⟨by omega, by omega, ?_⟩
  walk_at "w"
  refine ⟨m1, m2, D, c, am, rfl, oc, hm1, hm2, hA, fun H1 e1 => ?_⟩
  walk_at "w"
  have p1 := Px.of _ _ e1
  refine ⟨_, _, _, rfl, e1 _ _ h11, _, _, _, rfl, i1.px p1, fun x H2 _ e2 sx => ?_⟩
  have e12 := e1.trans e2
  refine ⟨_, rfl, _, _, _, rfl, e12 _ _ h21, _, _, _, rfl, i2.px (.of _ _ e12), fun y H3 _ e3 sy => ?_⟩
  refine ⟨sz, fun fa hfa => ?_⟩
  have e4 : Same H (upd H3 fa (.tup [.ref x, .ref y])) := (e12.trans e3).trans (same_new hfa)
  have hP : Pr2 (upd H3 fa (.tup [.ref x, .ref y])) fa c.fst := ⟨x, y, upd_same, same_new hfa _ _ (e3 _ _ sx), same_new hfa _ _ sy⟩
  generalize upd H3 fa (.tup [.ref x, .ref y]) = H4 at e4 hP ⊢
  have p4 := Px.of _ _ e4
  have lkf : lookE es (kP c.fst) = some (.int 0) := by rw [hb.2, hf]; rfl
  refine ⟨D, fa, es, kP c.fst, _, rfl, rfl, ⟨.inr ⟨oA, e4 _ _ hD⟩, (hb.px p4).1.ko⟩, hP.key, kP_dp _, lkf, ?_⟩
  walk_at "w"
  refine ⟨_, _, _, rfl, e4 _ _ h11, _, _, _, rfl, i1.px p4, ?_⟩
  walk_at "w"
  refine ⟨_, _, _, rfl, e4 _ _ h21, _, _, _, rfl, i2.px p4, ?_⟩
  walk_at "w"
  refine iF (by show (!decide (V.int 0 = V.int (c.M1.flag - c.M2.flag - c.M1.flag + c.M2.flag))) = false; rw [show c.M1.flag - c.M2.flag - c.M1.flag + c.M2.flag = 0 by omega]; rfl) ?_
  walk_at "w"
  refine ⟨D, oA, es, rfl, e4 _ _ hD, ?_⟩
  refine for_go es.length (fun i σ H' => ∃ (s5 s6 s7 s8 : Option V), σ = [some (.ref m1), some (.ref m2), some (.ref D), some (.int (c.M1.flag - c.M2.flag)), some (.int c.top), s5, s6, s7, s8] ∧ Same H H') ⟨_, _, _, _, rfl, e4⟩ ?_ ?_
  · rintro i σ H5 hi ⟨s5, s6, s7, s8, rfl, e5⟩
    refine ⟨⟨e5 _ _ hD, hi⟩, fun x H'' hx => ?_⟩
    obtain ⟨rfl, en, hen, rfl⟩ := hx
    obtain ⟨p, hp1, hp2, hp3⟩ := hb.1 en (List.mem_of_getElem? hen)
    have p5 := Px.of _ _ e5
    obtain ⟨yp, hyp⟩ : ∃ y, am p = some y := by
      cases h : am p with
      | none => exact absurd h (ha p hp3)
      | some y => exact ⟨y, rfl⟩
    walk_at "w"
    refine ⟨m1, m2, en.2.1, c, p, rfl, oc, hm1.px p5, hm2.px p5, hp2.px p5, (hp3.rch oc).1, (hp3.rch oc).2, fun L H6 e6 hL => ?_⟩
    obtain ⟨la, ts, eL, hLs, hts, hst⟩ := hL
    cases eL
    have e56 := e5.trans e6
    refine ⟨_, rfl, ⟨_, hLs.sq⟩, ?_⟩
    refine for_go (c.top + 1) (fun j σ H' => ∃ (s6 s7 s8 : Option V), σ = [some (.ref m1), some (.ref m2), some (.ref D), some (.int (c.M1.flag - c.M2.flag)), some (.int c.top), some (.ref en.2.1), s6, s7, s8] ∧ Same H6 H') ⟨_, _, _, rfl, Same.refl _⟩ ?_ ?_
    · rintro j σ H7 hj ⟨s6, s7, s8, rfl, e7⟩
      have p7 := Px.of _ _ e7
      refine ⟨itl_go (hLs.px p7).sq (by omega), fun y H'' hy => ?_⟩
      obtain ⟨rfl, hy⟩ := hy
      have hy := hy _ (hLs.px p7).sq
      obtain ⟨sa, h1, g, h2, h3⟩ := hst j (by omega)
      rw [h1] at hy
      obtain rfl : V.ref sa = y := Option.some.inj hy
      obtain ⟨y2, hy2, hle⟩ := hfx p hp3 yp hyp j (by omega)
      have e57 := e56.trans e7
      have pH := Px.of _ _ e57
      have lkg : lookE es (kP (c.nx p j)) = some (.int y2) := by rw [hb.2, hy2]; rfl
      have lkp : lookE es (kP p) = some (.int yp) := by rw [hb.2, hyp]; rfl
      refine ⟨_, _, rfl, sqT_of (e7 _ _ h2), rfl, ?_⟩
      walk_at "g"
      refine ⟨D, g, es, kP (c.nx p j), rfl, rfl, ⟨.inr ⟨oA, e57 _ _ hD⟩, (hb.px pH).1.ko⟩, (h3.px p7).key, kP_dp _, ?_⟩
      rw [lkg]
      refine ⟨_, rfl, iF rfl ?_⟩
      refine ⟨_, rfl, _, rfl, D, en.2.1, es, kP p, _, rfl, rfl, ⟨.inr ⟨oA, e57 _ _ hD⟩, (hb.px pH).1.ko⟩, (hp2.px pH).key, kP_dp _, lkp, ?_⟩
      refine ⟨_, rfl, _, rfl, _, rfl, D, g, es, kP (c.nx p j), _, rfl, rfl, ⟨.inr ⟨oA, e57 _ _ hD⟩, (hb.px pH).1.ko⟩, (h3.px p7).key, kP_dp _, lkg, ?_⟩
      refine ⟨_, _, rfl, rfl, _, _, rfl, rfl, _, rfl, ?_⟩
      refine iF (dF (by omega)) ?_
      exact ⟨_, _, _, rfl, e7⟩
    · rintro σ H7 ⟨s6, s7, s8, rfl, e7⟩
      exact ⟨⟨_, (hLs.px (.of _ _ e7)).sq, by omega⟩, _, _, _, _, rfl, e56.trans e7⟩
  · rintro σ H5 ⟨s5, s6, s7, s8, rfl, e5⟩
    refine ⟨⟨e5 _ _ hD, Nat.le_refl _⟩, ?_⟩
    walk_at "w"
    refine ⟨D, oA, es, rfl, e5 _ _ hD, fun L2 hL2 => ?_⟩
    refine lc_map ((List.replicate es.length true).map V.bl) hL2 (fun i H' hi cr => ?_) fun H6 e6 hl6 => ⟨⟨e6 _ _ (e5 _ _ hD), by simp⟩, ?_⟩
    · have hi' : i < es.length := by simpa using hi
      refine ⟨⟨cr.same _ _ (e5 _ _ hD), hi'⟩, fun x H'' hx => ?_⟩
      obtain ⟨rfl, en, hen, rfl⟩ := hx
      obtain ⟨p, hp1, hp2, hp3⟩ := hb.1 en (List.mem_of_getElem? hen)
      have pH := Px.of _ _ (e5.trans cr.same)
      obtain ⟨yp, hyp⟩ : ∃ y, am p = some y := by
        cases h : am p with
        | none => exact absurd h (ha p hp3)
        | some y => exact ⟨y, rfl⟩
      have lkp : lookE es (kP p) = some (.int yp) := by rw [hb.2, hyp]; rfl
      refine ⟨rfl, ?_⟩
      walk_at "w"
      refine ⟨D, en.2.1, es, kP p, _, rfl, rfl, ⟨.inr ⟨oA, cr.same _ _ (e5 _ _ hD)⟩, (hb.px pH).1.ko⟩, (hp2.px pH).key, kP_dp _, lkp, ?_⟩
      walk_at "w"
      refine CR.fin Rz.mono cr (by omega) (Same.refl _) ?_
      show Rz _ i (.bl (decide (0 ≤ yp))) _
      rw [dT (hv p yp hyp).1]
      exact rz_rep hi'
    walk_at "w"
    refine ⟨_, _, rfl, sqL_of hl6, .now ?_⟩
    exact qv_eq (congrArg V.bl (allB _)) (q _ (e5.trans e6))
end Cab
set_option Elab.async false
set_option linter.all false
set_option maxRecDepth 100000
set_option maxHeartbeats 2000000
set_option pp.maxSteps 1500
namespace Cab
open PySem PySem.Spec PyProof.Rows L2

local macro_rules | `(tactic| walk_at "w") => `(tactic| repeat (first | refine Gh.now ?_ | refine ⟨_, rfl, ?_⟩ | refine ⟨_, _, rfl, rfl, ?_⟩ | refine ⟨rfl, ?_⟩))
local macro_rules | `(tactic| walk_at "g") => `(tactic| repeat (first | refine ⟨_, _, rfl, rfl, ?_⟩ | refine ⟨_, _, rfl, ?_⟩ | refine ⟨rfl, ?_⟩ | refine Gh.now ?_ | refine ⟨_, rfl, ?_⟩))
local macro_rules | `(tactic| walk_at "len") => `(tactic| first | (intro hh; obtain ⟨e, _⟩ := hh; exact congrArg List.length e) | (intro hh; obtain ⟨_, e, _⟩ := hh; exact congrArg List.length e) | (intro hh; obtain ⟨_, _, e, _⟩ := hh; exact congrArg List.length e) | (intro hh; obtain ⟨_, _, _, e, _⟩ := hh; exact congrArg List.length e) | (intro hh; obtain ⟨_, _, _, _, e, _⟩ := hh; exact congrArg List.length e) | (intro hh; obtain ⟨_, _, _, _, _, e, _⟩ := hh; exact congrArg List.length e) | (intro hh; obtain ⟨_, _, _, _, _, _, e, _⟩ := hh; exact congrArg List.length e) | (intro hh; obtain ⟨_, _, _, _, _, _, _, e, _⟩ := hh; exact congrArg List.length e) | (intro hh; obtain ⟨_, _, _, _, _, _, _, _, e, _⟩ := hh; exact congrArg List.length e) | (intro hh; obtain ⟨_, _, _, _, _, _, _, _, _, e, _⟩ := hh; exact congrArg List.length e) | (intro hh; obtain ⟨_, _, _, _, _, _, _, _, _, _, e, _⟩ := hh; exact congrArg List.length e) | (intro hh; obtain ⟨_, _, _, _, _, _, _, _, _, _, _, e, _⟩ := hh; exact congrArg List.length e) | (intro hh; obtain ⟨_, _, _, _, _, _, _, _, _, _, _, _, e, _⟩ := hh; exact congrArg List.length e))
variable {P : Program} {w : World} {K : PySem.W.Frag} {mg : Str → Option Value} {base : Heap}

/-- the text of such speeds -/
def Tz (z : Str) (ds : List Nat) : Prop := z.cps.toList = ds.map (48 + ·) ∧ ∀ v ∈ ds, v ≤ 9
theorem Tz.len {z : Str} {ds : List Nat} (h : Tz z ds) : z.length = ds.length := by
  show z.cps.size = _
  rw [← Array.length_toList, h.1, List.length_map]
theorem Tz.dgs {z : Str} {ds : List Nat} (h : Tz z ds) : dgs z = ds := by
  unfold Cab.dgs
  rw [h.1, List.map_map]
  have : ∀ l : List Nat, l.map ((fun x => x - 48) ∘ fun x => 48 + x) = l := fun l => by
    induction l with
    | nil => rfl
    | cons a r ih => rw [List.map_cons, ih]; simp
  exact this ds
theorem Tz.dig {z : Str} {ds : List Nat} (h : Tz z ds) (hl : ds.length ≤ 2000) : Dig z := by
  refine ⟨by rw [h.len]; exact hl, fun c hc => ?_⟩
  rw [h.1] at hc
  obtain ⟨v, hv, rfl⟩ := List.mem_map.mp hc
  have hv9 := h.2 v hv
  have e : ∀ m : Fin 10, 48 + m.1 ∈ ("0123456789" : Str).cps.toList := by decide +kernel
  exact e ⟨v, by omega⟩
theorem Tz.nil : Tz "" [] := ⟨by decide, fun _ z => nomatch z⟩
theorem Tz.app {z z' : Str} {ds ds' : List Nat} (h : Tz z ds) (h' : Tz z' ds') : Tz (z ++ z') (ds ++ ds') := by
  refine ⟨?_, fun v hv => (List.mem_append.mp hv).elim (h.2 v) (h'.2 v)⟩
  show (z.cps ++ z'.cps).toList = _
  rw [Array.toList_append, h.1, h'.1, List.map_append]
theorem Tz.one {v : Nat} (h : v ≤ 9) : Tz (txt v) [v] := by
  have e : ∀ m : Fin 10, (txt m.1).cps.toList = [48 + m.1] := by decide +kernel
  refine ⟨e ⟨v, by omega⟩, fun u hu => ?_⟩
  rw [List.mem_singleton.mp hu]
  exact h
theorem log_small {s : Nat} (h : s ≤ 60) : (Int.ofNat s).natAbs.log2 < 1920 := by
  have e : ∀ m : Fin 61, (Int.ofNat m.1).natAbs.log2 < 1920 := by decide +kernel
  exact e ⟨s, by omega⟩
/-- the trips that lead to the pairs seen -/
structure Tr (P : Program) (w : World) (c : W2) (fd la : Addr) (H : Hp) (es : List Ent) (as : List Addr) : Prop where
  d : H fd = some (dNo P w fd es)
  pk : PK H (RP c) es
  ln : H la = some (.lst (as.map V.ref))
  st : ∀ a ∈ as, ∃ p, Pr2 H a p ∧ InP es p
  ok : ∀ p v, lookE es (kP p) = some v → ∃ z ds, v = .str z ∧ Tz z ds ∧ (∀ u ∈ ds, u ≤ c.top) ∧ c.st ds = p ∧ c.vl ds = 0 ∧ ds.length ≤ es.length
  s1 : es.length + mis2 es ≤ 121
  s2 : as.length + mis2 es ≤ 122
def pr_parting_trip (P : Program) (w : World) (K : PySem.W.Frag) : Pr := fun vs H Q => ∃ (m1 m2 : Addr) (c : W2), vs = [.ref m1, .ref m2, .int c.top] ∧ c.Ok ∧ Dear c.M1 c.M2 ∧ MetAt P w K H m1 c.M1 ∧ MetAt P w K H m2 c.M2 ∧
  (∀ H', Same H H' → Q .non H') ∧ ∀ z ds H', Same H H' → Tz z ds → ds.length ≤ 2000 → c.M1.pr (c.M1.cnt ds) < c.M2.pr (c.M2.cnt ds) → Q (.str z) H'
theorem ok_parting_trip (T : Wd K mg base) : Fn P w K mg base 6 (He.ga K "parting_trip") (pr_parting_trip P w K) := by
  obtain ⟨fd, F0⟩ := T.fdef 13 (d := d_parting_trip)
  have F : FunD K "parting_trip" "parting_trip" (defArgs s_parting_trip) (defBody s_parting_trip) (defScope s_parting_trip) [V.int 9] [] (He.ga K "parting_trip") fd := F0
  refine fn_mkD (N := N_parting_trip) (ps := ["one", "other", "top"]) F sc_parting_trip (by intro z; cases z) (fun T kV doc pm an cdv ct us its hl hl2 => match us, its, hl, hl2 with | [u0, u1, u2], [d0], _, _ => ⟨_, rfl, rfl⟩) (fun vs H Q => by walk_at "len") fun cdv A outer s H vs Q E hr h => ?_
  refine ⟨_, (pss_cons (ps_expr (pe_R (ok_check_top T) (hr.mono (by decide)) T.g_check_top T.k_check_top (pa_cons (pv 2) pa_nil))) (pss_cons (ps_if (pt_cmpR op_ne (pe_P (ok_Meter_flag T) (hr.mono (by decide)) T.cls_Meter T.p_Meter_flag (pv 0)) (pe_P (ok_Meter_flag T) (hr.mono (by decide)) T.cls_Meter T.p_Meter_flag (pv 1)) (nomark _)) (pss_one (ps_ret (pe_gh pe_str))) pss_nil) (pss_gcons (ps_set (i := 3) sc_parting_trip.nd rfl (Or.inl rfl) (pe_dn1 (hu64 hr) (pe_tup (pa_cons (pe_P (ok_Meter_start T) (hr.mono (by decide)) T.cls_Meter T.p_Meter_start (pv 0)) (pa_cons (pe_P (ok_Meter_start T) (hr.mono (by decide)) T.cls_Meter T.p_Meter_start (pv 1)) pa_nil))) pe_str)) (pss_gcons (ps_set (i := 4) sc_parting_trip.nd rfl (Or.inl rfl) (pe_callTy (call_dnList rfl) (by rfl) T.f_list (by decide +kernel) (pa_cons (pv 3) pa_nil))) (pss_cons (ps_while PassesOwn.never (pt_truth (pv 4) (by intro _; rfl)) (pss_gcons (ps_set (i := 5) sc_parting_trip.nd rfl (Or.inl rfl) (pe_bm PySem.F.plainAttrs_list PySem.F.slot_list_pop PySem.F.type_list_pop mt_popAt (pv 4) (pa_cons pe_int pa_nil))) (pss_one (ps_for PassesOwn.never rfl (pi_listK (K := K) (pe_R (ok_pair_steps T) (hr.mono (by decide)) T.g_pair_steps T.k_pair_steps (pa_cons (pv 0) (pa_cons (pv 1) (pa_cons (pv 5) (pa_cons (pv 2) pa_nil)))))) (pg_tupK (n := 3) rfl (pgs_cons (pg_name (i := 6) sc_parting_trip.nd rfl (Or.inl rfl)) (pgs_cons (pg_name (i := 7) sc_parting_trip.nd rfl (Or.inl rfl)) (pgs_cons (pg_name (i := 8) sc_parting_trip.nd rfl (Or.inl rfl)) pgs_nil)))) (pss_cons (ps_if (pt_cmpR op_ne (pv 7) pe_int (nomark _)) (pss_one (ps_ret (pe_gh (pe_op op_add_str (pe_dnK (P := P) (w := w) (hu64 hr) (pv 3) (pv 5)) (pe_callTy call_str_int (by rfl) T.f_str (by decide +kernel) (pa_cons (pv 6) pa_nil)))))) pss_nil) (pss_one (ps_if (pt_cmpR (op_dnNotIn (hu64 hr) : OpR _ _ (rDnIn P w true)) (pv 8) (pv 3) (by rfl)) (pss_gcons (ps_asg (pe_op op_add_str (pe_dnK (P := P) (w := w) (hu64 hr) (pv 3) (pv 5)) (pe_callTy call_str_int (by rfl) T.f_str (by decide +kernel) (pa_cons (pv 6) pa_nil))) (pg_sub (pv 3) (pv 8) (set_dn (hu64 hr)))) (pss_one (ps_expr (pe_bm PySem.F.plainAttrs_list PySem.F.slot_list_append PySem.F.type_list_append mt_append (pv 4) (pa_cons (pv 8) pa_nil))))) pss_nil))))))) (pss_one (ps_ret (pe_gh pe_non)))))))), ?_⟩
  obtain ⟨m1, m2, c, rfl, oc, D, hm1, hm2, qn, q⟩ := h
  have tp := oc.tp
  obtain ⟨ad1, i1, _⟩ := id hm1
  obtain ⟨o1, dx1, an1, a21, a31, tb1, h11, _⟩ := id i1
  obtain ⟨ad2, i2, _⟩ := id hm2
  obtain ⟨o2, dx2, an2, a22, a32, tb2, h21, _⟩ := id i2
  walk_at "w"
  refine ⟨by omega, by omega, ?_⟩
  walk_at "w"
  refine ⟨_, _, _, rfl, h11, _, _, _, rfl, i1, ?_⟩
  walk_at "w"
  refine ⟨_, _, _, rfl, h21, _, _, _, rfl, i2, ?_⟩
  walk_at "w"
  refine iB (fun hd => ?_) fun hd => ?_
  · walk_at "w"
    have hne : c.M1.flag ≠ c.M2.flag := fun z => by rw [z] at hd; simp at hd
    have := D.g
    refine q _ [] _ (Same.refl _) Tz.nil (by simp) ?_
    have e1 : c.M1.J (c.M1.cnt []) = 0 := by show c.M1.J 0 = 0; unfold Mt.J; rw [if_pos (by have := o1.f1; omega)]
    have e2 : c.M2.J (c.M2.cnt []) = 0 := by show c.M2.J 0 = 0; unfold Mt.J; rw [if_pos (by have := o2.f1; omega)]
    unfold Mt.pr
    rw [e1, e2]
    omega
  have hfl : c.M1.flag = c.M2.flag := by
    by_cases h : c.M1.flag = c.M2.flag
    · exact h
    · have : decide (V.int c.M1.flag = V.int c.M2.flag) = false := dF fun z => h (V.int.inj z)
      rw [this] at hd
      cases hd
  intro fd hfd
  refine ⟨_, rfl, _, _, _, rfl, (same_new hfd) _ _ h11, _, _, _, rfl, i1.px (Px.new hfd), fun x H2 _ e2 sx => ?_⟩
  have eA := (same_new (o := dNo P w fd []) hfd).trans e2
  refine ⟨_, rfl, _, _, _, rfl, eA _ _ h21, _, _, _, rfl, i2.px (.of _ _ eA), fun y H3 _ e3 sy => ?_⟩
  refine ⟨sz, fun fa hfa => ?_⟩
  have e4 : Same (upd H fd (dNo P w fd [])) (upd H3 fa (.tup [.ref x, .ref y])) := (e2.trans e3).trans (same_new hfa)
  have hP : Pr2 (upd H3 fa (.tup [.ref x, .ref y])) fa c.fst := ⟨x, y, upd_same, same_new hfa _ _ (e3 _ _ sx), same_new hfa _ _ sy⟩
  generalize upd H3 fa (.tup [.ref x, .ref y]) = H4 at e4 hP ⊢
  have fd4 := e4 _ _ (show upd H fd (dNo P w fd []) fd = _ from upd_same)
  refine ⟨fd4, fa, kP c.fst, rfl, hP.key, kP_dp _, .now ?_⟩
  have e5 : Same H (upd H4 fd (dNo P w fd [(kP c.fst, fa, .str "")])) := same_mut ((same_new hfd).trans e4) hfd
  have fd5 : upd H4 fd (dNo P w fd [(kP c.fst, fa, .str "")]) fd = some (dNo P w fd [(kP c.fst, fa, .str "")]) := upd_same
  have hP5 : Pr2 (upd H4 fd (dNo P w fd [(kP c.fst, fa, .str "")])) fa c.fst := hP.px (Px.mut fd4 dNo_imm)
  show tSeqG _ _ _ _ (upd H4 fd (dNo P w fd [(kP c.fst, fa, .str "")]))
  generalize upd H4 fd (dNo P w fd [(kP c.fst, fa, .str "")]) = H5 at e5 fd5 hP5 ⊢
  have pk5 : PK H5 (RP c) [(kP c.fst, fa, .str "")] := fun e he => by
    rw [List.mem_singleton.mp he]
    exact ⟨_, rfl, hP5, .first⟩
  walk_at "w"
  refine ⟨fd, _, rfl, ⟨.of fd5, pk5.ko⟩, fun la hla => .now ?_⟩
  have nl : la ≠ fd := fun z => by rw [z, fd5] at hla; cases hla
  have e6 : Same H (upd H5 la (.lst [.ref fa])) := e5.trans (same_new hla)
  have frl : H la = none := fresh_of e5 hla
  have mm : mis2 [(kP c.fst, fa, V.str "")] < 121 := Nat.lt_of_lt_of_eq (mis2_lt (es := []) (b := fa) (v := V.str "") (mem_grid (RP.bd oc .first)) rfl) mis2_nil
  have k0 : Tr P w c fd la (upd H5 la (.lst [.ref fa])) [(kP c.fst, fa, .str "")] [fa] := by
    refine ⟨(same_new hla) _ _ fd5, pk5.px (Px.new hla), upd_same, fun a ha => ?_, fun p v h => ?_, by simp; omega, by simp; omega⟩
    · rw [List.mem_singleton.mp ha]
      exact ⟨_, hP5.px (Px.new hla), InP.put1 (es := [])⟩
    · have h2 : lookE (putE [] (kP c.fst) fa (.str "")) (kP p) = some v := h
      rw [lookP_put] at h2
      by_cases e : c.fst = p
      · rw [if_pos e] at h2
        cases h2
        exact ⟨_, [], rfl, Tz.nil, (fun _ z => nomatch z), by rw [(c.st_nil oc).1]; exact e, (c.st_nil oc).2, Nat.zero_le _⟩
      · rw [if_neg e] at h2
        cases h2
  refine ⟨fun m σ H' => ∃ (s5 s6 s7 s8 : Option V) (es : List Ent) (as : List Addr), σ = [some (.ref m1), some (.ref m2), some (.int c.top), some (.ref fd), some (.ref la), s5, s6, s7, s8] ∧ m = 2 * mis2 es + as.length ∧ Same H H' ∧ Tr P w c fd la H' es as,
    ⟨_, _, _, _, _, _, _, rfl, rfl, e6, k0⟩, ?_⟩
  clear k0 mm
  rintro m σ H8 ⟨s5, s6, s7, s8, es, as, rfl, rfl, e8, k⟩
  walk_at "w"
  refine ⟨_, .inl ⟨_, sqL_of k.ln, rfl⟩, ?_⟩
  cases as with
  | nil =>
    refine iF rfl ?_
    exact .now (qn _ e8)
  | cons a as' =>
    refine iT rfl ?_
    refine ⟨_, fun σ' H' h => h, ?_⟩
    obtain ⟨p, sp, ip⟩ := k.st a List.mem_cons_self
    obtain ⟨v0, hv0⟩ := Option.isSome_iff_exists.mp ip
    obtain ⟨z, ds, rfl, tz, dt, dst, dvl, dln⟩ := k.ok p v0 hv0
    have rp := (k.pk.at ip).1
    refine ⟨_, rfl, .inl ⟨rfl, _, sqL_of k.ln⟩, la, _, 0, 0, .ref a, rfl, rfl, k.ln, by decide, by decide, by simp [seqIndex?], rfl, .now ?_⟩
    have p9 : Px H8 (upd H8 la (.lst (as'.map V.ref))) := Px.mut k.ln (fun z => z)
    have d9 : upd H8 la (.lst (as'.map V.ref)) fd = some (dNo P w fd es) := by rw [upd_ne nl.symm]; exact k.d
    have l9 : upd H8 la (.lst (as'.map V.ref)) la = some (.lst (as'.map V.ref)) := upd_same
    have e9 : Same H (upd H8 la (.lst (as'.map V.ref))) := same_mut e8 frl
    show tFor _ _ _ _ _ (upd H8 la (.lst (as'.map V.ref)))
    generalize upd H8 la (.lst (as'.map V.ref)) = H9 at p9 d9 l9 e9 ⊢
    have q9 := Px.of _ _ e9
    walk_at "w"
    refine ⟨m1, m2, a, c, p, rfl, oc, hm1.px q9, hm2.px q9, sp.px p9, (rp.rch oc).1, (rp.rch oc).2, fun L H10 e10 hL => ?_⟩
    obtain ⟨la2, ts, eL, hLs, hts, hst⟩ := hL
    cases eL
    have p10 := Px.of _ _ e10
    have e910 := e9.trans e10
    have sp10 := (sp.px p9).px p10
    refine ⟨_, rfl, ⟨_, hLs.sq⟩, ?_⟩
    have k10 : Tr P w c fd la H10 es as' := ⟨e10 _ _ d9, (k.pk.px p9).px p10, e10 _ _ l9, fun b hb => (k.st b (List.mem_cons_of_mem _ hb)).elim fun p' h => ⟨p', (h.1.px p9).px p10, h.2⟩, k.ok, k.s1, by have := k.s2; simp at this; omega⟩
    refine for_go (c.top + 1) (fun j σ H' => ∃ (s6 s7 s8 : Option V) (es' : List Ent) (as2 : List Addr), σ = [some (.ref m1), some (.ref m2), some (.int c.top), some (.ref fd), some (.ref la), some (.ref a), s6, s7, s8] ∧ Same H H' ∧ Px H10 H' ∧ Tr P w c fd la H' es' as2 ∧ lookE es' (kP p) = some (.str z) ∧ 2 * mis2 es' + as2.length ≤ 2 * mis2 es + as'.length ∧ ds.length ≤ es'.length)
      ⟨_, _, _, es, as', rfl, e910, Px.refl _, k10, hv0, Nat.le_refl _, dln⟩ ?_ ?_
    · rintro j σ H11 hj ⟨s6, s7, s8, es', as2, rfl, e11, p11, k, hz, hm, hdl⟩
      refine ⟨itl_go (hLs.px p11).sq (by omega), fun y H'' hy => ?_⟩
      obtain ⟨rfl, hy⟩ := hy
      have hy := hy _ (hLs.px p11).sq
      obtain ⟨sa, h1, g, h2, h3⟩ := hst j (by omega)
      rw [h1] at hy
      obtain rfl : V.ref sa = y := Option.some.inj hy
      have hg := h3.px p11
      have hp11 := sp10.px p11
      have ks1 := k.s1
      have tz1 := tz.app (Tz.one (show j ≤ 9 by omega))
      have hre : Re c p 0 := ⟨ds, dt, dst.symm, dvl.symm⟩
      obtain ⟨st1, vl1⟩ := c.st_snoc oc ds j
      rw [dst] at st1 vl1
      have hlen : z.length + (txt j).length ≤ 1000 := by rw [tz.len, (Tz.one (show j ≤ 9 by omega)).len]; simp; omega
      refine ⟨_, _, rfl, sqT_of (p11 _ _ h2 True.intro), rfl, ?_⟩
      walk_at "g"
      refine iB (fun hne => ?_) fun heq => ?_
      · have hne : c.gn p j ≠ 0 := fun h => by rw [h] at hne; simp at hne
        refine ⟨_, rfl, _, rfl, fd, a, es', kP p, _, rfl, rfl, ⟨.of k.d, k.pk.ko⟩, hp11.key, kP_dp _, hz, ?_⟩
        refine ⟨_, rfl, _, rfl, log_small (show j ≤ 60 by omega), ?_⟩
        refine ⟨_, _, rfl, rfl, Nat.le_trans hlen (by decide), .now ?_⟩
        refine q _ (ds ++ [j]) _ e11 tz1 (by simp; omega) ?_
        have hle := (hre.step oc (show j ≤ c.top by omega)).le oc D
        rw [dvl] at vl1
        unfold W2.vl at vl1
        unfold Mt.pr
        omega
      · walk_at "w"
        refine ⟨fd, g, es', kP (c.nx p j), rfl, rfl, ⟨.of k.d, k.pk.ko⟩, hg.key, kP_dp _, ?_⟩
        have heq : c.gn p j = 0 := by
          by_cases h : c.gn p j = 0
          · exact h
          · rw [show decide (V.int (c.gn p j) = V.int 0) = false from dF fun z => h (V.int.inj z)] at heq
            cases heq
        walk_at "w"
        cases hk : lookE es' (kP (c.nx p j)) with
        | some v1 =>
          refine iF rfl ?_
          exact ⟨_, _, _, es', as2, rfl, e11, p11, k, hz, hm, hdl⟩
        | none =>
          refine iT rfl ?_
          have rg : RP c (c.nx p j) := .step rp (by omega)
          have hms := mis2_lt (b := g) (v := V.str (z ++ txt j)) (mem_grid (rg.bd oc)) hk
          refine ⟨_, rfl, _, rfl, fd, a, es', kP p, _, rfl, rfl, ⟨.of k.d, k.pk.ko⟩, hp11.key, kP_dp _, hz, ?_⟩
          refine ⟨_, rfl, _, rfl, log_small (show j ≤ 60 by omega), ?_⟩
          refine ⟨_, _, rfl, rfl, Nat.le_trans hlen (by decide), ?_⟩
          refine ⟨_, rfl, _, rfl, fd, g, es', kP (c.nx p j), rfl, rfl, k.d, k.pk.ko, hg.key, kP_dp _, szL (by omega), .now ?_⟩
          have pA : Px H'' (upd H'' fd (dNo P w fd (putE es' (kP (c.nx p j)) g (.str (z ++ txt j))))) := Px.mut k.d dNo_imm
          have dA : upd H'' fd (dNo P w fd (putE es' (kP (c.nx p j)) g (.str (z ++ txt j)))) fd = some (dNo P w fd (putE es' (kP (c.nx p j)) g (.str (z ++ txt j)))) := upd_same
          have lA : upd H'' fd (dNo P w fd (putE es' (kP (c.nx p j)) g (.str (z ++ txt j)))) la = some (.lst (as2.map V.ref)) := by rw [upd_ne nl]; exact k.ln
          have eA2 : Same H (upd H'' fd (dNo P w fd (putE es' (kP (c.nx p j)) g (.str (z ++ txt j))))) := same_mut e11 hfd
          have pkA := (k.pk.put (v := .str (z ++ txt j)) hg rg).px pA
          show tDrop _ _ _ (upd H'' fd (dNo P w fd (putE es' (kP (c.nx p j)) g (.str (z ++ txt j)))))
          generalize upd H'' fd (dNo P w fd (putE es' (kP (c.nx p j)) g (.str (z ++ txt j)))) = HA at pA dA lA eA2 pkA ⊢
          have pB : Px HA (upd HA la (.lst (as2.map V.ref ++ [.ref g]))) := Px.mut lA (fun z => z)
          refine ⟨_, rfl, .inl ⟨rfl, _, sqL_of lA⟩, ?_⟩
          refine ⟨_, rfl, la, _, _, rfl, rfl, lA, szL (by have := k.s2; simp; omega), ?_⟩
          have hpl := put_none (b := g) (v := V.str (z ++ txt j)) hk
          have npg : c.nx p j ≠ p := fun h => by rw [h, hz] at hk; cases hk
          refine ⟨_, _, _, putE es' (kP (c.nx p j)) g (.str (z ++ txt j)), as2 ++ [g], rfl, same_mut eA2 frl, p11.trans (pA.trans pB), ⟨by rw [upd_ne nl.symm]; exact dA, pkA.px pB, by rw [upd_same, List.map_append]; rfl, fun b hb => ?_, fun p' v h => ?_, by omega, by rw [List.length_append, List.length_singleton]; have := k.s2; omega⟩, by rw [lookP_put, if_neg npg]; exact hz, by rw [List.length_append, List.length_singleton]; omega, by omega⟩
          · rcases List.mem_append.mp hb with hb | hb
            · obtain ⟨p', h4, h5⟩ := k.st b hb
              exact ⟨p', (h4.px pA).px pB, h5.put⟩
            · rw [List.mem_singleton.mp hb]
              exact ⟨_, (hg.px pA).px pB, InP.put1⟩
          · rw [lookP_put] at h
            by_cases e : c.nx p j = p'
            · rw [if_pos e] at h
              cases h
              refine ⟨_, ds ++ [j], rfl, tz1, fun u hu => ?_, by rw [st1]; exact e, by rw [vl1, dvl, heq]; rfl, by rw [List.length_append, List.length_singleton]; omega⟩
              rcases List.mem_append.mp hu with h | h
              · exact dt u h
              · rw [List.mem_singleton.mp h]
                omega
            · rw [if_neg e] at h
              obtain ⟨z2, ds2, h4, h5, h6, h7, h8, h9⟩ := k.ok p' v h
              exact ⟨z2, ds2, h4, h5, h6, h7, h8, by omega⟩
    · rintro σ H11 ⟨s6, s7, s8, es', as2, rfl, e11, p11, k, hz, hm, hdl⟩
      refine ⟨⟨_, (hLs.px p11).sq, by omega⟩, ?_⟩
      exact ⟨2 * mis2 es' + as2.length, by simp; omega, _, _, _, _, es', as2, rfl, rfl, e11, k⟩
end Cab
set_option Elab.async false
set_option linter.all false
set_option maxRecDepth 100000
set_option maxHeartbeats 2000000
namespace Cab
open PySem PySem.Spec PyProof.Rows L2
/-! ### splits, in plain -/
def Mt.co (M : Mt) (ds : List Nat) (i j : Nat) : Int := M.pr (M.cnt ((ds.drop i).take (j - i)))
structure IsB (M : Mt) (ds : List Nat) (n : Nat) (f : Nat → Int) : Prop where
  z : f 0 = 0
  ex : ∀ e, 0 < e → e ≤ n → ∃ b, b < e ∧ f e = f b + M.co ds b e
  le : ∀ e b, e ≤ n → b < e → f e ≤ f b + M.co ds b e
theorem Dear.co {M1 M2 : Mt} (D : Dear M1 M2) (o1 : M1.Ok) (o2 : M2.Ok) (ds : List Nat) (i j : Nat) : M1.co ds i j ≤ M2.co ds i j := D.pr o1 o2 (D.cnt _)
theorem IsB.mono {M1 M2 : Mt} (D : Dear M1 M2) (o1 : M1.Ok) (o2 : M2.Ok) {ds : List Nat} {n : Nat} {f g : Nat → Int} (hf : IsB M1 ds n f) (hg : IsB M2 ds n g) : ∀ e, e ≤ n → f e ≤ g e := by
  intro e
  induction e using Nat.strongRecOn with
  | _ e ih =>
    intro he
    by_cases h0 : e = 0
    · rw [h0, hf.z, hg.z]
      exact Int.le_refl 0
    · obtain ⟨b, hb, h⟩ := hg.ex e (by omega) he
      have h1 := ih b hb (by omega)
      have h2 := hf.le e b he hb
      have h3 := D.co o1 o2 ds b e
      omega
/-- the price of the parts between the marks -/
def Mt.sp (M : Mt) (ds : List Nat) : List Nat → Int
  | a :: b :: r => M.co ds a b + M.sp ds (b :: r)
  | _ => 0
theorem sp_mono {M1 M2 : Mt} (D : Dear M1 M2) (o1 : M1.Ok) (o2 : M2.Ok) (ds : List Nat) : ∀ ms : List Nat, M1.sp ds ms ≤ M2.sp ds ms
  | [] => Int.le_refl 0
  | [_] => Int.le_refl 0
  | a :: b :: r => by
    have h1 := D.co o1 o2 ds a b
    have h2 := sp_mono D o1 o2 ds (b :: r)
    unfold Mt.sp
    omega
theorem IsB.sp {M : Mt} {ds : List Nat} {n : Nat} {f : Nat → Int} (h : IsB M ds n f) : ∀ (ms : List Nat) (a z : Nat), (a :: ms).Pairwise (· < ·) → (∀ m ∈ a :: ms, m ≤ n) → (a :: ms).getLast? = some z → f z ≤ f a + M.sp ds (a :: ms)
  | [], a, z, _, _, e => by
    cases e
    show f a ≤ f a + 0
    omega
  | b :: r, a, z, hp, hn, e => by
    have hab : a < b := (List.pairwise_cons.mp hp).1 b List.mem_cons_self
    have ih := IsB.sp h r b z (List.pairwise_cons.mp hp).2 (fun m hm => hn m (List.mem_cons_of_mem _ hm)) (by rw [List.getLast?_cons_cons] at e; exact e)
    have := h.le b a (hn b (List.mem_cons_of_mem _ List.mem_cons_self)) hab
    show f z ≤ f a + (M.co ds a b + M.sp ds (b :: r))
    omega
/-- the least of data pairs -/
theorem minOf_fst (x : Int × List Int) : ∀ (xs : List (Int × List Int)) (y : Int × List Int), y ∈ x :: xs → (PySem.W.minOf x xs).1 ≤ y.1 := by
  intro xs
  induction xs generalizing x with
  | nil =>
    intro y hy
    rw [List.mem_singleton.mp hy]
    exact Int.le_refl _
  | cons a r ih =>
    intro y hy
    show (PySem.W.minOf (if PySem.W.DatumOrd.lt a x = true then a else x) r).1 ≤ y.1
    have key : (if PySem.W.DatumOrd.lt a x = true then a else x).1 ≤ a.1 ∧ (if PySem.W.DatumOrd.lt a x = true then a else x).1 ≤ x.1 := by
      by_cases h : PySem.W.DatumOrd.lt a x = true
      · rw [if_pos h]
        refine ⟨Int.le_refl _, ?_⟩
        have h2 : (if a.1 = x.1 then PySem.W.DatumOrd.lt a.2 x.2 else decide (a.1 < x.1)) = true := h
        by_cases e : a.1 = x.1
        · rw [e]; exact Int.le_refl _
        · rw [if_neg e] at h2
          exact Int.le_of_lt (of_decide_eq_true h2)
      · rw [if_neg h]
        refine ⟨?_, Int.le_refl _⟩
        have h2 : ¬ (if a.1 = x.1 then PySem.W.DatumOrd.lt a.2 x.2 else decide (a.1 < x.1)) = true := h
        by_cases e : a.1 = x.1
        · rw [e]; exact Int.le_refl _
        · rw [if_neg e, decide_eq_true_eq] at h2
          omega
    have h0 := ih (if PySem.W.DatumOrd.lt a x = true then a else x) _ List.mem_cons_self
    rcases List.mem_cons.mp hy with e | hy
    · rw [e]
      omega
    · rcases List.mem_cons.mp hy with e | hy
      · rw [e]
        omega
      · exact ih _ y (List.mem_cons_of_mem _ hy)
end Cab
set_option Elab.async false
set_option linter.all false
set_option maxRecDepth 100000
set_option maxHeartbeats 2000000
set_option pp.maxSteps 1500
namespace Cab
open PySem PySem.Spec PyProof.Rows L2

local macro_rules | `(tactic| walk_at "w") => `(tactic| repeat (first | refine Gh.now ?_ | refine ⟨_, rfl, ?_⟩ | refine ⟨_, _, rfl, rfl, ?_⟩ | refine ⟨rfl, ?_⟩))
local macro_rules | `(tactic| walk_at "g") => `(tactic| repeat (first | refine ⟨_, _, rfl, rfl, ?_⟩ | refine ⟨_, _, rfl, ?_⟩ | refine ⟨rfl, ?_⟩ | refine Gh.now ?_ | refine ⟨_, rfl, ?_⟩))
local macro_rules | `(tactic| walk_at "len") => `(tactic| first | (intro hh; obtain ⟨e, _⟩ := hh; exact congrArg List.length e) | (intro hh; obtain ⟨_, e, _⟩ := hh; exact congrArg List.length e) | (intro hh; obtain ⟨_, _, e, _⟩ := hh; exact congrArg List.length e) | (intro hh; obtain ⟨_, _, _, e, _⟩ := hh; exact congrArg List.length e) | (intro hh; obtain ⟨_, _, _, _, e, _⟩ := hh; exact congrArg List.length e) | (intro hh; obtain ⟨_, _, _, _, _, e, _⟩ := hh; exact congrArg List.length e) | (intro hh; obtain ⟨_, _, _, _, _, _, e, _⟩ := hh; exact congrArg List.length e) | (intro hh; obtain ⟨_, _, _, _, _, _, _, e, _⟩ := hh; exact congrArg List.length e) | (intro hh; obtain ⟨_, _, _, _, _, _, _, _, e, _⟩ := hh; exact congrArg List.length e) | (intro hh; obtain ⟨_, _, _, _, _, _, _, _, _, e, _⟩ := hh; exact congrArg List.length e) | (intro hh; obtain ⟨_, _, _, _, _, _, _, _, _, _, e, _⟩ := hh; exact congrArg List.length e) | (intro hh; obtain ⟨_, _, _, _, _, _, _, _, _, _, _, e, _⟩ := hh; exact congrArg List.length e) | (intro hh; obtain ⟨_, _, _, _, _, _, _, _, _, _, _, _, e, _⟩ := hh; exact congrArg List.length e))
variable {P : Program} {w : World} {K : PySem.W.Frag} {mg : Str → Option Value} {base : Heap}

/-- a call of an instance whose class has a def for it -/
def tCo (C : Addr) (p : Pr) (tf : TE) (t : TA) : TE := fun σ H Q => tf σ H fun y H1 => ∃ a, y = .ref a ∧ t σ H1 fun vs H2 => (∃ dx fs, H2 a = some (.ins C dx fs)) ∧ p (.ref a :: vs) H2 Q
theorem pe_CoK {X : Cx} {k : Nat} {g C : Addr} {p : Pr} {e fe : Expr} {es : List Expr} {tf : TE} {t : TA} {pos : Pos} (F : Fn X.prog X.w X.K X.mg X.base k g p) (hr : Room k X.A) (c : StX.CallO X.K C g) (hf : PE X fe tf) (ha : PA X (e :: es) t)
    (ht : eval (.Call fe (e :: es) [] pos) X.env = (do callWith pos (← eval fe X.env) [] (backTo pos (starEach (e :: es) X.env)) (backToKw pos (keywordEach [] X.env))) := by rfl)
    (he : starEach (e :: es) X.env = (false, eval e X.env) :: starEach es X.env := by rfl) (hpl : (backTo pos (starEach es X.env)).any (·.1) = false := by rfl) : PE X (.Call fe (e :: es) [] pos) (tCo C p tf t) := by
  refine ⟨fun pins s σ H Q I h => ?_⟩
  refine Call_ (thn (hf.run pins s σ H _ I h) fun u s1 ⟨y, H1, I1, ry, a, ey, q⟩ => ?_) ht
  subst ey
  obtain rfl : u = Value.ref a := ry
  refine StX.callO_with (thn (ha.run pos pins s1 σ H1 _ I1 q) fun us s2 ⟨vs, H2, I2, r, hi, q2⟩ => ?_) he hpl
  have hi' : StX.InsC X H2 a C := .inr hi
  obtain ⟨ox, od, J, hd⟩ := StX.insC_at I2 hi'
  exact ⟨⟨C, ox, od, J, hd⟩, StX.run_callO (E := E0) c F hr (fun _ _ _ _ _ _ _ z => z.elim) I2 hi' r q2⟩
theorem sIx_nat {n d i : Nat} (h : i ≤ n) : HT.sIx n d (some (i : Int)) = i := by
  show (if (i : Int) < 0 then ((i : Int) + (n : Int)).toNat else min (i : Int).toNat n) = i
  rw [if_neg (by omega), Int.toNat_natCast]
  exact Nat.min_eq_left h
theorem cut_ds {z : Str} {ds : List Nat} (h : Tz z ds) (i j : Nat) (hj : j ≤ ds.length) (hi : i ≤ j) : Tz (cutS z (some (i : Int)) (some (j : Int))) ((ds.drop i).take (j - i)) := by
  refine ⟨?_, fun v hv => h.2 v (List.mem_of_mem_drop (List.mem_of_mem_take hv))⟩
  have e1 : HT.sIx z.length 0 (some (i : Int)) = i := sIx_nat (by rw [h.len]; omega)
  have e2 : HT.sIx z.length z.length (some (j : Int)) = j := sIx_nat (by rw [h.len]; omega)
  show ((z.cps.toList.drop _).take _) = _
  rw [e1, e2, h.1, ← List.map_drop, ← List.map_take]
theorem cut_tail {z : Str} {ds : List Nat} (h : Tz z ds) (i : Nat) (hi : i ≤ ds.length) : Tz (cutS z (some (i : Int)) none) (ds.drop i) := by
  refine ⟨?_, fun v hv => h.2 v (List.mem_of_mem_drop hv)⟩
  have e1 : HT.sIx z.length 0 (some (i : Int)) = i := sIx_nat (by rw [h.len]; omega)
  show ((z.cps.toList.drop _).take (z.length - _)) = _
  rw [e1, h.1, h.len, ← List.map_drop]
  exact List.take_of_length_le (by simp)
def pr_is_split (P : Program) (w : World) (K : PySem.W.Frag) : Pr := fun vs H Q => ∃ (a : Addr) (z : Str) (ts : List Nat), vs = [.str z, .ref a] ∧ z.length ≤ 2000 ∧ Ls H a (ts.map fun t : Nat => V.int t) ∧ ts.length ≤ 2000 ∧ (∀ t ∈ ts, 1 ≤ t ∧ t < z.length) ∧ ts.Pairwise (· < ·) ∧ ∀ H', Same H H' → Q (.bl true) H'
theorem ok_is_split (T : Wd K mg base) : Fn P w K mg base 3 (He.ga K "is_split") (pr_is_split P w K) := by
  obtain ⟨fd, F0⟩ := T.fdef 24 (d := d_is_split)
  have F : FunD K "is_split" "is_split" (defArgs s_is_split) (defBody s_is_split) (defScope s_is_split) [] [] (He.ga K "is_split") fd := F0
  refine fn_mk (N := N_is_split) (ps := ["trip", "ticks"]) F sc_is_split (fun kV doc pm an cdv ct us hl => match us, hl with | [u0, u1], _ => rfl) (fun vs H Q => by walk_at "len") fun cdv A outer s H vs Q E hr h => ?_
  refine ⟨_, (pss_cons (ps_if (PW.pt (pw_or (pt_not (pt_val (pe_callB call_isi (by rfl) T.f_isinstance (by decide +kernel) (pa_cons (pv 1) (pa_cons (pe_bltn (v := .ty "list") (u := .type "list") (by rfl) T.f_list (by decide +kernel) rfl) pa_nil))))) (pw_or1 (pt_not (pt_val (pe_callB (cr_all rfl) (by rfl) T.f_all (by decide +kernel) (pa_cons (pe_lc (own := [("tick", 3)]) rfl sc_is_split.nd (pi_listK (K := K) (pv 1)) (blkOk_by (own := [("tick", 3)]) (N := N_is_split) (sc := defScope s_is_split) (by decide +kernel)) (fun _ _ _ _ _ => (pg_name (i := 3) sc_is_split.nd rfl (Or.inl rfl))) (fun _ _ _ _ _ => pts_nil) (fun _ _ _ _ _ => (pe_R (ok_is_between T) (hr.mono (by decide)) T.g_is_between T.k_is_between (pa_cons (pv 3) (pa_cons pe_int (pa_cons (pe_op op_sub (pe_callB call_len_str (by rfl) T.f_len (by decide +kernel) (pa_cons (pv 0) pa_nil)) pe_int) pa_nil)))))) pa_nil))))))) (pss_one (ps_ret (pe_gh pe_bl))) pss_nil) (pss_one (ps_ret (pe_gh (pe_callB (cr_all rfl) (by rfl) T.f_all (by decide +kernel) (pa_cons (pe_lc (own := [("place", 2)]) rfl sc_is_split.nd (pi_range1 rfl T.f_range (pa_cons (pe_op op_sub (pe_callB (call_lenK (K := K)) (by rfl) T.f_len (by decide +kernel) (pa_cons (pv 1) pa_nil)) pe_int) pa_nil)) (blkOk_by (own := [("place", 2)]) (N := N_is_split) (sc := defScope s_is_split) (by decide +kernel)) (fun _ _ _ _ _ => (pg_name (i := 2) sc_is_split.nd rfl (Or.inl rfl))) (fun _ _ _ _ _ => pts_nil) (fun _ _ _ _ _ => (pe_cmpR op_lt (pe_ix (ix_list : IxR _ (rIxL K)) (pv 1) (pv 2) (fun _ _ => rfl)) (pe_ix (ix_list : IxR _ (rIxL K)) (pv 1) (pe_op op_add (pv 2) pe_int) (fun _ _ => rfl)) (nomark _)))) pa_nil)))))), ?_⟩
  obtain ⟨a, z, ts, rfl, hz, ha, hl, ht, hp, q⟩ := h
  obtain ⟨oa, hoa⟩ := ha.ex
  walk_at "w"
  refine ⟨_, _, _, _, _, rfl, .ty _, .base (.frz hoa), rfl, ?_⟩
  walk_at "w"
  refine ⟨⟨_, ha.sq⟩, fun D hD => ?_⟩
  refine lc_map ((List.replicate ts.length true).map V.bl) hD (fun i H' hi c => ?_) fun H1 e1 hq => ⟨⟨_, (ha.px (.of _ _ e1)).sq, by simp⟩, ?_⟩
  · have hi' : i < ts.length := by simpa using hi
    refine ⟨itl_go (ha.px c.px).sq (by simpa using hi'), fun x H'' hx => ?_⟩
    obtain ⟨rfl, hx⟩ := hx
    have hx := hx _ (ha.px c.px).sq
    rw [List.getElem?_map, List.getElem?_eq_getElem hi'] at hx
    obtain rfl : V.int (ts[i] : Nat) = x := Option.some.inj hx
    have h1 := ht _ (List.getElem_mem hi')
    refine ⟨rfl, ?_⟩
    walk_at "w"
    refine ⟨szl (by omega), ?_⟩
    walk_at "w"
    refine ⟨_, _, _, rfl, by omega, by omega, ?_⟩
    exact CR.fin Rz.mono c (by omega) (Same.refl _) (rz_rep hi')
  walk_at "w"
  refine ⟨_, _, rfl, sqL_of hq, ?_⟩
  walk_at "w"
  rw [allB]
  refine iF rfl ?_
  walk_at "w"
  refine ⟨_, _, rfl, .inl (ha.px (.of _ _ e1)).sq, ?_⟩
  walk_at "w"
  have e62 : (2 : Int) ^ 62 = 4611686018427387904 := by decide
  refine ⟨by rw [e62, List.length_map]; omega, by rw [e62, List.length_map]; omega, fun D2 hD2 => ?_⟩
  have hn : ((((ts.map fun t : Nat => V.int t).length : Nat) : Int) - 1).toNat = ts.length - 1 := by rw [List.length_map]; omega
  rw [hn]
  have ha1 := ha.px (.of _ _ e1)
  refine lc_map ((List.replicate (ts.length - 1) true).map V.bl) hD2 (fun i H' hi c => ?_) fun H2 e2 hq2 => ⟨by simp [Itr]; omega, ?_⟩
  · have hi' : i < ts.length - 1 := by simpa using hi
    refine ⟨hi', fun x H'' hx => ?_⟩
    obtain ⟨rfl, rfl⟩ := hx
    rw [Int.zero_add]
    have ha2 := ha1.px c.px
    refine ⟨rfl, ?_⟩
    walk_at "w"
    refine ⟨_, _, _, _, rfl, rfl, ha2.sq, atI_nat (by rw [List.getElem?_map, List.getElem?_eq_getElem (show i < ts.length by omega)]; rfl), ?_⟩
    walk_at "w"
    refine ⟨_, _, _, _, rfl, rfl, ha2.sq, atI_nat (i := i + 1) (by rw [List.getElem?_map, List.getElem?_eq_getElem (show i + 1 < ts.length by omega)]; rfl), ?_⟩
    have hlt : ts[i] < ts[i + 1] := (List.pairwise_iff_getElem.mp hp) i (i + 1) (by omega) (by omega) (by omega)
    refine ⟨_, _, rfl, rfl, ?_⟩
    refine CR.fin Rz.mono c (by omega) (Same.refl _) ?_
    show Rz _ i (.bl (decide ((ts[i] : Int) < (ts[i + 1] : Int)))) _
    rw [dT (by omega)]
    exact rz_rep hi'
  walk_at "w"
  refine ⟨_, _, rfl, sqL_of hq2, .now ?_⟩
  exact qv_eq (congrArg V.bl (allB _)) (q _ (e1.trans e2))
theorem sum_map (M : Mt) (ds : List Nat) : ∀ ms : List Nat, M.sp ds ms = ((List.range (ms.length - 1)).map fun i => M.co ds (ms.getD i 0) (ms.getD (i + 1) 0)).sum
  | [] => rfl
  | [_] => rfl
  | a :: b :: r => by
    have ih := sum_map M ds (b :: r)
    show M.co ds a b + M.sp ds (b :: r) = _
    rw [ih]
    simp only [List.length_cons, Nat.add_sub_cancel]
    rw [List.range_succ_eq_map, List.map_cons, List.sum_cons, List.map_map]
    rfl
def pr_split_price (P : Program) (w : World) (K : PySem.W.Frag) : Pr := fun vs H Q => ∃ (m ad a : Addr) (M : Mt) (z : Str) (ds ts : List Nat), vs = [.ref m, .str z, .ref a] ∧ MetI K H m M ad ∧ Tz z ds ∧ ds.length ≤ 1000 ∧ Ls H a (ts.map fun t : Nat => V.int t) ∧ ts.length ≤ 1000 ∧ (∀ t ∈ ts, 1 ≤ t ∧ t < ds.length) ∧ ts.Pairwise (· < ·) ∧
  ∀ H', Same H H' → Q (.int (M.sp ds (0 :: ts ++ [ds.length]))) H'
theorem ok_split_price (T : Wd K mg base) : Fn P w K mg base 10 (He.ga K "split_price") (pr_split_price P w K) := by
  obtain ⟨fd, F0⟩ := T.fdef 25 (d := d_split_price)
  have F : FunD K "split_price" "split_price" (defArgs s_split_price) (defBody s_split_price) (defScope s_split_price) [] [] (He.ga K "split_price") fd := F0
  refine fn_mk (N := N_split_price) (ps := ["meter", "trip", "ticks"]) F sc_split_price (fun kV doc pm an cdv ct us hl => match us, hl with | [u0, u1, u2], _ => rfl) (fun vs H Q => by walk_at "len") fun cdv A outer s H vs Q E hr h => ?_
  refine ⟨_, (pss_cons (ps_expr (pe_R (ok_check_trip T) (hr.mono (by decide)) T.g_check_trip T.k_check_trip (pa_cons (pv 1) pa_nil))) (pss_cons (ps_if (pt_not (pt_val (pe_R (ok_is_split T) (hr.mono (by decide)) T.g_is_split T.k_is_split (pa_cons (pv 1) (pa_cons (pv 2) pa_nil))))) (pss_one ps_never) pss_nil) (pss_gcons (ps_set (i := 3) sc_split_price.nd rfl (Or.inr rfl) (pe_lst (pa_cons pe_int (StX.pa_star (pv 2) (pa_cons (pe_callB call_len_str (by rfl) T.f_len (by decide +kernel) (pa_cons (pv 1) pa_nil)) pa_nil))))) (pss_one (ps_ret (pe_gh (pe_callB (cr_sum rfl) (by rfl) T.f_sum (by decide +kernel) (pa_cons (pe_lc (own := [("place", 4)]) rfl sc_split_price.nd (pi_range1 rfl T.f_range (pa_cons (pe_op op_sub (pe_callB (call_lenK (K := K)) (by rfl) T.f_len (by decide +kernel) (pa_cons (pv 3) pa_nil)) pe_int) pa_nil)) (blkOk_by (own := [("place", 4)]) (N := N_split_price) (sc := defScope s_split_price) (by decide +kernel)) (fun _ _ _ _ _ => (pg_name (i := 4) sc_split_price.nd rfl (Or.inl rfl))) (fun _ _ _ _ _ => pts_nil) (fun _ _ _ _ _ => (pe_CoK (ok_Meter_call T) (hr.mono (by decide)) T.co_Meter (pv 0) (pa_cons (pe_slice sl_str (pv 1) (po_some (pe_ix (ix_list : IxR _ (rIxL K)) (pv 3) (pv 4) (fun _ _ => rfl))) (po_some (pe_ix (ix_list : IxR _ (rIxL K)) (pv 3) (pe_op op_add (pv 4) pe_int) (fun _ _ => rfl)))) pa_nil)))) pa_nil)))))))), ?_⟩
  obtain ⟨m, ad, a, M, z, ds, ts, rfl, hm, tz, hl, ha, htl, ht, hp, q⟩ := h
  have hz := tz.len
  obtain ⟨o, dx, an, a2, a3, tb, h1, _⟩ := id hm
  walk_at "w"
  refine ⟨tz.dig (by omega), fun H1 e1 => ?_⟩
  walk_at "w"
  refine ⟨a, z, ts, rfl, by omega, ha.px (.of _ _ e1), by omega, fun t h => by have := ht t h; omega, hp, fun H2 e2 => ?_⟩
  have e12 := e1.trans e2
  walk_at "w"
  refine ⟨a, _, rfl, .inr (ha.px (.of _ _ e12)).sq, ?_⟩
  walk_at "w"
  refine ⟨szl (by omega), ?_⟩
  have em : (V.int 0 :: ((ts.map fun t : Nat => V.int t) ++ [V.int (z.length : Int)])) = (0 :: ts ++ [ds.length]).map fun t : Nat => V.int t := by rw [hz]; simp
  refine ⟨by simp; exact Nat.le_trans (by omega : ts.length + 1 + 1 ≤ 2000) (by decide), fun mk hmk => .now ?_⟩
  have e3 : Same H2 (upd H2 mk (.lst (V.int 0 :: ((ts.map fun t : Nat => V.int t) ++ [V.int (z.length : Int)])))) := same_new hmk
  have hM : upd H2 mk (.lst (V.int 0 :: ((ts.map fun t : Nat => V.int t) ++ [V.int (z.length : Int)]))) mk = some (.lst ((0 :: ts ++ [ds.length]).map fun t : Nat => V.int t)) := by rw [upd_same, em]
  have hmlen : (0 :: ts ++ [ds.length]).length = ts.length + 2 := by simp
  have hsum := sum_map M ds (0 :: ts ++ [ds.length])
  have hpw : ∀ i, i + 1 < ts.length + 2 → (0 :: ts ++ [ds.length]).getD i 0 ≤ (0 :: ts ++ [ds.length]).getD (i + 1) 0 ∧ (0 :: ts ++ [ds.length]).getD (i + 1) 0 ≤ ds.length := by
    intro i hi
    have hq : (0 :: ts ++ [ds.length]).Pairwise (· ≤ ·) := by
      refine List.pairwise_append.mpr ⟨List.pairwise_cons.mpr ⟨fun a _ => Nat.zero_le a, hp.imp fun h => Nat.le_of_lt h⟩, List.pairwise_singleton _ _, fun a ha b hb => ?_⟩
      rw [List.mem_singleton.mp hb]
      rcases List.mem_cons.mp ha with e | e
      · omega
      · have := ht a e; omega
    rw [List.getD_eq_getElem?_getD, List.getD_eq_getElem?_getD, List.getElem?_eq_getElem (by omega), List.getElem?_eq_getElem (by omega)]
    refine ⟨(List.pairwise_iff_getElem.mp hq) i (i + 1) (by omega) (by omega) (by omega), ?_⟩
    have hm := List.getElem_mem (l := 0 :: ts ++ [ds.length]) (n := i + 1) (by omega)
    generalize (0 :: ts ++ [ds.length])[i + 1] = b at hm
    rcases List.mem_append.mp hm with e | e
    · rcases List.mem_cons.mp e with e | e
      · simp [e]
      · have := ht b e; simp; omega
    · rw [List.mem_singleton.mp e]; simp
  generalize (0 :: ts ++ [ds.length]) = ms at hM hmlen hsum hpw q
  show tRet _ _ _ (upd H2 mk (.lst (V.int 0 :: ((ts.map fun t : Nat => V.int t) ++ [V.int (z.length : Int)]))))
  generalize upd H2 mk (.lst (V.int 0 :: ((ts.map fun t : Nat => V.int t) ++ [V.int (z.length : Int)]))) = H3 at e3 hM ⊢
  have e13 := e12.trans e3
  walk_at "w"
  refine ⟨_, _, rfl, .inl (sqL_of hM), ?_⟩
  walk_at "w"
  have e62 : (2 : Int) ^ 62 = 4611686018427387904 := by decide
  refine ⟨by rw [e62, List.length_map]; omega, by rw [e62, List.length_map]; omega, fun D2 hD2 => ?_⟩
  have hn : ((((ms.map fun t : Nat => V.int t).length : Nat) : Int) - 1).toNat = ms.length - 1 := by rw [List.length_map]; omega
  rw [hn]
  refine lc_map (((List.range (ms.length - 1)).map fun i => M.co ds (ms.getD i 0) (ms.getD (i + 1) 0)).map V.int) hD2 (fun i H' hi c => ?_) fun H4 e4 hq2 => ⟨by simp [Itr]; omega, ?_⟩
  · have hi' : i < ms.length - 1 := by simpa using hi
    refine ⟨hi', fun x H'' hx => ?_⟩
    obtain ⟨rfl, rfl⟩ := hx
    rw [Int.zero_add]
    have hM2 := c.same _ _ hM
    have pc := e13.trans c.same
    obtain ⟨g1, g2⟩ := hpw i (by omega)
    have x1 : atI (ms.map fun t : Nat => V.int t) (i : Int) = some (.int (ms.getD i 0 : Nat)) := atI_nat (by rw [List.getElem?_map, List.getElem?_eq_getElem (show i < ms.length by omega), List.getD_eq_getElem?_getD, List.getElem?_eq_getElem (show i < ms.length by omega)]; rfl)
    have x2 : atI (ms.map fun t : Nat => V.int t) ((i + 1 : Nat) : Int) = some (.int (ms.getD (i + 1) 0 : Nat)) := atI_nat (by rw [List.getElem?_map, List.getElem?_eq_getElem (show i + 1 < ms.length by omega), List.getD_eq_getElem?_getD, List.getElem?_eq_getElem (show i + 1 < ms.length by omega)]; rfl)
    refine ⟨rfl, ?_⟩
    walk_at "w"
    refine ⟨_, _, _, _, rfl, rfl, sqL_of hM2, x1, ?_⟩
    walk_at "w"
    refine ⟨_, _, _, _, rfl, rfl, sqL_of hM2, x2, ?_⟩
    have tc := cut_ds tz (ms.getD i 0) (ms.getD (i + 1) 0) g2 g1
    refine ⟨_, rfl, _, rfl, szl (by omega), ?_⟩
    refine ⟨⟨_, _, pc _ _ h1⟩, m, ad, M, _, rfl, hm.px (.of _ _ pc), tc.dig (by simp; omega), fun H5 e5 => ?_⟩
    refine CR.fin Rz.mono c (by omega) e5 ?_
    rw [tc.dgs]
    simp [Rz, hi', Mt.co]
  walk_at "w"
  refine ⟨_, _, rfl, sqL_of hq2, .now ?_⟩
  exact qv_eq (congrArg V.int hsum.symm) (q _ (e13.trans e4))
end Cab
set_option Elab.async false
set_option linter.all false
set_option maxRecDepth 100000
set_option maxHeartbeats 2000000
set_option pp.maxSteps 1500
namespace Cab
open PySem PySem.Spec PyProof.Rows L2

local macro_rules | `(tactic| walk_at "w") => `(tactic| repeat (first | refine Gh.now ?_ | refine ⟨_, rfl, ?_⟩ | refine ⟨_, _, rfl, rfl, ?_⟩ | refine ⟨rfl, ?_⟩))
local macro_rules | `(tactic| walk_at "g") => `(tactic| repeat (first | refine ⟨_, _, rfl, rfl, ?_⟩ | refine ⟨_, _, rfl, ?_⟩ | refine ⟨rfl, ?_⟩ | refine Gh.now ?_ | refine ⟨_, rfl, ?_⟩))
local macro_rules | `(tactic| walk_at "len") => `(tactic| first | (intro hh; obtain ⟨e, _⟩ := hh; exact congrArg List.length e) | (intro hh; obtain ⟨_, e, _⟩ := hh; exact congrArg List.length e) | (intro hh; obtain ⟨_, _, e, _⟩ := hh; exact congrArg List.length e) | (intro hh; obtain ⟨_, _, _, e, _⟩ := hh; exact congrArg List.length e) | (intro hh; obtain ⟨_, _, _, _, e, _⟩ := hh; exact congrArg List.length e) | (intro hh; obtain ⟨_, _, _, _, _, e, _⟩ := hh; exact congrArg List.length e) | (intro hh; obtain ⟨_, _, _, _, _, _, e, _⟩ := hh; exact congrArg List.length e) | (intro hh; obtain ⟨_, _, _, _, _, _, _, e, _⟩ := hh; exact congrArg List.length e) | (intro hh; obtain ⟨_, _, _, _, _, _, _, _, e, _⟩ := hh; exact congrArg List.length e) | (intro hh; obtain ⟨_, _, _, _, _, _, _, _, _, e, _⟩ := hh; exact congrArg List.length e) | (intro hh; obtain ⟨_, _, _, _, _, _, _, _, _, _, e, _⟩ := hh; exact congrArg List.length e) | (intro hh; obtain ⟨_, _, _, _, _, _, _, _, _, _, _, e, _⟩ := hh; exact congrArg List.length e) | (intro hh; obtain ⟨_, _, _, _, _, _, _, _, _, _, _, _, e, _⟩ := hh; exact congrArg List.length e))
variable {P : Program} {w : World} {K : PySem.W.Frag} {mg : Str → Option Value} {base : Heap}

theorem valV_at : ∀ (kvs : List (Key × V)) (o b : Nat) (v : V), (∀ (i : Nat) (kv : Key × V), kvs[i]? = some kv → kv.1 = .inl ((o + i : Nat) : Int)) → kvs[b]? = some (.inl ((o + b : Nat) : Int), v) → valV kvs (.inl ((o + b : Nat) : Int)) = some v
  | [], _, _, _, _, h => by simp at h
  | kv :: r, o, b, v, hk, h => by
    have h0 := hk 0 kv rfl
    cases b with
    | zero =>
      cases h
      exact valV_pos rfl
    | succ b =>
      have ne : kv.1 ≠ .inl ((o + (b + 1) : Nat) : Int) := fun z => by
        rw [h0] at z
        have := Sum.inl.inj z
        omega
      rw [valV_neg ne]
      have ih := valV_at r (o + 1) b v (fun i kv' hi => by
        have := hk (i + 1) kv' (by simpa using hi)
        rw [this]
        congr 1
        omega) (by rw [show o + 1 + b = o + (b + 1) by omega]; simpa using h)
      rw [show o + 1 + b = o + (b + 1) by omega] at ih
      exact ih
/-- the best so far -/
def BestK (H : Hp) (f : Nat → Int) (kvs : List (Key × V)) (e : Nat) : Prop := kvs.length = e ∧ ∀ b, b < e → ∃ t L, ∃ tk : List Int, kvs[b]? = some (.inl (b : Int), .ref t) ∧ H t = some (.tup [.int (f b), .ref L]) ∧ Ls H L (tk.map V.int) ∧ tk.length ≤ b
theorem BestK.px {H H' : Hp} {f : Nat → Int} {kvs : List (Key × V)} {e : Nat} (x : Px H H') (h : BestK H f kvs e) : BestK H' f kvs e := ⟨h.1, fun b hb => by
  obtain ⟨t, L, tk, h1, h2, h3, h4⟩ := h.2 b hb
  exact ⟨t, L, tk, h1, x _ _ h2 True.intro, h3.px x, h4⟩⟩
theorem BestK.val {H : Hp} {f : Nat → Int} {kvs : List (Key × V)} {e : Nat} (h : BestK H f kvs e) {b : Nat} {v : V} (hb : kvs[b]? = some (.inl (b : Int), v)) : valV kvs (.inl (b : Int)) = some v := by
  have := valV_at kvs 0 b v (fun i kv hi => by
    have hl := (List.getElem?_eq_some_iff.mp hi).1
    obtain ⟨t, L, tk, h1, _⟩ := h.2 i (by rw [← h.1]; exact hl)
    rw [hi] at h1
    cases h1
    rw [Nat.zero_add]) (by rw [Nat.zero_add]; exact hb)
  rw [Nat.zero_add] at this
  exact this
/-- the prices of the parts -/
def PrT (H : Hp) (M : Mt) (ds : List Nat) (pr : Addr) : Prop := ∃ ps : List Addr, Ls H pr (ps.map V.ref) ∧ ps.length = ds.length ∧ ∀ b pb, ps[b]? = some pb → Ls H pb ((List.range (ds.length - b + 1)).map fun i => .int (M.co ds b (b + i)))
theorem PrT.px {H H' : Hp} {M : Mt} {ds : List Nat} {pr : Addr} (x : Px H H') (h : PrT H M ds pr) : PrT H' M ds pr := h.elim fun ps h => ⟨ps, h.1.px x, h.2.1, fun b pb hb => (h.2.2 b pb hb).px x⟩
abbrev Opt : Type := Addr × (Int × List Int)
def OptV (B H : Hp) (O : Addr) (o : Opt) : Prop := ∃ L, L ≠ O ∧ H o.1 = some (.tup [.int o.2.1, .ref L]) ∧ ((H L = some (.lst (o.2.2.map V.int)) ∧ B L = none) ∨ Ls H L (o.2.2.map V.int))
theorem OptV.same {B H H' : Hp} {O : Addr} {o : Opt} (e : Same H H') (h : OptV B H O o) : OptV B H' O o := by
  obtain ⟨L, h1, h2, h3⟩ := h
  exact ⟨L, h1, e _ _ h2, h3.imp (fun h => ⟨e _ _ h.1, h.2⟩) (·.px (.of _ _ e))⟩
theorem OptV.upd {B H : Hp} {O : Addr} {o : Opt} {xs ys : List V} (hO : H O = some (.lst xs)) (h : OptV B H O o) : OptV B (upd H O (.lst ys)) O o := by
  obtain ⟨L, h1, h2, h3⟩ := h
  have pm : Px H (L2.upd H O (.lst ys)) := Px.mut hO (fun z => z)
  refine ⟨L, h1, pm _ _ h2 True.intro, h3.imp (fun h => ⟨?_, h.2⟩) (·.px pm)⟩
  rw [upd_ne h1]
  exact h.1
theorem opt_dp {K : PySem.W.Frag} {B H : Hp} {O : Addr} : ∀ {os : List Opt}, (∀ o ∈ os, OptV B H O o) → DpAll K H (os.map fun o => V.ref o.1) ((os.map (·.2)).map PySem.W.Datum.toD)
  | [], _ => .nil
  | o :: r, h => by
    refine .cons ?_ (opt_dp fun x hx => h x (List.mem_cons_of_mem _ hx))
    obtain ⟨L, h1, h2, h3⟩ := h o List.mem_cons_self
    have hL : SqL K H L (o.2.2.map V.int) := h3.elim (fun h => sqL_of h.1) (·.sq)
    exact .tup (sqT_of h2) (.cons (.int _) (.cons (.lst hL (dpAll_ints _)) .nil))
def pr_hires_on (P : Program) (w : World) (K : PySem.W.Frag) : Pr := fun vs H Q => ∃ (ba pr : Addr) (M : Mt) (ds : List Nat) (f : Nat → Int) (kvs : List (Key × V)) (e : Nat), vs = [.ref ba, .ref pr, .int e] ∧ 1 ≤ e ∧ e ≤ ds.length ∧ ds.length ≤ 1000 ∧ H ba = some (.dK kvs) ∧ BestK H f kvs e ∧ PrT H M ds pr ∧
  ∀ t H' x L (tk : List Int), Same H H' → H' t = some (.tup [.int x, .ref L]) → Ls H' L (tk.map V.int) → tk.length ≤ e → (∃ b, b < e ∧ x = f b + M.co ds b e) → (∀ b, b < e → x ≤ f b + M.co ds b e) → Q (.ref t) H'
theorem ok_hires_on (T : Wd K mg base) : Fn P w K mg base 1 (He.ga K "hires_on") (pr_hires_on P w K) := by
  obtain ⟨fd, F0⟩ := T.fdef 26 (d := d_hires_on)
  have F : FunD K "hires_on" "hires_on" (defArgs s_hires_on) (defBody s_hires_on) (defScope s_hires_on) [] [] (He.ga K "hires_on") fd := F0
  refine fn_mk (N := N_hires_on) (ps := ["best", "prices", "end"]) F sc_hires_on (fun kV doc pm an cdv ct us hl => match us, hl with | [u0, u1, u2], _ => rfl) (fun vs H Q => by walk_at "len") fun cdv A outer s H vs Q E hr h => ?_
  refine ⟨_, (pss_gcons (ps_set (i := 3) sc_hires_on.nd rfl (Or.inl rfl) (pe_lst pa_nil)) (pss_cons (ps_lock (ps_for PassesOwn.never rfl (pi_keys (pv 0)) (pg_name (i := 4) sc_hires_on.nd rfl (Or.inl rfl)) (pss_one (ps_if (pt_cmpR op_lt (pv 4) (pv 2) (nomark _)) (pss_gcons (ps_asg (pe_dget (hu_of hr) (pv 0) (pv 4) (fun _ _ => rfl)) (pg_tupK (n := 2) rfl (pgs_cons (pg_name (i := 5) sc_hires_on.nd rfl (Or.inl rfl)) (pgs_cons (pg_name (i := 6) sc_hires_on.nd rfl (Or.inl rfl)) pgs_nil)))) (pss_one (ps_expr (pe_bm PySem.F.plainAttrs_list PySem.F.slot_list_append PySem.F.type_list_append mt_append (pv 3) (pa_cons (pe_tup (pa_cons (pe_op op_add (pv 5) (pe_ix (ix_list : IxR _ (rIxL K)) (pe_ix (ix_list : IxR _ (rIxL K)) (pv 1) (pv 4) (fun _ _ => rfl)) (pe_op op_sub (pv 2) (pv 4)) (fun _ _ => rfl))) (pa_cons (pe_ifExp (pt_cmpR op_gt (pv 4) pe_int (nomark _)) (pe_lst (StX.pa_star (pv 6) (pa_cons (pv 4) pa_nil))) (pv 6)) pa_nil))) pa_nil))))) pss_nil)))) (pss_one (ps_ret (pe_gh (pe_ifExp (pt_cmpR op_gt (pe_callB (call_lenK (K := K)) (by rfl) T.f_len (by decide +kernel) (pa_cons (pv 3) pa_nil)) pe_int (nomark _)) (pe_callB (cr_minD rfl (hu200 hr)) (by rfl) T.f_min (by decide +kernel) (pa_cons (pv 3) pa_nil)) pe_non)))))), ?_⟩
  obtain ⟨ba, pr, M, ds, f, kvs, e, rfl, he1, hen, hn, hba, hk, hpt, q⟩ := h
  refine ⟨sz, fun O hO => .now ?_⟩
  have nbO : ba ≠ O := fun z => by rw [z, hO] at hba; cases hba
  have h1 := (same_new (o := .lst []) hO) _ _ hba
  refine ⟨ba, _, h1, True.intro, fun od => ?_⟩
  have hF : Px H (upd H ba (.frz od (.dK kvs))) := Px.frz hba (fun z => z)
  have fF : upd H ba (.frz od (.dK kvs)) ba = some (.frz od (.dK kvs)) := upd_same
  have frO : upd H ba (.frz od (.dK kvs)) O = none := by rw [upd_ne nbO.symm]; exact hO
  have fin : ∀ H', Same (upd H ba (.frz od (.dK kvs))) H' → Same H (upd H' ba (.dK kvs)) := fun H' e b u hb => by
    by_cases hbl : b = ba
    · rw [hbl, hba] at hb
      rw [hbl, upd_same]
      exact hb
    · rw [upd_ne hbl]
      exact e b u (by rw [upd_ne hbl]; exact hb)
  have e0 : Same (upd H ba (.frz od (.dK kvs))) (upd (upd H O (.lst [])) ba (.frz od (.dK kvs))) := fun b u hb => by
    by_cases hbl : b = ba
    · rw [hbl] at hb ⊢
      rw [upd_same] at hb ⊢
      exact hb
    · rw [upd_ne hbl] at hb ⊢
      rw [upd_ne (ne_of_none hb hO)]
      exact hb
  have O0 : upd (upd H O (.lst [])) ba (.frz od (.dK kvs)) O = some (.lst []) := by rw [upd_ne nbO.symm, upd_same]
  show tFor _ _ _ _ _ (upd (upd H O (.lst [])) ba (.frz od (.dK kvs)))
  generalize upd (upd H O (.lst [])) ba (.frz od (.dK kvs)) = H0 at e0 O0 ⊢
  have hkF := hk.px hF
  have hptF := hpt.px hF
  generalize hFe : upd H ba (.frz od (.dK kvs)) = HF at hF fF frO fin e0 hkF hptF
  refine ⟨_, rfl, ba, od, rfl, .inl ⟨kvs, e0 _ _ fF, ?_⟩⟩
  refine for_go kvs.length (fun i σ H' => ∃ (s4 s5 s6 : Option V) (os : List Opt), σ = [some (.ref ba), some (.ref pr), some (.int e), some (.ref O), s4, s5, s6] ∧ Same HF H' ∧ H' O = some (.lst (os.map fun o => V.ref o.1)) ∧ os.length = i ∧ (∀ o ∈ os, OptV HF H' O o) ∧ ∀ j o, os[j]? = some o → o.2.1 = f j + M.co ds j e ∧ o.2.2.length ≤ e)
    ⟨_, _, _, [], rfl, e0, O0, rfl, (fun _ z => nomatch z), fun j o h => by simp at h⟩ ?_ ?_
  · rintro b σ H1 hb ⟨s4, s5, s6, os, rfl, e1, hO1, hol, hov, hof⟩
    refine ⟨⟨e1 _ _ fF, hb⟩, fun x H'' hx => ?_⟩
    obtain ⟨rfl, k0, v0, hkv, rfl⟩ := hx
    have hbe : b < e := by rw [← hk.1]; exact hb
    have p1 := Px.of _ _ e1
    obtain ⟨t, L, tk, g1, g2, g3, g4⟩ := (hkF.px p1).2 b hbe
    rw [g1] at hkv
    cases hkv
    obtain ⟨ps, r1, r2, r3⟩ := hptF.px p1
    have hbn : b < ps.length := by omega
    have r4 := r3 b ps[b] (List.getElem?_eq_getElem hbn)
    show tIfS _ _ _ _ _ _
    refine ⟨_, rfl, _, rfl, _, _, rfl, rfl, _, rfl, ?_⟩
    refine iT (dT (by omega)) ?_
    refine ⟨_, rfl, _, rfl, ba, .ref t, rfl, .inl ⟨kvs, .inl (b : Int), .inr ⟨od, e1 _ _ fF⟩, rfl, (hk.val g1).symm⟩, ?_⟩
    refine ⟨_, _, rfl, sqT_of g2, rfl, ?_⟩
    walk_at "g"
    refine ⟨.inl ⟨rfl, _, sqL_of hO1⟩, ?_⟩
    have ee : (e : Int) - (b : Int) = ((e - b : Nat) : Int) := by omega
    walk_at "w"
    refine ⟨_, _, _, _, rfl, rfl, r1.sq, atI_nat (by rw [List.getElem?_map, List.getElem?_eq_getElem hbn]; rfl), ?_⟩
    walk_at "w"
    refine ⟨_, _, _, _, rfl, rfl, r4.sq, (by rw [ee]; exact atI_rng _ (by omega)), ?_⟩
    refine ⟨_, _, rfl, rfl, ?_⟩
    refine ⟨_, rfl, _, _, rfl, rfl, _, rfl, ?_⟩
    refine iB (fun hb0 => ?_) fun hb0 => ?_
    · refine ⟨_, rfl, L, tk.map V.int, rfl, .inr g3.sq, ?_⟩
      refine ⟨_, rfl, by simp; exact Nat.le_trans (by omega : tk.length + 1 ≤ 2000) (by decide), fun L' hL' => ?_⟩
      refine ⟨sz, fun t' ht' => ?_⟩
      have nLO : L' ≠ O := fun z => by rw [z, hO1] at hL'; cases hL'
      have nLt : L' ≠ t' := fun z => by rw [← z, upd_same] at ht'; cases ht'
      have e2 : Same H'' (upd (upd H'' L' (.lst (tk.map V.int ++ [.int b]))) t' (.tup [.int (f b + M.co ds b (b + (e - b))), .ref L'])) := (same_new hL').trans (same_new ht')
      have nv : OptV HF (upd (upd H'' L' (.lst (tk.map V.int ++ [.int b]))) t' (.tup [.int (f b + M.co ds b (b + (e - b))), .ref L'])) O (t', (f b + M.co ds b (b + (e - b)), tk ++ [(b : Int)])) := ⟨L', nLO, upd_same, .inl ⟨by rw [upd_ne nLt, upd_same, List.map_append]; rfl, fresh_of e1 hL'⟩⟩
      have hO2 : (upd (upd H'' L' (.lst (tk.map V.int ++ [.int b]))) t' (.tup [.int (f b + M.co ds b (b + (e - b))), .ref L'])) O = some (.lst (os.map fun o => V.ref o.1)) := e2 _ _ hO1
      refine ⟨O, _, _, rfl, rfl, hO2, szL (by simp; omega), ?_⟩
      have pm : Px (upd (upd H'' L' (.lst (tk.map V.int ++ [.int b]))) t' (.tup [.int (f b + M.co ds b (b + (e - b))), .ref L'])) (upd (upd (upd H'' L' (.lst (tk.map V.int ++ [.int b]))) t' (.tup [.int (f b + M.co ds b (b + (e - b))), .ref L'])) O (.lst ((os.map fun o => V.ref o.1) ++ [.ref t']))) := Px.mut hO2 (fun z => z)
      refine ⟨_, _, _, os ++ [(t', (f b + M.co ds b (b + (e - b)), tk ++ [(b : Int)]))], rfl, same_mut (e1.trans e2) frO, by rw [upd_same, List.map_append]; rfl, by simp; omega, fun o ho => ?_, fun j o ho => ?_⟩
      · rcases List.mem_append.mp ho with ho | ho
        · exact ((hov o ho).same e2).upd hO2
        · rw [List.mem_singleton.mp ho]
          exact OptV.upd hO2 nv
      · by_cases hj : j < os.length
        · rw [List.getElem?_append_left hj] at ho
          exact hof j o ho
        · have hj2 : j = os.length := by
            have := (List.getElem?_eq_some_iff.mp ho).1
            rw [List.length_append, List.length_singleton] at this
            omega
          subst hj2
          rw [List.getElem?_append_right (Nat.le_refl _), Nat.sub_self] at ho
          cases ho
          rw [hol]
          exact ⟨by show f b + M.co ds b (b + (e - b)) = _; rw [show b + (e - b) = e by omega], by show List.length (tk ++ [(b : Int)]) ≤ e; simp; omega⟩
    · refine ⟨_, rfl, sz, fun t' ht' => ?_⟩
      have nLO : L ≠ O := fun z => by
        obtain ⟨oL, hoL⟩ := g3.ex
        rw [z, hO1] at hoL
        cases hoL
      have e2 : Same H'' (upd H'' t' (.tup [.int (f b + M.co ds b (b + (e - b))), .ref L])) := same_new ht'
      have nv : OptV HF (upd H'' t' (.tup [.int (f b + M.co ds b (b + (e - b))), .ref L])) O (t', (f b + M.co ds b (b + (e - b)), tk)) := ⟨L, nLO, upd_same, .inr (g3.px (.of _ _ e2))⟩
      have hO2 : (upd H'' t' (.tup [.int (f b + M.co ds b (b + (e - b))), .ref L])) O = some (.lst (os.map fun o => V.ref o.1)) := e2 _ _ hO1
      refine ⟨O, _, _, rfl, rfl, hO2, szL (by simp; omega), ?_⟩
      have pm : Px (upd H'' t' (.tup [.int (f b + M.co ds b (b + (e - b))), .ref L])) (upd (upd H'' t' (.tup [.int (f b + M.co ds b (b + (e - b))), .ref L])) O (.lst ((os.map fun o => V.ref o.1) ++ [.ref t']))) := Px.mut hO2 (fun z => z)
      refine ⟨_, _, _, os ++ [(t', (f b + M.co ds b (b + (e - b)), tk))], rfl, same_mut (e1.trans e2) frO, by rw [upd_same, List.map_append]; rfl, by simp; omega, fun o ho => ?_, fun j o ho => ?_⟩
      · rcases List.mem_append.mp ho with ho | ho
        · exact ((hov o ho).same e2).upd hO2
        · rw [List.mem_singleton.mp ho]
          exact OptV.upd hO2 nv
      · by_cases hj : j < os.length
        · rw [List.getElem?_append_left hj] at ho
          exact hof j o ho
        · have hj2 : j = os.length := by
            have := (List.getElem?_eq_some_iff.mp ho).1
            rw [List.length_append, List.length_singleton] at this
            omega
          subst hj2
          rw [List.getElem?_append_right (Nat.le_refl _), Nat.sub_self] at ho
          cases ho
          rw [hol]
          exact ⟨by show f b + M.co ds b (b + (e - b)) = _; rw [show b + (e - b) = e by omega], by show List.length (tk) ≤ e; omega⟩
  · rintro σ H1 ⟨s4, s5, s6, os, rfl, e1, hO1, hol, hov, hof⟩
    refine ⟨⟨e1 _ _ fF, Nat.le_refl _⟩, e1 _ _ fF, ?_⟩
    have fb := e1 _ _ fF
    have eH := fin H1 e1
    have O2 : upd H1 ba (.dK kvs) O = some (.lst (os.map fun o => V.ref o.1)) := by rw [upd_ne nbO.symm]; exact hO1
    have ov2 : ∀ o ∈ os, OptV HF (upd H1 ba (.dK kvs)) O o := fun o ho => by
      obtain ⟨L, g1, g2, g3⟩ := hov o ho
      have n1 : o.1 ≠ ba := fun z => by rw [z, fb] at g2; cases g2
      have n2 : L ≠ ba := fun z => by
        rw [z] at g3
        rcases g3 with g3 | ⟨ol, g3⟩
        · rw [fb] at g3; cases g3.1
        · rw [fb] at g3; cases g3
      refine ⟨L, g1, by rw [upd_ne n1]; exact g2, g3.imp (fun g => ⟨by rw [upd_ne n2]; exact g.1, g.2⟩) fun g => ?_⟩
      obtain ⟨ol, g⟩ := g.ex
      exact ⟨ol, by rw [upd_ne n2]; exact g⟩
    rw [hk.1] at hol
    generalize upd H1 ba (.dK kvs) = H2 at eH O2 ov2 ⊢
    refine ⟨_, rfl, O, _, rfl, .inl (sqL_of O2), ?_⟩
    refine ⟨_, _, rfl, rfl, _, rfl, ?_⟩
    refine iT (dT (by simp; omega)) ?_
    cases os with
    | nil => simp at hol; omega
    | cons o0 r =>
      refine ⟨_, rfl, O, _, PySem.W.Datum.toD o0.2, (r.map fun o : Opt => o.2).map PySem.W.Datum.toD, rfl, sqL_of O2, opt_dp ov2, PySem.W.alikeAll_datum ((o0 :: r).map fun o : Opt => o.2), Nat.le_trans (PySem.W.depthAll_map ((o0 :: r).map fun o : Opt => o.2)) (by decide), fun i v hi hd => ?_⟩
      rw [List.getElem?_map] at hi
      obtain ⟨o, ho, hv⟩ := Option.map_eq_some_iff.mp hi
      cases hv
      have hd2 : ((o0 :: r).map fun o => PySem.W.Datum.toD o.2)[i]? = some (PySem.W.Datum.toD (PySem.W.minOf o0.2 (r.map (·.2)))) := by
        rw [← PySem.W.minD_map]
        rw [show ((o0 :: r).map fun o => PySem.W.Datum.toD o.2) = PySem.W.Datum.toD o0.2 :: (r.map (·.2)).map PySem.W.Datum.toD by rw [List.map_map]; rfl]
        exact hd
      rw [List.getElem?_map, ho] at hd2
      have hx : o.2.1 = (PySem.W.minOf o0.2 (r.map (·.2))).1 := by
        have h3 : (PyData.tuple [.int o.2.1, PySem.W.Datum.toD o.2.2]) = PyData.tuple [.int (PySem.W.minOf o0.2 (r.map (·.2))).1, PySem.W.Datum.toD (PySem.W.minOf o0.2 (r.map (·.2))).2] := Option.some.inj hd2
        injection h3 with h4
        injection h4 with h5
        injection h5
      have hmem : o ∈ o0 :: r := List.mem_of_getElem? ho
      obtain ⟨hof1, hof2⟩ := hof i o ho
      have hie := (List.getElem?_eq_some_iff.mp ho).1
      have hall : ∀ b, b < e → o.2.1 ≤ f b + M.co ds b e := fun b hb => by
        have hb2 : b < (o0 :: r).length := by omega
        rw [hx, ← (hof b _ (List.getElem?_eq_getElem hb2)).1]
        exact minOf_fst o0.2 (r.map (·.2)) _ (by rw [← List.map_cons]; exact List.mem_map.mpr ⟨_, List.getElem_mem hb2, rfl⟩)
      obtain ⟨L, g1, g2, g3⟩ := ov2 o hmem
      rcases g3 with g3 | g3
      · refine .frz g3.1 True.intro fun ob => .now ?_
        obtain ⟨g3, g4⟩ := g3
        have ntL : o.1 ≠ L := fun z => by rw [z, g3] at g2; cases g2
        have nLb : L ≠ ba := fun z => by rw [z, fF] at g4; cases g4
        have hLn : H L = none := by
          rw [← hFe, upd_ne nLb] at g4
          exact g4
        refine q o.1 _ o.2.1 L o.2.2 (same_mut eH hLn) (by rw [upd_ne ntL]; exact g2) Ls.mk' hof2 ⟨i, by omega, hof1⟩ hall
      · exact .now (q o.1 _ o.2.1 L o.2.2 eH g2 g3 hof2 ⟨i, by omega, hof1⟩ hall)
end Cab
set_option Elab.async false
set_option linter.all false
set_option maxRecDepth 100000
set_option maxHeartbeats 2000000
set_option pp.maxSteps 1500
namespace Cab
open PySem PySem.Spec PyProof.Rows L2

local macro_rules | `(tactic| walk_at "w") => `(tactic| repeat (first | refine Gh.now ?_ | refine ⟨_, rfl, ?_⟩ | refine ⟨_, _, rfl, rfl, ?_⟩ | refine ⟨rfl, ?_⟩))
local macro_rules | `(tactic| walk_at "g") => `(tactic| repeat (first | refine ⟨_, _, rfl, rfl, ?_⟩ | refine ⟨_, _, rfl, ?_⟩ | refine ⟨rfl, ?_⟩ | refine Gh.now ?_ | refine ⟨_, rfl, ?_⟩))
local macro_rules | `(tactic| walk_at "len") => `(tactic| first | (intro hh; obtain ⟨e, _⟩ := hh; exact congrArg List.length e) | (intro hh; obtain ⟨_, e, _⟩ := hh; exact congrArg List.length e) | (intro hh; obtain ⟨_, _, e, _⟩ := hh; exact congrArg List.length e) | (intro hh; obtain ⟨_, _, _, e, _⟩ := hh; exact congrArg List.length e) | (intro hh; obtain ⟨_, _, _, _, e, _⟩ := hh; exact congrArg List.length e) | (intro hh; obtain ⟨_, _, _, _, _, e, _⟩ := hh; exact congrArg List.length e) | (intro hh; obtain ⟨_, _, _, _, _, _, e, _⟩ := hh; exact congrArg List.length e) | (intro hh; obtain ⟨_, _, _, _, _, _, _, e, _⟩ := hh; exact congrArg List.length e) | (intro hh; obtain ⟨_, _, _, _, _, _, _, _, e, _⟩ := hh; exact congrArg List.length e) | (intro hh; obtain ⟨_, _, _, _, _, _, _, _, _, e, _⟩ := hh; exact congrArg List.length e) | (intro hh; obtain ⟨_, _, _, _, _, _, _, _, _, _, e, _⟩ := hh; exact congrArg List.length e) | (intro hh; obtain ⟨_, _, _, _, _, _, _, _, _, _, _, e, _⟩ := hh; exact congrArg List.length e) | (intro hh; obtain ⟨_, _, _, _, _, _, _, _, _, _, _, _, e, _⟩ := hh; exact congrArg List.length e))
variable {P : Program} {w : World} {K : PySem.W.Frag} {mg : Str → Option Value} {base : Heap}

theorem putK_new {H : Hp} {f : Nat → Int} {kvs : List (Key × V)} {e : Nat} (h : BestK H f kvs e) (v : V) : putK kvs (.inl (e : Int)) v = kvs ++ [(.inl (e : Int), v)] := by
  unfold putK
  have hn : (kvs.any fun kv => decide (kv.1 = (.inl (e : Int) : Key))) = false := by
    rw [List.any_eq_false]
    intro kv hk
    obtain ⟨i, hi, rfl⟩ := List.mem_iff_getElem.mp hk
    obtain ⟨t, L, tk, h1, _⟩ := h.2 i (by rw [← h.1]; exact hi)
    rw [List.getElem?_eq_getElem hi] at h1
    rw [Option.some.inj h1]
    simp
    intro z
    rw [h.1] at hi
    omega
  rw [hn]
  rfl
def setF (f : Nat → Int) (e : Nat) (x : Int) : Nat → Int := fun j => if j = e then x else f j
theorem setF_same {f : Nat → Int} {e : Nat} {x : Int} : setF f e x e = x := if_pos rfl
theorem setF_ne {f : Nat → Int} {e j : Nat} {x : Int} (h : j ≠ e) : setF f e x j = f j := if_neg h
def pr_best_split (P : Program) (w : World) (K : PySem.W.Frag) : Pr := fun vs H Q => ∃ (m ad : Addr) (M : Mt) (z : Str) (ds : List Nat), vs = [.ref m, .str z, .non] ∧ MetI K H m M ad ∧ Tz z ds ∧ ds.length ≤ 1000 ∧
  ∀ t H' x L, Same H H' → H' t = some (.tup [.int x, .ref L]) → ((ds = [] ∧ x = M.pr (M.cnt [])) ∨ (ds ≠ [] ∧ ∃ f, IsB M ds ds.length f ∧ x = f ds.length)) → Q (.ref t) H'
theorem ok_best_split (T : Wd K mg base) : Fn P w K mg base 10 (He.ga K "best_split") (fun vs H Q => pr_best_split P w K (vs ++ [V.non]) H Q) := by
  obtain ⟨fd, F0⟩ := T.fdef 27 (d := d_best_split)
  have F : FunD K "best_split" "best_split" (defArgs s_best_split) (defBody s_best_split) (defScope s_best_split) [V.non] [] (He.ga K "best_split") fd := F0
  refine fn_mkD0 (N := N_best_split) (ps := ["meter", "trip", "most"]) 2 F sc_best_split (by intro z; cases z) rfl (fun T kV doc pm an cdv ct us its hl hl2 => match us, its, hl, hl2 with | [u0, u1], [d0], _, _ => ⟨_, rfl, rfl⟩) (fun vs H Q => by walk_at "len") fun cdv A outer s H vs Q E hr h => ?_
  refine ⟨_, (pss_cons (ps_expr (pe_R (ok_check_trip T) (hr.mono (by decide)) T.g_check_trip T.k_check_trip (pa_cons (pv 1) pa_nil))) (pss_cons (ps_if (PW.pt (pw_and (pt_cmpR op_notN (pv 2) pe_non (nomark _)) (pw_and1 (PW.pt (pw_or (pt_not (pt_val (pe_R (ok_is_whole T) (hr.mono (by decide)) T.g_is_whole T.k_is_whole (pa_cons (pv 2) pa_nil)))) (pw_or1 (pt_cmpR op_lt (pv 2) pe_int (nomark _)))))))) (pss_one ps_never) pss_nil) (pss_cons (ps_if (pt_cmpR op_eq (pv 1) pe_str (nomark _)) (pss_one (ps_ret (pe_gh (pe_tup (pa_cons (pe_CoK (ok_Meter_call T) (hr.mono (by decide)) T.co_Meter (pv 0) (pa_cons (pv 1) pa_nil)) (pa_cons (pe_lst pa_nil) pa_nil)))))) pss_nil) (pss_gcons (ps_set (i := 3) sc_best_split.nd rfl (Or.inr rfl) (pe_lc (own := [("begin", 9)]) rfl sc_best_split.nd (pi_range1 rfl T.f_range (pa_cons (pe_callB call_len_str (by rfl) T.f_len (by decide +kernel) (pa_cons (pv 1) pa_nil)) pa_nil)) (blkOk_by (own := [("begin", 9)]) (N := N_best_split) (sc := defScope s_best_split) (by decide +kernel)) (fun _ _ _ _ _ => (pg_name (i := 9) sc_best_split.nd rfl (Or.inl rfl))) (fun _ _ _ _ _ => pts_nil) (fun _ _ _ _ _ => (pe_M (ok_Meter_prices T) (hr.mono (by decide)) T.cls_Meter T.m_Meter_prices (pv 0) (pa_cons (pe_slice sl_str (pv 1) (po_some (pv 9)) po_none) pa_nil))))) (pss_gcons (ps_set (i := 4) sc_best_split.nd rfl (Or.inr rfl) (pe_disp (pps_cons pe_int (pe_tup (pa_cons pe_int (pa_cons (pe_lst pa_nil) pa_nil))) pps_nil) (by rfl) (by rfl) (fun z => by cases z) (by decide))) (pss_cons (ps_if (PW.pt (pw_or (pt_cmpR op_isN (pv 2) pe_non (nomark _)) (pw_or1 (pt_cmpR op_ge (pv 2) (pe_callB call_len_str (by rfl) T.f_len (by decide +kernel) (pa_cons (pv 1) pa_nil)) (nomark _))))) (pss_cons (ps_for PassesOwn.never rfl (pi_range2 rfl T.f_range (pa_cons pe_int (pa_cons (pe_op op_add (pe_callB call_len_str (by rfl) T.f_len (by decide +kernel) (pa_cons (pv 1) pa_nil)) pe_int) pa_nil))) (pg_name (i := 5) sc_best_split.nd rfl (Or.inl rfl)) (pss_one (ps_dput (hu_of hr) (pv 4) (pv 5) (pe_R (ok_hires_on T) (hr.mono (by decide)) T.g_hires_on T.k_hires_on (pa_cons (pv 4) (pa_cons (pv 3) (pa_cons (pv 5) pa_nil)))) rfl))) (pss_one (ps_ret (pe_gh (pe_dget (hu_of hr) (pv 4) (pe_callB call_len_str (by rfl) T.f_len (by decide +kernel) (pa_cons (pv 1) pa_nil)) (fun _ _ => rfl)))))) pss_nil) pss_never)))))), ?_⟩
  obtain ⟨m, ad, M, z, ds, rfl, hm, tz, hl, q⟩ := h
  have hz := tz.len
  obtain ⟨o, dx, an, a2, a3, tb, h1, _⟩ := id hm
  walk_at "w"
  refine ⟨tz.dig (by omega), fun H1 e1 => ?_⟩
  have p1 := Px.of _ _ e1
  walk_at "w"
  refine iB (fun hd => ?_) fun hd => ?_
  · have hz0 : ds = [] := by
      have := V.str.inj (of_decide_eq_true hd)
      rw [this] at hz
      exact List.eq_nil_of_length_eq_zero hz.symm
    walk_at "w"
    refine ⟨⟨_, _, e1 _ _ h1⟩, m, ad, M, z, rfl, hm.px p1, tz.dig (by omega), fun H2 e2 => ?_⟩
    walk_at "w"
    refine ⟨sz, fun L hL => ?_⟩
    refine ⟨sz, fun t ht => .now ?_⟩
    refine q t _ _ L (((e1.trans e2).trans (same_new hL)).trans (same_new ht)) upd_same (.inl ⟨hz0, ?_⟩)
    rw [tz.dgs, hz0]
  have hne : ds ≠ [] := fun h => by
    rw [h] at hz
    have : z = "" := by
      obtain ⟨c⟩ := z
      have hc : c = #[] := Array.eq_empty_of_size_eq_zero hz
      rw [hc]
      rfl
    rw [this] at hd
    exact absurd rfl (of_decide_eq_false hd)
  have hn1 : 1 ≤ ds.length := by
    cases ds with
    | nil => exact absurd rfl hne
    | cons a r => simp
  walk_at "w"
  refine ⟨szl (by omega), ?_⟩
  walk_at "w"
  have e62 : (2 : Int) ^ 62 = 4611686018427387904 := by decide
  refine ⟨by rw [e62]; omega, by rw [e62]; omega, fun pr hpr => ?_⟩
  rw [Int.toNat_natCast]
  refine lc_rel z.length (fun b y H => ∃ pb, y = .ref pb ∧ Ls H pb ((List.range (ds.length - b + 1)).map fun i => .int (M.co ds b (b + i)))) hpr (fun i H' hi c => ?_) fun ps H2 hps e2 hl2 hR => ⟨by simp [Itr], ?_⟩
  · refine ⟨hi, fun x H'' hx => ?_⟩
    obtain ⟨rfl, rfl⟩ := hx
    rw [Int.zero_add]
    have pc := e1.trans c.same
    have tt := cut_tail tz i (by omega)
    have hsz : (cutS z (some (i : Int)) none).cps.size = ds.length - i := by have := tt.len; rw [List.length_drop] at this; exact this
    refine ⟨rfl, ?_⟩
    refine ⟨_, rfl, m, _, _, rfl, pc _ _ h1, rfl, ?_⟩
    walk_at "w"
    refine ⟨szl (by omega), ?_⟩
    refine ⟨m, ad, M, _, rfl, hm.px (.of _ _ pc), tt.dig (by simp; omega), fun pb H3 _ e3 hpb => ?_⟩
    rw [hsz] at hpb
    refine CR.fin (fun i y H H' e h => h.elim fun pb h => ⟨pb, h.1, h.2.px e⟩) c (by omega) e3 ⟨pb, rfl, ?_⟩
    have : (fun j => V.int (M.pr (M.cn (cutS z (some (i : Int)) none) j))) = fun j => V.int (M.co ds i (i + j)) := by
      funext j
      unfold Mt.cn Mt.co
      rw [tt.dgs, Nat.add_sub_cancel_left]
    rw [this] at hpb
    exact hpb
  obtain ⟨pas, rfl, hpas⟩ := refs_of ps _ hR
  rw [List.length_map] at hps
  refine .frz hl2 True.intro fun ob => .now ?_
  have pm : Px H2 (upd H2 pr (.frz ob (.lst (pas.map V.ref)))) := Px.frz hl2 (fun z => z)
  have hpt : PrT (upd H2 pr (.frz ob (.lst (pas.map V.ref)))) M ds pr := ⟨pas, Ls.mk', by omega, fun b pb hb => (hpas b pb hb).px pm⟩
  have e3 : Same H1 (upd H2 pr (.frz ob (.lst (pas.map V.ref)))) := same_mut e2 hpr
  show tSeqG _ _ _ _ (upd H2 pr (.frz ob (.lst (pas.map V.ref))))
  generalize upd H2 pr (.frz ob (.lst (pas.map V.ref))) = H3 at hpt e3 ⊢
  have e13 := e1.trans e3
  intro ba hba
  refine ⟨sz, fun L0 hL0 => ?_⟩
  refine ⟨sz, fun t0 ht0 => ?_⟩
  have fba : upd H3 ba (.dK []) ba = some (.dK []) := upd_same
  have nbL : ba ≠ L0 := fun z => by rw [← z, fba] at hL0; cases hL0
  have fL : upd (upd H3 ba (.dK [])) L0 (.lst []) L0 = some (.lst []) := upd_same
  have nLt : L0 ≠ t0 := fun z => by rw [← z, fL] at ht0; cases ht0
  have nbt : ba ≠ t0 := fun z => by rw [← z, upd_ne nbL, fba] at ht0; cases ht0
  have frL : H3 L0 = none := by rw [upd_ne nbL.symm] at hL0; exact hL0
  have ftt : upd (upd (upd H3 ba (.dK [])) L0 (.lst [])) t0 (.tup [.int 0, .ref L0]) t0 = some (.tup [.int 0, .ref L0]) := upd_same
  have fbb : upd (upd (upd H3 ba (.dK [])) L0 (.lst [])) t0 (.tup [.int 0, .ref L0]) ba = some (.dK []) := by rw [upd_ne nbt, upd_ne nbL]; exact fba
  have fLL : upd (upd (upd H3 ba (.dK [])) L0 (.lst [])) t0 (.tup [.int 0, .ref L0]) L0 = some (.lst []) := by rw [upd_ne nLt]; exact fL
  have e4 : Same H3 (upd (upd (upd H3 ba (.dK [])) L0 (.lst [])) t0 (.tup [.int 0, .ref L0])) := ((same_new hba).trans (same_new hL0)).trans (same_new ht0)
  refine ⟨fbb, [(.inl 0, .ref t0)], rfl, Nat.le_of_ble_eq_true rfl, ?_⟩
  have e5 : Same H3 (upd (upd (upd (upd H3 ba (.dK [])) L0 (.lst [])) t0 (.tup [.int 0, .ref L0])) ba (.dK [(.inl 0, .ref t0)])) := same_mut e4 hba
  refine .frz (u := .lst []) (by rw [upd_ne nbL.symm]; exact fLL) True.intro fun ob2 => .now ?_
  have e6 : Same H3 (upd (upd (upd (upd (upd H3 ba (.dK [])) L0 (.lst [])) t0 (.tup [.int 0, .ref L0])) ba (.dK [(.inl 0, .ref t0)])) L0 (.frz ob2 (.lst []))) := same_mut e5 frL
  have b6 : upd (upd (upd (upd (upd H3 ba (.dK [])) L0 (.lst [])) t0 (.tup [.int 0, .ref L0])) ba (.dK [(.inl 0, .ref t0)])) L0 (.frz ob2 (.lst [])) ba = some (.dK [(.inl 0, .ref t0)]) := by rw [upd_ne nbL, upd_same]
  have t6 : upd (upd (upd (upd (upd H3 ba (.dK [])) L0 (.lst [])) t0 (.tup [.int 0, .ref L0])) ba (.dK [(.inl 0, .ref t0)])) L0 (.frz ob2 (.lst [])) t0 = some (.tup [.int 0, .ref L0]) := by rw [upd_ne nLt.symm, upd_ne nbt.symm]; exact ftt
  have l6 : Ls (upd (upd (upd (upd (upd H3 ba (.dK [])) L0 (.lst [])) t0 (.tup [.int 0, .ref L0])) ba (.dK [(.inl 0, .ref t0)])) L0 (.frz ob2 (.lst []))) L0 [] := Ls.mk'
  show tSeq _ _ _ _ (upd (upd (upd (upd (upd H3 ba (.dK [])) L0 (.lst [])) t0 (.tup [.int 0, .ref L0])) ba (.dK [(.inl 0, .ref t0)])) L0 (.frz ob2 (.lst [])))
  generalize upd (upd (upd (upd (upd H3 ba (.dK [])) L0 (.lst [])) t0 (.tup [.int 0, .ref L0])) ba (.dK [(.inl 0, .ref t0)])) L0 (.frz ob2 (.lst [])) = H6 at e6 b6 t6 l6 ⊢
  have hpt6 := hpt.px (Px.of _ _ e6)
  have frb : H3 ba = none := hba
  have k6 : BestK H6 (fun _ => 0) [(.inl 0, .ref t0)] 1 := ⟨rfl, fun b hb => by
    obtain rfl : b = 0 := by omega
    exact ⟨t0, L0, [], rfl, t6, l6, Nat.le_refl _⟩⟩
  walk_at "w"
  refine ⟨szl (by omega), ?_⟩
  walk_at "w"
  refine ⟨_, _, rfl, ⟨by decide, by decide, by rw [e62]; omega, by rw [e62]; omega⟩, ?_⟩
  rw [show ((z.length : Int) + 1 - 1).toNat = ds.length by omega]
  refine for_go ds.length (fun i σ H' => ∃ (s5 : Option V) (f : Nat → Int) (kvs : List (Key × V)), σ = [some (.ref m), some (.str z), some .non, some (.ref pr), some (.ref ba), s5, none, none, none, none, none] ∧ Same H3 H' ∧ H' ba = some (.dK kvs) ∧ BestK H' f kvs (i + 1) ∧ IsB M ds i f)
    ⟨_, _, _, rfl, e6, b6, k6, rfl, fun e h1 h2 => by omega, fun e b h1 h2 => by omega⟩ ?_ ?_
  · rintro i σ H7 hi ⟨s5, f, kvs, rfl, e7, hb7, k7, hf⟩
    refine ⟨hi, fun x H'' hx => ?_⟩
    obtain ⟨rfl, rfl⟩ := hx
    rw [show (1 : Int) + (i : Int) = ((i + 1 : Nat) : Int) by omega]
    have pt7 := hpt.px (Px.of _ _ e7)
    walk_at "w"
    refine ⟨ba, pr, M, ds, f, kvs, i + 1, rfl, by omega, by omega, hl, hb7, k7, pt7, fun t H8 x L tk e8 ht hL hlt hex hle => ?_⟩
    have k8 := k7.px (Px.of _ _ e8)
    have hb8 := e8 _ _ hb7
    refine ⟨_, rfl, _, rfl, ba, _, rfl, .inl ⟨kvs, .inl ((i + 1 : Nat) : Int), hb8, rfl, szL (by rw [k7.1]; omega), rfl⟩, ?_⟩
    rw [putK_new k8]
    have pm : Px H8 (upd H8 ba (.dK (kvs ++ [(.inl ((i + 1 : Nat) : Int), .ref t)]))) := Px.mut hb8 (fun z => z)
    refine ⟨_, setF f (i + 1) x, _, rfl, same_mut (e7.trans e8) frb, upd_same, ⟨by rw [List.length_append, List.length_singleton, k8.1], fun b hb => ?_⟩, ?_, fun e h2 h3 => ?_, fun e b h2 h3 => ?_⟩
    · by_cases hbi : b = i + 1
      · subst hbi
        refine ⟨t, L, tk, by rw [List.getElem?_append_right (by rw [k8.1]; exact Nat.le_refl _), k8.1, Nat.sub_self]; rfl, ?_, hL.px pm, hlt⟩
        rw [setF_same]
        exact pm _ _ ht True.intro
      · obtain ⟨t', L', tk', g1, g2, g3, g4⟩ := k8.2 b (by omega)
        refine ⟨t', L', tk', by rw [List.getElem?_append_left (by rw [k8.1]; omega)]; exact g1, ?_, g3.px pm, g4⟩
        rw [setF_ne hbi]
        exact pm _ _ g2 True.intro
    · rw [setF_ne (by omega)]
      exact hf.z
    · by_cases he : e = i + 1
      · subst he
        obtain ⟨b, g1, g2⟩ := hex
        refine ⟨b, g1, ?_⟩
        rw [setF_same, setF_ne (by omega)]
        exact g2
      · obtain ⟨b, g1, g2⟩ := hf.ex e h2 (by omega)
        refine ⟨b, g1, ?_⟩
        rw [setF_ne he, setF_ne (by omega)]
        exact g2
    · by_cases he : e = i + 1
      · subst he
        rw [setF_same, setF_ne (by omega)]
        exact hle b h3
      · rw [setF_ne he, setF_ne (by omega)]
        exact hf.le e b (by omega) h3
  · rintro σ H7 ⟨s5, f, kvs, rfl, e7, hb7, k7, hf⟩
    refine ⟨Nat.le_refl _, ?_⟩
    obtain ⟨t, L, tk, g1, g2, g3, g4⟩ := k7.2 ds.length (by omega)
    walk_at "w"
    refine ⟨szl (by omega), ?_⟩
    refine ⟨ba, .ref t, rfl, .inl ⟨kvs, .inl (ds.length : Int), .inl hb7, by rw [hz]; rfl, (k7.val g1).symm⟩, .now ?_⟩
    exact q t _ _ L (e13.trans e7) g2 (.inr ⟨hne, f, hf, rfl⟩)
end Cab
set_option Elab.async false
set_option linter.all false
set_option maxRecDepth 100000
set_option maxHeartbeats 2000000
set_option pp.maxSteps 1500
namespace Cab
open PySem PySem.Spec PyProof.Rows L2

local macro_rules | `(tactic| walk_at "w") => `(tactic| repeat (first | refine Gh.now ?_ | refine ⟨_, rfl, ?_⟩ | refine ⟨_, _, rfl, rfl, ?_⟩ | refine ⟨rfl, ?_⟩))
local macro_rules | `(tactic| walk_at "g") => `(tactic| repeat (first | refine ⟨_, _, rfl, rfl, ?_⟩ | refine ⟨_, _, rfl, ?_⟩ | refine ⟨rfl, ?_⟩ | refine Gh.now ?_ | refine ⟨_, rfl, ?_⟩))
local macro_rules | `(tactic| walk_at "len") => `(tactic| first | (intro hh; obtain ⟨e, _⟩ := hh; exact congrArg List.length e) | (intro hh; obtain ⟨_, e, _⟩ := hh; exact congrArg List.length e) | (intro hh; obtain ⟨_, _, e, _⟩ := hh; exact congrArg List.length e) | (intro hh; obtain ⟨_, _, _, e, _⟩ := hh; exact congrArg List.length e) | (intro hh; obtain ⟨_, _, _, _, e, _⟩ := hh; exact congrArg List.length e) | (intro hh; obtain ⟨_, _, _, _, _, e, _⟩ := hh; exact congrArg List.length e) | (intro hh; obtain ⟨_, _, _, _, _, _, e, _⟩ := hh; exact congrArg List.length e) | (intro hh; obtain ⟨_, _, _, _, _, _, _, e, _⟩ := hh; exact congrArg List.length e) | (intro hh; obtain ⟨_, _, _, _, _, _, _, _, e, _⟩ := hh; exact congrArg List.length e) | (intro hh; obtain ⟨_, _, _, _, _, _, _, _, _, e, _⟩ := hh; exact congrArg List.length e) | (intro hh; obtain ⟨_, _, _, _, _, _, _, _, _, _, e, _⟩ := hh; exact congrArg List.length e) | (intro hh; obtain ⟨_, _, _, _, _, _, _, _, _, _, _, e, _⟩ := hh; exact congrArg List.length e) | (intro hh; obtain ⟨_, _, _, _, _, _, _, _, _, _, _, _, e, _⟩ := hh; exact congrArg List.length e))
variable {P : Program} {w : World} {K : PySem.W.Frag} {mg : Str → Option Value} {base : Heap}

/-! ### stretches -/
inductive Sx where
  | road (n top : Nat)
  | light (w : Nat)
def Sx.ok : Sx → Prop
  | .road n top => 1 ≤ n ∧ n ≤ 60 ∧ 1 ≤ top ∧ top ≤ 9
  | .light w => w ≤ 9
def Sx.wt : Sx → Nat
  | .road n _ => n
  | .light w => w
def SxA (H : Hp) (a : Addr) : Sx → Prop
  | .road n top => H a = some (.tup [.str "road", .int n, .int top])
  | .light w => H a = some (.tup [.str "light", .int w])
theorem SxA.px {H H' : Hp} {a : Addr} {s : Sx} (e : Px H H') (h : SxA H a s) : SxA H' a s := by
  cases s with
  | road n top => exact e _ _ h True.intro
  | light w => exact e _ _ h True.intro
def SL (H : Hp) (as : List Addr) (l : List Sx) : Prop := as.length = l.length ∧ ∀ (i : Nat) (a : Addr) (s : Sx), as[i]? = some a → l[i]? = some s → SxA H a s
theorem SL.px {H H' : Hp} {as : List Addr} {l : List Sx} (e : Px H H') (h : SL H as l) : SL H' as l := ⟨h.1, fun i a s h1 h2 => (h.2 i a s h1 h2).px e⟩
def RtAt (K : PySem.W.Frag) (H : Hp) (r : Addr) (l : List Sx) : Prop := (∀ s ∈ l, s.ok) ∧ ∃ dx t, ∃ as : List Addr, H r = some (.ins (He.ga K "Route") dx [("row", .ref t)]) ∧ H t = some (.tup (as.map V.ref)) ∧ SL H as l
theorem RtAt.px {K : PySem.W.Frag} {H H' : Hp} {r : Addr} {l : List Sx} (e : Px H H') (h : RtAt K H r l) : RtAt K H' r l := by
  obtain ⟨o, dx, t, as, h1, h2, h3⟩ := h
  exact ⟨o, dx, t, as, e _ _ h1 True.intro, e _ _ h2 True.intro, h3.px e⟩
def pr_is_stretch (P : Program) (w : World) (K : PySem.W.Frag) : Pr := fun vs H Q => ∃ (a : Addr) (s : Sx), vs = [.ref a] ∧ SxA H a s ∧ s.ok ∧ Q (.bl true) H
theorem ok_is_stretch (T : Wd K mg base) : Fn P w K mg base 3 (He.ga K "is_stretch") (pr_is_stretch P w K) := by
  obtain ⟨fd, F0⟩ := T.fdef 28 (d := d_is_stretch)
  have F : FunD K "is_stretch" "is_stretch" (defArgs s_is_stretch) (defBody s_is_stretch) (defScope s_is_stretch) [] [] (He.ga K "is_stretch") fd := F0
  refine fn_mk (N := N_is_stretch) (ps := ["value"]) F sc_is_stretch (fun kV doc pm an cdv ct us hl => match us, hl with | [u0], _ => rfl) (fun vs H Q => by walk_at "len") fun cdv A outer s H vs Q E hr h => ?_
  refine ⟨_, (pss_cons (ps_if (PW.pt (pw_or (pt_not (pt_val (pe_callB call_isi (by rfl) T.f_isinstance (by decide +kernel) (pa_cons (pv 0) (pa_cons (pe_bltn (v := .ty "tuple") (u := .type "tuple") (by rfl) T.f_tuple (by decide +kernel) rfl) pa_nil))))) (pw_or (pt_cmpR op_eq (pe_callB (call_lenK (K := K)) (by rfl) T.f_len (by decide +kernel) (pa_cons (pv 0) pa_nil)) pe_int (nomark _)) (pw_or1 (pt_not (pt_val (pe_callB call_isi (by rfl) T.f_isinstance (by decide +kernel) (pa_cons (pe_ix (ix_tup : IxR _ (rIxT K)) (pv 0) pe_int (fun _ _ => rfl)) (pa_cons (pe_bltn (v := .ty "str") (u := .type "str") (by rfl) T.f_str (by decide +kernel) rfl) pa_nil))))))))) (pss_one (ps_ret (pe_gh pe_bl))) pss_nil) (pss_cons (ps_if (pt_cmpR op_eq (pe_ix (ix_tup : IxR _ (rIxT K)) (pv 0) pe_int (fun _ _ => rfl)) pe_str (nomark _)) (pss_one (ps_ret (pe_gh (pe_and (pe_cmpR op_eq (pe_callB (call_lenK (K := K)) (by rfl) T.f_len (by decide +kernel) (pa_cons (pv 0) pa_nil)) pe_int (nomark _)) (pe_and (pe_R (ok_is_between T) (hr.mono (by decide)) T.g_is_between T.k_is_between (pa_cons (pe_ix (ix_tup : IxR _ (rIxT K)) (pv 0) pe_int (fun _ _ => rfl)) (pa_cons pe_int (pa_cons (C8.pe_gc rfl T.c_LONGEST_ROAD) pa_nil)))) (pe_one (pe_R (ok_is_between T) (hr.mono (by decide)) T.g_is_between T.k_is_between (pa_cons (pe_ix (ix_tup : IxR _ (rIxT K)) (pv 0) pe_int (fun _ _ => rfl)) (pa_cons pe_int (pa_cons (C8.pe_gc rfl T.c_GREATEST_SPEED_town) pa_nil)))))))))) pss_nil) (pss_one (ps_ret (pe_gh (pe_and (pe_cmpR op_eq (pe_ix (ix_tup : IxR _ (rIxT K)) (pv 0) pe_int (fun _ _ => rfl)) pe_str (nomark _)) (pe_and (pe_cmpR op_eq (pe_callB (call_lenK (K := K)) (by rfl) T.f_len (by decide +kernel) (pa_cons (pv 0) pa_nil)) pe_int (nomark _)) (pe_one (pe_R (ok_is_between T) (hr.mono (by decide)) T.g_is_between T.k_is_between (pa_cons (pe_ix (ix_tup : IxR _ (rIxT K)) (pv 0) pe_int (fun _ _ => rfl)) (pa_cons pe_int (pa_cons (C8.pe_gc rfl T.c_LONGEST_HOLD) pa_nil)))))))))))), ?_⟩
  obtain ⟨a, s, rfl, hs, ho, q⟩ := h
  cases s with
  | road n top =>
    obtain ⟨h1, h2, h3, h4⟩ := ho
    have hs : H a = some (.tup [.str "road", .int n, .int top]) := hs
    walk_at "w"
    refine ⟨_, _, _, _, _, rfl, .ty _, .base (.tup hs), rfl, ?_⟩
    walk_at "w"
    refine ⟨_, _, rfl, .inr (sqT_of hs), ?_⟩
    walk_at "w"
    refine ⟨_, _, _, _, rfl, rfl, sqT_of hs, rfl, ?_⟩
    walk_at "w"
    refine ⟨_, _, _, _, _, rfl, .ty _, .base (.str _), rfl, ?_⟩
    walk_at "w"
    refine ⟨_, _, _, _, rfl, rfl, sqT_of hs, rfl, ?_⟩
    walk_at "w"
    refine ⟨_, _, rfl, .inr (sqT_of hs), ?_⟩
    walk_at "w"
    refine ⟨_, _, _, _, rfl, rfl, sqT_of hs, rfl, ?_⟩
    walk_at "w"
    refine ⟨_, _, _, rfl, by omega, by omega, ?_⟩
    walk_at "w"
    refine ⟨_, _, _, _, rfl, rfl, sqT_of hs, rfl, ?_⟩
    walk_at "w"
    exact ⟨_, _, _, rfl, by omega, by omega, .now q⟩
  | light v =>
    have ho : v ≤ 9 := ho
    have hs : H a = some (.tup [.str "light", .int v]) := hs
    walk_at "w"
    refine ⟨_, _, _, _, _, rfl, .ty _, .base (.tup hs), rfl, ?_⟩
    walk_at "w"
    refine ⟨_, _, rfl, .inr (sqT_of hs), ?_⟩
    walk_at "w"
    refine ⟨_, _, _, _, rfl, rfl, sqT_of hs, rfl, ?_⟩
    walk_at "w"
    refine ⟨_, _, _, _, _, rfl, .ty _, .base (.str _), rfl, ?_⟩
    walk_at "w"
    refine ⟨_, _, _, _, rfl, rfl, sqT_of hs, rfl, ?_⟩
    walk_at "w"
    refine ⟨_, _, _, _, rfl, rfl, sqT_of hs, rfl, ?_⟩
    walk_at "w"
    refine ⟨_, _, rfl, .inr (sqT_of hs), ?_⟩
    walk_at "w"
    refine ⟨_, _, _, _, rfl, rfl, sqT_of hs, rfl, ?_⟩
    walk_at "w"
    exact ⟨_, _, _, rfl, by omega, by omega, .now q⟩
def pr_Route_init (P : Program) (w : World) (K : PySem.W.Frag) : Pr := fun vs H Q => ∃ (x a dx : Addr) (as : List Addr) (l : List Sx), vs = [.ref x, .ref a] ∧ H x = some (.ins (He.ga K "Route") dx []) ∧ H a = some (.lst (as.map V.ref)) ∧ SL H as l ∧ (∀ s ∈ l, s.ok) ∧ 1 ≤ l.length ∧ l.length ≤ 12 ∧
  ∀ H', Ob x H H' → RtAt K H' x l → Q .non H'
theorem ok_Route_init (T : Wd K mg base) : Fn P w K mg base 4 (He.ma K (He.ga K "Route") "__init__") (pr_Route_init P w K) := by
  obtain ⟨fd, F0⟩ := T.fdef 70 (d := d_Route_init)
  have F : FunD K "__init__" "Route.__init__" (defArgs s_Route_init) (defBody s_Route_init) (defScope s_Route_init) [] [] (He.ma K (He.ga K "Route") "__init__") fd := F0
  refine fn_mk (N := N_Route_init) (ps := ["self", "stretches"]) F sc_Route_init (fun kV doc pm an cdv ct us hl => match us, hl with | [u0, u1], _ => rfl) (fun vs H Q => by walk_at "len") fun cdv A outer s H vs Q E hr h => ?_
  refine ⟨_, (pss_cons (ps_if (PW.pt (pw_or (pt_not (pt_val (pe_callB call_isi (by rfl) T.f_isinstance (by decide +kernel) (pa_cons (pv 1) (pa_cons (pe_bltn (v := .ty "list") (u := .type "list") (by rfl) T.f_list (by decide +kernel) rfl) pa_nil))))) (pw_or1 (pt_not (pt_chain op_le op_le pe_int (pe_callB (call_lenK (K := K)) (by rfl) T.f_len (by decide +kernel) (pa_cons (pv 1) pa_nil)) (C8.pe_gc rfl T.c_MOST_STRETCHES)))))) (pss_one ps_never) pss_nil) (pss_cons (ps_if (pt_not (pt_val (pe_callB (cr_all rfl) (by rfl) T.f_all (by decide +kernel) (pa_cons (pe_lc (own := [("stretch", 2)]) rfl sc_Route_init.nd (pi_listK (K := K) (pv 1)) (blkOk_by (own := [("stretch", 2)]) (N := N_Route_init) (sc := defScope s_Route_init) (by decide +kernel)) (fun _ _ _ _ _ => (pg_name (i := 2) sc_Route_init.nd rfl (Or.inl rfl))) (fun _ _ _ _ _ => pts_nil) (fun _ _ _ _ _ => (pe_R (ok_is_stretch T) (hr.mono (by decide)) T.g_is_stretch T.k_is_stretch (pa_cons (pv 2) pa_nil)))) pa_nil)))) (pss_one ps_never) pss_nil) (pss_one (ps_fld (pv 0) (pe_callTy call_tuple_of (by rfl) T.f_tuple (by decide +kernel) (pa_cons (pv 1) pa_nil)) rfl)))), ?_⟩
  obtain ⟨x, a, dx, as, l, rfl, hx, ha, hs, ho, hl1, hl2, q⟩ := h
  have nax : a ≠ x := fun z => by rw [z, hx] at ha; cases ha
  walk_at "w"
  refine ⟨_, _, _, _, _, rfl, .ty _, .base (.lst ha), rfl, ?_⟩
  walk_at "w"
  refine ⟨_, _, rfl, .inl (sqL_of ha), ?_⟩
  walk_at "w"
  have hln := hs.1
  refine iT (dT (by simp; omega)) ?_
  walk_at "w"
  refine iF (by rw [dT (by simp; omega)]; rfl) ?_
  walk_at "w"
  refine ⟨⟨_, sqL_of ha⟩, fun D hD => ?_⟩
  refine lc_map ((List.replicate as.length true).map V.bl) hD (fun i H' hi c => ?_) fun H1 e1 hq => ⟨⟨_, sqL_of (e1 _ _ ha), by simp⟩, ?_⟩
  · have hi' : i < as.length := by simpa using hi
    refine ⟨itl_go (sqL_of (c.same _ _ ha)) (by simpa using hi'), fun y H'' hy => ?_⟩
    obtain ⟨rfl, hy⟩ := hy
    have hy := hy _ (sqL_of (c.same _ _ ha))
    rw [List.getElem?_map, List.getElem?_eq_getElem hi'] at hy
    obtain rfl : V.ref as[i] = y := Option.some.inj hy
    have hil : i < l.length := by omega
    refine ⟨rfl, ?_⟩
    walk_at "w"
    refine ⟨_, l[i], rfl, (hs.2 i _ _ (List.getElem?_eq_getElem hi') (List.getElem?_eq_getElem hil)).px c.px, ho _ (List.getElem_mem hil), ?_⟩
    exact CR.fin Rz.mono c (by omega) (Same.refl _) (rz_rep hi')
  walk_at "w"
  refine ⟨_, _, rfl, sqL_of hq, ?_⟩
  walk_at "w"
  rw [allB]
  refine iF rfl ?_
  walk_at "w"
  refine ⟨_, _, rfl, .inl ⟨sqL_of (e1 _ _ ha), fun r hr2 => ?_⟩⟩
  have hx1 := e1 _ _ hx
  have hxr : x ≠ r := fun z => by rw [← z, hx1] at hr2; cases hr2
  refine ⟨_, rfl, _, _, _, _, rfl, by rw [upd_ne hxr]; exact hx1, T.cls_Route, T.n_Route_row, Nat.le_of_ble_eq_true rfl, ?_⟩
  have oE : Ob x H (upd (upd H1 r (.tup (as.map V.ref))) x (.ins (He.ga K "Route") dx [("row", .ref r)])) := ((Ob.of e1).mut (fresh_of e1 hr2)).trans Ob.at
  refine q _ oE ⟨ho, dx, r, as, upd_same, by rw [upd_ne hxr.symm, upd_same], hs.1, fun i b s h1 h2 => ?_⟩
  have h3 := hs.2 i b s h1 h2
  cases s with
  | road n top => exact oE _ _ (fun z => by have h4 : H b = some (.tup [.str "road", .int n, .int top]) := h3; rw [z, hx] at h4; cases h4) h3
  | light v => exact oE _ _ (fun z => by have h4 : H b = some (.tup [.str "light", .int v]) := h3; rw [z, hx] at h4; cases h4) h3
def pr_count_waited (P : Program) (w : World) (K : PySem.W.Frag) : Pr := fun vs H Q => ∃ (m ad : Addr) (M : Mt) (c : Int) (k : Nat), vs = [.ref m, .int c, .int k] ∧ MetI K H m M ad ∧ k ≤ 1000 ∧ ∀ H', Same H H' → Q (.int ((List.replicate k 0).foldl M.on c)) H'
theorem ok_count_waited (T : Wd K mg base) : Fn P w K mg base 7 (He.ga K "count_waited") (pr_count_waited P w K) := by
  obtain ⟨fd, F0⟩ := T.fdef 30 (d := d_count_waited)
  have F : FunD K "count_waited" "count_waited" (defArgs s_count_waited) (defBody s_count_waited) (defScope s_count_waited) [] [] (He.ga K "count_waited") fd := F0
  refine fn_mk (N := N_count_waited) (ps := ["meter", "count", "ticks"]) F sc_count_waited (fun kV doc pm an cdv ct us hl => match us, hl with | [u0, u1, u2], _ => rfl) (fun vs H Q => by walk_at "len") fun cdv A outer s H vs Q E hr h => ?_
  refine ⟨_, (pss_cons (ps_for PassesOwn.never rfl (pi_range1 rfl T.f_range (pa_cons (pv 2) pa_nil)) (pg_name (i := 3) sc_count_waited.nd rfl (Or.inl rfl)) (pss_one (ps_set (i := 1) sc_count_waited.nd rfl (Or.inl rfl) (pe_M (ok_Meter_count_on T) (hr.mono (by decide)) T.cls_Meter T.m_Meter_count_on (pv 0) (pa_cons (pv 1) (pa_cons pe_int pa_nil)))))) (pss_one (ps_ret (pe_gh (pv 1))))), ?_⟩
  obtain ⟨m, ad, M, c, k, rfl, hm, hk, q⟩ := h
  obtain ⟨o, dx, an, a2, a3, tb, h1, _⟩ := id hm
  have e62 : (2 : Int) ^ 62 = 4611686018427387904 := by decide
  walk_at "w"
  refine ⟨by rw [e62]; omega, by rw [e62]; omega, ?_⟩
  rw [Int.toNat_natCast]
  refine for_go k (fun i σ H' => ∃ s3, σ = [some (.ref m), some (.int ((List.replicate i 0).foldl M.on c)), some (.int k), s3] ∧ Same H H') ⟨_, rfl, Same.refl _⟩ ?_ ?_
  · rintro i σ H' hi ⟨s3, rfl, e⟩
    refine ⟨hi, fun x H'' hx => ?_⟩
    obtain ⟨rfl, rfl⟩ := hx
    refine ⟨_, rfl, _, _, _, rfl, e _ _ h1, rfl, ?_⟩
    walk_at "w"
    refine ⟨m, ad, M, _, 0, rfl, hm.px (.of _ _ e), by omega, fun H2 e2 => ?_⟩
    refine ⟨some (.int (0 + (i : Int))), ?_, e.trans e2⟩
    rw [List.replicate_succ', List.foldl_append]
    rfl
  · rintro σ H' ⟨s3, rfl, e⟩
    refine ⟨Nat.le_refl _, ?_⟩
    walk_at "w"
    exact q _ e
def Sx.st : Sx → Int
  | .road n _ => n
  | .light _ => 0
def pr_Route_steps (P : Program) (w : World) (K : PySem.W.Frag) : Pr := fun vs H Q => ∃ (r : Addr) (l : List Sx), vs = [.ref r] ∧ RtAt K H r l ∧ l.length ≤ 100 ∧ ∀ H', Same H H' → Q (.int (l.map Sx.st).sum) H'
theorem ok_Route_steps (T : Wd K mg base) : Fn P w K mg base 1 (He5.wf K (He.ga K "Route") "property" "steps") (pr_Route_steps P w K) := by
  obtain ⟨fd, F0⟩ := T.fdef 71 (d := d_Route_steps)
  have F : FunD K "steps" "Route.steps" (defArgs s_Route_steps) (defBody s_Route_steps) (defScope s_Route_steps) [] [] (He5.wf K (He.ga K "Route") "property" "steps") fd := F0
  refine fn_mk (N := N_Route_steps) (ps := ["self"]) F sc_Route_steps (fun kV doc pm an cdv ct us hl => match us, hl with | [u0], _ => rfl) (fun vs H Q => by walk_at "len") fun cdv A outer s H vs Q E hr h => ?_
  refine ⟨_, (pss_one (ps_ret (pe_gh (pe_callB (cr_sum rfl) (by rfl) T.f_sum (by decide +kernel) (pa_cons (pe_lc (own := [("stretch", 1)]) rfl sc_Route_steps.nd (pi_tup (pe_fld (pv 0) rfl)) (blkOk_by (own := [("stretch", 1)]) (N := N_Route_steps) (sc := defScope s_Route_steps) (by decide +kernel)) (fun _ _ _ _ _ => (pg_name (i := 1) sc_Route_steps.nd rfl (Or.inl rfl))) (fun _ _ _ _ _ => (pts_one (pt_cmpR op_eq (pe_ix (ix_tup : IxR _ (rIxT K)) (pv 1) pe_int (fun _ _ => rfl)) pe_str (nomark _)))) (fun _ _ _ _ _ => (pe_ix (ix_tup : IxR _ (rIxT K)) (pv 1) pe_int (fun _ _ => rfl)))) pa_nil))))), ?_⟩
  obtain ⟨r, l, rfl, ⟨ho, dx, t, as, h1, h2, h3⟩, hl, q⟩ := h
  walk_at "w"
  refine ⟨_, _, _, _, _, rfl, h1, T.cls_Route, T.n_Route_row, rfl, ?_⟩
  refine ⟨_, rfl, ⟨_, sqT_of h2⟩, fun D hD => ?_⟩
  have hln := h3.1
  refine lc_go as.length (fun i H' => Same H H' ∧ ∃ acc : List Int, H' D = some (.lst (acc.map V.int)) ∧ acc.length ≤ i ∧ acc.sum = ((l.take i).map Sx.st).sum) ⟨same_new hD, [], upd_same, Nat.le_refl _, rfl⟩ (fun i H' hi hN => ?_) fun H1 hN => ⟨⟨_, sqT_of (hN.1 _ _ h2), by simp⟩, ?_⟩
  · obtain ⟨e, acc, hacc, hal, hsum⟩ := hN
    refine ⟨itt_go (sqT_of (e _ _ h2)) (by simpa using hi), fun y H'' hy => ?_⟩
    obtain ⟨rfl, hy⟩ := hy
    have hy := hy _ (sqT_of (e _ _ h2))
    rw [List.getElem?_map, List.getElem?_eq_getElem hi] at hy
    obtain rfl : V.ref as[i] = y := Option.some.inj hy
    have hil : i < l.length := by omega
    have hs := (h3.2 i _ _ (List.getElem?_eq_getElem hi) (List.getElem?_eq_getElem hil)).px (.of _ _ e)
    have htk : ((l.take (i + 1)).map Sx.st).sum = ((l.take i).map Sx.st).sum + l[i].st := by
      rw [List.take_add_one, List.getElem?_eq_getElem hil, List.map_append, List.sum_append]
      simp
    refine ⟨rfl, ?_⟩
    cases hli : l[i] with
    | road n top =>
      rw [hli] at hs htk
      have hs : H'' as[i] = some (.tup [.str "road", .int n, .int top]) := hs
      walk_at "w"
      refine ⟨_, _, _, _, rfl, rfl, sqT_of hs, rfl, ?_⟩
      walk_at "w"
      refine ⟨_, _, _, _, rfl, rfl, sqT_of hs, rfl, ?_⟩
      refine ⟨_, hacc, szL (by simp; omega), same_mut e hD, acc ++ [(n : Int)], by rw [upd_same, List.map_append]; rfl, by simp; omega, ?_⟩
      rw [htk, List.sum_append, hsum]
      simp [Sx.st]
    | light v =>
      rw [hli] at hs htk
      have hs : H'' as[i] = some (.tup [.str "light", .int v]) := hs
      walk_at "w"
      refine ⟨_, _, _, _, rfl, rfl, sqT_of hs, rfl, ?_⟩
      walk_at "w"
      refine ⟨e, acc, hacc, by omega, ?_⟩
      rw [htk, hsum]
      simp [Sx.st]
  obtain ⟨e1, acc, hacc, hal, hsum⟩ := hN
  walk_at "w"
  refine ⟨_, acc, rfl, sqL_of hacc, .now ?_⟩
  rw [hln, List.take_length] at hsum
  exact qv_eq (congrArg V.int hsum) (q _ e1)
end Cab
set_option Elab.async false
set_option linter.all false
set_option maxRecDepth 100000
set_option maxHeartbeats 2000000
set_option pp.maxSteps 1500
namespace Cab
open PySem PySem.Spec PyProof.Rows L2

local macro_rules | `(tactic| walk_at "w") => `(tactic| repeat (first | refine Gh.now ?_ | refine ⟨_, rfl, ?_⟩ | refine ⟨_, _, rfl, rfl, ?_⟩ | refine ⟨rfl, ?_⟩))
local macro_rules | `(tactic| walk_at "g") => `(tactic| repeat (first | refine ⟨_, _, rfl, rfl, ?_⟩ | refine ⟨_, _, rfl, ?_⟩ | refine ⟨rfl, ?_⟩ | refine Gh.now ?_ | refine ⟨_, rfl, ?_⟩))
local macro_rules | `(tactic| walk_at "len") => `(tactic| first | (intro hh; obtain ⟨e, _⟩ := hh; exact congrArg List.length e) | (intro hh; obtain ⟨_, e, _⟩ := hh; exact congrArg List.length e) | (intro hh; obtain ⟨_, _, e, _⟩ := hh; exact congrArg List.length e) | (intro hh; obtain ⟨_, _, _, e, _⟩ := hh; exact congrArg List.length e) | (intro hh; obtain ⟨_, _, _, _, e, _⟩ := hh; exact congrArg List.length e) | (intro hh; obtain ⟨_, _, _, _, _, e, _⟩ := hh; exact congrArg List.length e) | (intro hh; obtain ⟨_, _, _, _, _, _, e, _⟩ := hh; exact congrArg List.length e) | (intro hh; obtain ⟨_, _, _, _, _, _, _, e, _⟩ := hh; exact congrArg List.length e) | (intro hh; obtain ⟨_, _, _, _, _, _, _, _, e, _⟩ := hh; exact congrArg List.length e) | (intro hh; obtain ⟨_, _, _, _, _, _, _, _, _, e, _⟩ := hh; exact congrArg List.length e) | (intro hh; obtain ⟨_, _, _, _, _, _, _, _, _, _, e, _⟩ := hh; exact congrArg List.length e) | (intro hh; obtain ⟨_, _, _, _, _, _, _, _, _, _, _, e, _⟩ := hh; exact congrArg List.length e) | (intro hh; obtain ⟨_, _, _, _, _, _, _, _, _, _, _, _, e, _⟩ := hh; exact congrArg List.length e))
variable {P : Program} {w : World} {K : PySem.W.Frag} {mg : Str → Option Value} {base : Heap}

/-- a way along a stretch -/
def fit1 : Sx → List Nat → Prop
  | .road n top, ds => ds.sum = n ∧ ∀ v ∈ ds, 1 ≤ v ∧ v ≤ top
  | .light w, ds => ∃ k, k ≤ w ∧ ds = List.replicate k 0
inductive Fit : List Sx → List Nat → Prop where
  | nil : Fit [] []
  | snoc {l : List Sx} {s : Sx} {a b : List Nat} (h : Fit l a) (k : fit1 s b) : Fit (l ++ [s]) (a ++ b)
theorem sum_ge {top : Nat} : ∀ {b : List Nat}, (∀ v ∈ b, 1 ≤ v ∧ v ≤ top) → b.length ≤ b.sum
  | [], _ => Nat.le_refl _
  | a :: r, h => by
    have := sum_ge fun v hv => h v (List.mem_cons_of_mem a hv)
    have := (h a List.mem_cons_self).1
    simp only [List.length_cons, List.sum_cons]
    omega
theorem take_lt {top : Nat} {b : List Nat} (h : ∀ v ∈ b, 1 ≤ v ∧ v ≤ top) {j : Nat} (hj : j < b.length) : (b.take j).sum < b.sum := by
  have e : b.sum = (b.take j).sum + (b.drop j).sum := by rw [← List.sum_append, List.take_append_drop]
  have h2 := sum_ge (b := b.drop j) fun v hv => h v (List.mem_of_mem_drop hv)
  rw [List.length_drop] at h2
  omega
theorem Tz.get {z : Str} {ds : List Nat} (h : Tz z ds) {i : Nat} (hi : i < ds.length) : z.cps.toList[i]? = some (48 + ds[i]) := by
  rw [h.1, List.getElem?_map, List.getElem?_eq_getElem hi]
  rfl
theorem int_dig {v : Nat} (h : v ≤ 9) : PySem.intText? ⟨#[48 + v]⟩ = some (v : Int) := by
  have e : ∀ m : Fin 10, PySem.intText? ⟨#[48 + m.1]⟩ = some (m.1 : Int) := by decide +kernel
  exact e ⟨v, by omega⟩
theorem str_eq {a b : Str} (h : a.cps.toList = b.cps.toList) : a = b := by
  obtain ⟨x⟩ := a
  obtain ⟨y⟩ := b
  have : x = y := Array.toList_inj.mp h
  rw [this]
theorem cut1 {z : Str} {ds : List Nat} (h : Tz z ds) (i : Nat) (hi : i ≤ ds.length) : decide (V.str (cutS z (some (i : Int)) (some ((i + 1 : Nat) : Int))) = V.str "0") = decide (ds[i]? = some 0) := by
  have e0 : ("0" : Str).cps.toList = [48] := by decide
  by_cases hlt : i < ds.length
  · have tc := cut_ds h i (i + 1) (by omega) (by omega)
    have e1 : (ds.drop i).take (i + 1 - i) = [ds[i]] := by
      rw [Nat.add_sub_cancel_left, List.drop_eq_getElem_cons hlt]
      rfl
    rw [e1] at tc
    rw [List.getElem?_eq_getElem hlt]
    refine decide_eq_decide.mpr ⟨fun z2 => ?_, fun z2 => ?_⟩
    · have z3 := V.str.inj z2
      have h1 := tc.1
      rw [z3, e0] at h1
      have h2 : 48 = 48 + ds[i] := by simpa using h1
      exact congrArg some (by omega)
    · have h1 : ds[i] = 0 := Option.some.inj z2
      refine congrArg V.str (str_eq ?_)
      rw [tc.1, e0, h1]
      rfl
  · have hi2 : i = ds.length := by omega
    rw [List.getElem?_eq_none (by omega)]
    have e1 : HT.sIx z.length 0 (some (i : Int)) = i := sIx_nat (by rw [h.len]; omega)
    have e2 : (cutS z (some (i : Int)) (some ((i + 1 : Nat) : Int))).cps.toList = [] := by
      show ((z.cps.toList.drop _).take _) = _
      rw [e1, List.drop_eq_nil_of_le (by rw [Array.length_toList]; show z.length ≤ i; rw [h.len]; omega)]
      exact List.take_nil
    refine decide_eq_decide.mpr ⟨fun z2 => ?_, fun z2 => by cases z2⟩
    rw [V.str.inj z2, e0] at e2
    cases e2
def pr_ends_in (P : Program) (w : World) (K : PySem.W.Frag) : Pr := fun vs H Q => ∃ (a : Addr) (z : Str) (ds : List Nat) (tick : Nat) (s : Sx), vs = [.str z, .int tick, .ref a] ∧ Tz z ds ∧ ds.length ≤ 2000 ∧ tick ≤ ds.length ∧ SxA H a s ∧ s.ok ∧
  ∀ L H' (ns : List Nat), Same H H' → Ls H' L (ns.map fun t : Nat => V.int t) → ns.length ≤ 20 → (∀ t ∈ ns, t ≤ ds.length) → (∀ b, fit1 s b → (ds.drop tick).take b.length = b → tick + b.length ≤ ds.length → tick + b.length ∈ ns) → Q (.ref L) H'
theorem ok_ends_in (T : Wd K mg base) : Fn P w K mg base 1 (He.ga K "ends_in") (pr_ends_in P w K) := by
  obtain ⟨fd, F0⟩ := T.fdef 31 (d := d_ends_in)
  have F : FunD K "ends_in" "ends_in" (defArgs s_ends_in) (defBody s_ends_in) (defScope s_ends_in) [] [] (He.ga K "ends_in") fd := F0
  refine fn_mk (N := N_ends_in) (ps := ["trip", "tick", "stretch"]) F sc_ends_in (fun kV doc pm an cdv ct us hl => match us, hl with | [u0, u1, u2], _ => rfl) (fun vs H Q => by walk_at "len") fun cdv A outer s H vs Q E hr h => ?_
  refine ⟨_, (pss_cons (ps_if (pt_cmpR op_eq (pe_ix (ix_tup : IxR _ (rIxT K)) (pv 2) pe_int (fun _ _ => rfl)) pe_str (nomark _)) (pss_gcons (ps_set (i := 3) sc_ends_in.nd rfl (Or.inl rfl) (pe_lst (pa_cons (pv 1) pa_nil))) (pss_cons (ps_while PassesOwn.never (PW.pt (pw_and (pt_cmpR op_le (pe_callB (call_lenK (K := K)) (by rfl) T.f_len (by decide +kernel) (pa_cons (pv 3) pa_nil)) (pe_ix (ix_tup : IxR _ (rIxT K)) (pv 2) pe_int (fun _ _ => rfl)) (nomark _)) (pw_and1 (pt_cmpR op_eq (pe_slice sl_str (pv 0) (po_some (pe_ix (ix_list : IxR _ (rIxL K)) (pv 3) (pe_un un_neg pe_int) (fun _ _ => rfl))) (po_some (pe_op op_add (pe_ix (ix_list : IxR _ (rIxL K)) (pv 3) (pe_un un_neg pe_int) (fun _ _ => rfl)) pe_int))) pe_str (nomark _))))) (pss_one (ps_expr (pe_bm PySem.F.plainAttrs_list PySem.F.slot_list_append PySem.F.type_list_append mt_append (pv 3) (pa_cons (pe_op op_add (pe_ix (ix_list : IxR _ (rIxL K)) (pv 3) (pe_un un_neg pe_int) (fun _ _ => rfl)) pe_int) pa_nil))))) (pss_one (ps_ret (pe_gh (pv 3)))))) pss_nil) (pss_gcons (ps_set (i := 4) sc_ends_in.nd rfl (Or.inl rfl) pe_int) (pss_cons (ps_while PassesOwn.never (PW.pt (pw_and (pt_cmpR op_lt (pv 4) (pe_ix (ix_tup : IxR _ (rIxT K)) (pv 2) pe_int (fun _ _ => rfl)) (nomark _)) (pw_and (pt_cmpR op_lt (pv 1) (pe_callB call_len_str (by rfl) T.f_len (by decide +kernel) (pa_cons (pv 0) pa_nil)) (nomark _)) (pw_and1 (pt_chain op_le op_le pe_int (pe_callTy call_int_str (by rfl) T.f_int (by decide +kernel) (pa_cons (pe_ix ix_str (pv 0) (pv 1) (fun _ _ => rfl)) pa_nil)) (pe_ix (ix_tup : IxR _ (rIxT K)) (pv 2) pe_int (fun _ _ => rfl))))))) (pss_cons (ps_aug (i := 4) sc_ends_in.nd rfl (Or.inl rfl) (pe_callTy call_int_str (by rfl) T.f_int (by decide +kernel) (pa_cons (pe_ix ix_str (pv 0) (pv 1) (fun _ _ => rfl)) pa_nil)) ip_add) (pss_one (ps_aug (i := 1) sc_ends_in.nd rfl (Or.inl rfl) pe_int ip_add)))) (pss_one (ps_ret (pe_gh (pe_ifExp (pt_cmpR op_eq (pv 4) (pe_ix (ix_tup : IxR _ (rIxT K)) (pv 2) pe_int (fun _ _ => rfl)) (nomark _)) (pe_lst (pa_cons (pv 1) pa_nil)) (pe_lst pa_nil)))))))), ?_⟩
  obtain ⟨a, z, ds, tick, s, rfl, tz, hl, htk, hs, ho, q⟩ := h
  have hz := tz.len
  cases s with
  | light v =>
    have ho : v ≤ 9 := ho
    have hs : H a = some (.tup [.str "light", .int v]) := hs
    walk_at "w"
    refine ⟨_, _, _, _, rfl, rfl, sqT_of hs, rfl, ?_⟩
    walk_at "w"
    refine ⟨sz, fun L hL => .now ?_⟩
    refine ⟨fun m σ H' => ∃ j : Nat, m = v - j ∧ j ≤ v ∧ tick + j ≤ ds.length ∧ (∀ i, i < j → ds[tick + i]? = some 0) ∧ σ = [some (.str z), some (.int tick), some (.ref a), some (.ref L), none] ∧ Same H H' ∧ H' L = some (.lst ((List.range (j + 1)).map fun i => .int ((tick + i : Nat) : Int))), ⟨v, 0, rfl, Nat.zero_le _, htk, (fun i h => by omega), rfl, same_new hL, by rw [upd_same]; rfl⟩, ?_⟩
    rintro m σ H1 ⟨j, rfl, hj, hjl, hz0, rfl, e1, hL1⟩
    have hs1 := e1 _ _ hs
    walk_at "w"
    refine ⟨_, _, rfl, .inl (sqL_of hL1), ?_⟩
    walk_at "w"
    refine ⟨_, _, _, _, rfl, rfl, sqT_of hs1, rfl, ?_⟩
    refine ⟨_, _, rfl, rfl, _, rfl, ?_⟩
    have fin : ∀ (hend : j = v ∨ ds[tick + j]? ≠ some 0), Gh H1 (Q (.ref L)) := fun hend => by
      refine .frz hL1 True.intro fun ob => .now ?_
      refine q L _ ((List.range (j + 1)).map fun i => tick + i) (same_mut e1 hL) (by rw [List.map_map]; exact Ls.mk') (by simp; omega) (fun t ht => ?_) fun b hb hpre hle => ?_
      · obtain ⟨i, hi, rfl⟩ := List.mem_map.mp ht
        have := List.mem_range.mp hi
        omega
      · obtain ⟨k, hk, rfl⟩ := hb
        rw [List.length_replicate] at hle hpre ⊢
        refine List.mem_map.mpr ⟨k, List.mem_range.mpr ?_, rfl⟩
        rcases Nat.lt_or_ge k (j + 1) with h | h
        · exact h
        · rcases hend with h2 | h2
          · omega
          · refine absurd ?_ h2
            have h3 : ((ds.drop tick).take k)[j]? = some 0 := by rw [hpre, List.getElem?_replicate, if_pos (by omega)]
            rw [List.getElem?_take_of_lt (by omega), List.getElem?_drop] at h3
            exact h3
    by_cases hjv : j < v
    · refine iT (dT (by simp; omega)) ?_
      walk_at "w"
      refine ⟨_, _, _, _, rfl, rfl, sqL_of hL1, atI_last _ j, ?_⟩
      walk_at "w"
      refine ⟨_, _, _, _, rfl, rfl, sqL_of hL1, atI_last _ j, ?_⟩
      walk_at "w"
      refine ⟨szl (by omega), ?_⟩
      walk_at "w"
      show (if decide (V.str (cutS z (some ((tick + j : Nat) : Int)) (some (((tick + j : Nat) : Int) + 1))) = V.str "0") = true then _ else _)
      rw [show ((tick + j : Nat) : Int) + 1 = ((tick + j + 1 : Nat) : Int) by omega, cut1 tz (tick + j) hjl]
      refine iB (fun h0 => ?_) fun h0 => ?_
      · have h0 := of_decide_eq_true h0
        have hlt := (List.getElem?_eq_some_iff.mp h0).1
        refine ⟨_, fun σ' H' h => h, ?_⟩
        refine ⟨_, rfl, .inl ⟨rfl, _, sqL_of hL1⟩, ?_⟩
        walk_at "w"
        refine ⟨_, _, _, _, rfl, rfl, sqL_of hL1, atI_last _ j, ?_⟩
        walk_at "w"
        refine ⟨L, _, _, rfl, rfl, hL1, szL (by simp; omega), ?_⟩
        refine ⟨v - (j + 1), by omega, j + 1, rfl, by omega, by omega, fun i hi => ?_, rfl, same_mut e1 hL, ?_⟩
        · by_cases h : i < j
          · exact hz0 i h
          · rw [show i = j by omega]
            exact h0
        · rw [upd_same, ← range_snoc _ (j + 1)]
          exact congrArg (fun x => some (HO.lst (_ ++ [V.int x]))) (show ((tick + j : Nat) : Int) + 1 = ((tick + (j + 1) : Nat) : Int) by omega)
      · exact ⟨_, rfl, fin (.inr (of_decide_eq_false h0))⟩
    · refine iF (dF (by simp; omega)) ?_
      exact ⟨_, rfl, fin (.inl (by omega))⟩
  | road n top =>
    obtain ⟨h1, h2, h3, h4⟩ := ho
    have hs : H a = some (.tup [.str "road", .int n, .int top]) := hs
    walk_at "w"
    refine ⟨_, _, _, _, rfl, rfl, sqT_of hs, rfl, ?_⟩
    walk_at "w"
    refine ⟨fun m σ H' => ∃ j : Nat, m = ds.length - (tick + j) ∧ tick + j ≤ ds.length ∧ σ = [some (.str z), some (.int ((tick + j : Nat) : Int)), some (.ref a), none, some (.int ((((ds.drop tick).take j).sum : Nat) : Int))] ∧ H' = H ∧ (∀ v ∈ (ds.drop tick).take j, 1 ≤ v ∧ v ≤ top) ∧ ∀ i, i < j → ((ds.drop tick).take i).sum < n,
      ⟨_, 0, rfl, htk, rfl, rfl, (fun v hv => by rw [List.take_zero] at hv; cases hv), fun i h => by omega⟩, ?_⟩
    rintro m σ H1 ⟨j, rfl, hjl, rfl, rfl, hall, hlt⟩
    have fin : ∀ (hend : n ≤ ((ds.drop tick).take j).sum ∨ tick + j = ds.length ∨ ∃ (h : tick + j < ds.length), ¬ (1 ≤ ds[tick + j] ∧ ds[tick + j] ≤ top)), tRet (tGh (tIf (tTest (tOp rEq (tVar 4) (tOp (rIxT K) (tVar 2) (tC (.int 1))))) (tLst (tCons (tVar 1) tNil)) (tLst tNil))) { nx := fun _ H' => Q .non H', rt := Q } [some (.str z), some (.int ((tick + j : Nat) : Int)), some (.ref a), none, some (.int ((((ds.drop tick).take j).sum : Nat) : Int))] H1 := fun hend => by
      have key : ∀ b, fit1 (.road n top) b → (ds.drop tick).take b.length = b → tick + b.length ≤ ds.length → b.length = j ∧ ((ds.drop tick).take j).sum = n := fun b hb hpre hle => by
        obtain ⟨hsum, hbv⟩ := hb
        have g1 : ¬ b.length < j := fun h => by
          have := hlt b.length h
          rw [hpre] at this
          omega
        have g2 : ¬ j < b.length := fun h => by
          have e : (ds.drop tick).take j = b.take j := by rw [← hpre, List.take_take, Nat.min_eq_left (by omega)]
          have h5 := take_lt hbv h
          rw [← e] at h5
          rcases hend with h6 | h6 | ⟨h6, h7⟩
          · omega
          · omega
          · refine h7 ?_
            have h8 : b[j]? = some ds[tick + j] := by
              rw [← hpre, List.getElem?_take_of_lt h, List.getElem?_drop, List.getElem?_eq_getElem h6]
            exact hbv _ (List.mem_of_getElem? h8)
        have e : b.length = j := by omega
        exact ⟨e, by rw [← e, hpre]; exact hsum⟩
      walk_at "w"
      refine ⟨_, _, _, _, rfl, rfl, sqT_of hs, rfl, ?_⟩
      walk_at "w"
      refine iB (fun hq => ?_) fun hq => ?_
      · walk_at "w"
        refine ⟨sz, fun L hL => ?_⟩
        refine .frz upd_same True.intro fun ob => .now ?_
        refine q L _ [tick + j] (same_mut (same_new hL) hL) Ls.mk' (by simp) (fun t ht => by rw [List.mem_singleton.mp ht]; exact hjl) fun b hb hpre hle => ?_
        rw [(key b hb hpre hle).1]
        exact List.mem_singleton.mpr rfl
      · walk_at "w"
        refine ⟨sz, fun L hL => ?_⟩
        refine .frz upd_same True.intro fun ob => .now ?_
        refine q L _ [] (same_mut (same_new hL) hL) Ls.mk' (by simp) (fun t ht => by cases ht) fun b hb hpre hle => ?_
        rw [(key b hb hpre hle).2] at hq
        exact absurd rfl (of_decide_eq_false hq)
    refine ⟨_, rfl, _, rfl, _, _, _, _, rfl, rfl, sqT_of hs, rfl, ?_⟩
    refine ⟨_, _, rfl, rfl, _, rfl, ?_⟩
    refine iB (fun hw => ?_) fun hw => iF rfl (fin (.inl (by have := of_decide_eq_false hw; omega)))
    have hw : ((ds.drop tick).take j).sum < n := by have := of_decide_eq_true hw; omega
    refine ⟨_, rfl, _, rfl, _, rfl, szl (by omega), ?_⟩
    refine ⟨_, _, rfl, rfl, _, rfl, ?_⟩
    refine iB (fun ht => ?_) fun ht => iF rfl (fin (.inr (.inl (by have := of_decide_eq_false ht; omega))))
    have ht : tick + j < ds.length := by have := of_decide_eq_true ht; omega
    have hd9 := tz.2 _ (List.getElem_mem ht)
    have hci : atI z.cps.toList ((tick + j : Nat) : Int) = some (48 + ds[tick + j]) := atI_nat (tz.get ht)
    refine ⟨_, rfl, _, rfl, _, _, _, rfl, rfl, szl (by omega), hci, ?_⟩
    refine ⟨_, _, rfl, int_dig hd9, (by show (1 : Nat) ≤ 640; decide), ?_⟩
    refine ⟨_, _, rfl, rfl, _, rfl, ?_⟩
    refine iB (fun hd => ?_) fun hd => ?_
    · have hd : 1 ≤ ds[tick + j] := by have := of_decide_eq_true hd; omega
      refine ⟨_, rfl, _, _, _, _, rfl, rfl, sqT_of hs, rfl, ?_⟩
      refine ⟨_, _, rfl, rfl, _, rfl, ?_⟩
      refine iB (fun hu => ?_) fun hu => ?_
      · have hu : ds[tick + j] ≤ top := by have := of_decide_eq_true hu; omega
        refine ⟨_, fun σ' H' h => h, ?_⟩
        have htake : (ds.drop tick).take (j + 1) = (ds.drop tick).take j ++ [ds[tick + j]] := by
          rw [List.take_add_one, List.getElem?_drop, List.getElem?_eq_getElem ht]
          rfl
        refine ⟨_, rfl, _, rfl, _, rfl, _, _, _, rfl, rfl, szl (by omega), hci, ?_⟩
        refine ⟨_, _, rfl, int_dig hd9, (by show (1 : Nat) ≤ 640; decide), ?_⟩
        refine ⟨_, _, rfl, rfl, ?_⟩
        refine ⟨_, rfl, _, _, rfl, rfl, ?_⟩
        refine ⟨ds.length - (tick + (j + 1)), by omega, j + 1, rfl, by omega, ?_, rfl, fun v hv => ?_, fun i hi => ?_⟩
        · rw [htake, List.sum_append]
          have e1 : ((tick + j : Nat) : Int) + 1 = ((tick + (j + 1) : Nat) : Int) := by omega
          have e2 : ((((ds.drop tick).take j).sum : Nat) : Int) + (ds[tick + j] : Int) = ((((ds.drop tick).take j).sum + [ds[tick + j]].sum : Nat) : Int) := by simp
          rw [← e1, ← e2]
          rfl
        · rw [htake] at hv
          rcases List.mem_append.mp hv with h | h
          · exact hall v h
          · rw [List.mem_singleton.mp h]
            exact ⟨hd, hu⟩
        · by_cases h : i < j
          · exact hlt i h
          · rw [show i = j by omega]
            exact hw
      · exact fin (.inr (.inr ⟨ht, fun h => by have := of_decide_eq_false hu; omega⟩))
    · exact ⟨_, rfl, iF rfl (fin (.inr (.inr ⟨ht, fun h => by have := of_decide_eq_false hd; omega⟩)))⟩
end Cab
set_option Elab.async false
set_option linter.all false
set_option maxRecDepth 100000
set_option maxHeartbeats 2000000
set_option pp.maxSteps 1500
namespace Cab
open PySem PySem.Spec PyProof.Rows L2

local macro_rules | `(tactic| walk_at "w") => `(tactic| repeat (first | refine Gh.now ?_ | refine ⟨_, rfl, ?_⟩ | refine ⟨_, _, rfl, rfl, ?_⟩ | refine ⟨rfl, ?_⟩))
local macro_rules | `(tactic| walk_at "g") => `(tactic| repeat (first | refine ⟨_, _, rfl, rfl, ?_⟩ | refine ⟨_, _, rfl, ?_⟩ | refine ⟨rfl, ?_⟩ | refine Gh.now ?_ | refine ⟨_, rfl, ?_⟩))
local macro_rules | `(tactic| walk_at "len") => `(tactic| first | (intro hh; obtain ⟨e, _⟩ := hh; exact congrArg List.length e) | (intro hh; obtain ⟨_, e, _⟩ := hh; exact congrArg List.length e) | (intro hh; obtain ⟨_, _, e, _⟩ := hh; exact congrArg List.length e) | (intro hh; obtain ⟨_, _, _, e, _⟩ := hh; exact congrArg List.length e) | (intro hh; obtain ⟨_, _, _, _, e, _⟩ := hh; exact congrArg List.length e) | (intro hh; obtain ⟨_, _, _, _, _, e, _⟩ := hh; exact congrArg List.length e) | (intro hh; obtain ⟨_, _, _, _, _, _, e, _⟩ := hh; exact congrArg List.length e) | (intro hh; obtain ⟨_, _, _, _, _, _, _, e, _⟩ := hh; exact congrArg List.length e) | (intro hh; obtain ⟨_, _, _, _, _, _, _, _, e, _⟩ := hh; exact congrArg List.length e) | (intro hh; obtain ⟨_, _, _, _, _, _, _, _, _, e, _⟩ := hh; exact congrArg List.length e) | (intro hh; obtain ⟨_, _, _, _, _, _, _, _, _, _, e, _⟩ := hh; exact congrArg List.length e) | (intro hh; obtain ⟨_, _, _, _, _, _, _, _, _, _, _, e, _⟩ := hh; exact congrArg List.length e) | (intro hh; obtain ⟨_, _, _, _, _, _, _, _, _, _, _, _, e, _⟩ := hh; exact congrArg List.length e))
variable {P : Program} {w : World} {K : PySem.W.Frag} {mg : Str → Option Value} {base : Heap}

theorem nodup_le : ∀ (N : Nat) (ns : List Nat), ns.Nodup → (∀ n ∈ ns, n < N) → ns.length ≤ N
  | 0, ns, _, h => by
    cases ns with
    | nil => exact Nat.le_refl _
    | cons a r => exact absurd (h a List.mem_cons_self) (Nat.not_lt_zero _)
  | N + 1, ns, hn, h => by
    have h1 := nodup_le N (ns.erase N) (hn.erase N) fun n hm => by
      have h2 := h n (List.mem_of_mem_erase hm)
      have h3 : n ≠ N := fun e => by
        rw [e] at hm
        exact (List.Nodup.mem_erase_iff hn).mp hm |>.1 rfl
      omega
    have h2 : ns.length ≤ (ns.erase N).length + 1 := by
      rw [List.length_erase]
      split <;> omega
    omega
/-- keys: whole numbers to N, each once -/
def KI (kvs : List (Key × V)) (N : Nat) : Prop := (kvs.map (·.1)).Nodup ∧ ∀ kv ∈ kvs, ∃ t : Nat, t ≤ N ∧ kv.1 = .inl (t : Int)
def k2n : Key → Nat
  | .inl i => i.toNat
  | .inr _ => 0
theorem KI.len {kvs : List (Key × V)} {N : Nat} (h : KI kvs N) : kvs.length ≤ N + 1 := by
  have h1 := nodup_le (N + 1) (kvs.map fun kv => k2n kv.1) (by
    rw [show (fun kv : Key × V => k2n kv.1) = k2n ∘ (·.1) from rfl, ← List.map_map]
    refine List.Pairwise.map (S := fun a b => a ≠ b) (R := fun a b : Key => a ≠ b ∧ a ∈ kvs.map (·.1) ∧ b ∈ kvs.map (·.1)) k2n (fun a b hab e => ?_) ?_
    · obtain ⟨h1, h2, h3⟩ := hab
      obtain ⟨x, hx, rfl⟩ := List.mem_map.mp h2
      obtain ⟨y, hy, rfl⟩ := List.mem_map.mp h3
      obtain ⟨t, _, e1⟩ := h.2 x hx
      obtain ⟨u, _, e2⟩ := h.2 y hy
      rw [e1, e2] at e h1
      have e : (t : Int).toNat = (u : Int).toNat := e
      exact h1 (congrArg Sum.inl (by omega))
    · exact List.Pairwise.imp_of_mem (fun ha hb hab => ⟨hab, ha, hb⟩) h.1) (fun n hn => by
    obtain ⟨kv, hk, rfl⟩ := List.mem_map.mp hn
    obtain ⟨t, ht, e⟩ := h.2 kv hk
    show k2n kv.1 < N + 1
    rw [e]
    show (t : Int).toNat < N + 1
    omega)
  rw [List.length_map] at h1
  exact h1
theorem putK_keys (kvs : List (Key × V)) (k : Key) (v : V) : (putK kvs k v).map (·.1) = if (kvs.any fun kv => decide (kv.1 = k)) = true then kvs.map (·.1) else kvs.map (·.1) ++ [k] := by
  unfold putK
  split
  · rw [List.map_map]
    refine List.map_congr_left fun kv _ => ?_
    show (if kv.1 = k then (kv.1, v) else kv).1 = kv.1
    split <;> rfl
  · rw [List.map_append]
    rfl
theorem KI.put {kvs : List (Key × V)} {N t : Nat} {v : V} (h : KI kvs N) (ht : t ≤ N) : KI (putK kvs (.inl (t : Int)) v) N := by
  refine ⟨?_, fun kv hk => ?_⟩
  · rw [putK_keys]
    split
    · exact h.1
    · rename_i hn
      refine List.nodup_append.mpr ⟨h.1, List.pairwise_singleton _ _, fun a ha b hb e => ?_⟩
      rw [List.mem_singleton.mp hb] at e
      obtain ⟨x, hx, e2⟩ := List.mem_map.mp ha
      exact hn (List.any_eq_true.mpr ⟨x, hx, decide_eq_true (e2.trans e)⟩)
  · have hk2 : kv.1 ∈ (putK kvs (.inl (t : Int)) v).map (·.1) := List.mem_map.mpr ⟨kv, hk, rfl⟩
    rw [putK_keys] at hk2
    have : kv.1 ∈ kvs.map (·.1) ∨ kv.1 = .inl (t : Int) := by
      split at hk2
      · exact .inl hk2
      · rcases List.mem_append.mp hk2 with h | h
        · exact .inl h
        · exact .inr (List.mem_singleton.mp h)
    rcases this with h2 | h2
    · obtain ⟨x, hx, e⟩ := List.mem_map.mp h2
      rw [← e]
      exact h.2 x hx
    · exact ⟨t, ht, h2⟩
theorem dc_go {u0 : Addr → HO} {J : It} {g : TG} {tt : TT} {tb : L2.St → Hp → Addr → (Hp → Prop) → Prop} {vs : List Nat} {σ : L2.St} {H1 : Hp} {D : Addr} {Qd : Hp → Prop} (n : Nat) (N : Nat → Hp → Prop) (w0 : N 0 (upd H1 D (u0 D)))
    (each : ∀ i H', i < n → N i H' → J.go i H' ∧ ∀ x H'', J.yld i H' x H'' → g x (wipe σ vs) H'' fun σ2 H2 => wipe σ2 vs = wipe σ vs ∧ tt σ2 H2 fun b H3 => if b = true then tb σ2 H3 D (N (i + 1)) else N (i + 1) H3)
    (done : ∀ H', N n H' → J.stop n H' ∧ Qd H') :
    ∃ W : Nat → Nat → Hp → Prop, (∃ m, W 0 m (upd H1 D (u0 D))) ∧ ∀ i m H, W i m H → (J.stop i H ∧ Qd H) ∨ (J.go i H ∧ ∃ Nx : Hp → Prop, (∀ H', Nx H' → ∃ m', m' < m ∧ W (i + 1) m' H') ∧
      ∀ x H', J.yld i H x H' → g x (wipe σ vs) H' fun σ2 H2 => wipe σ2 vs = wipe σ vs ∧ tt σ2 H2 fun b H3 => if b = true then tb σ2 H3 D Nx else Nx H3) := by
  refine ⟨fun i m H => m = n - i ∧ i ≤ n ∧ N i H, ⟨n, rfl, Nat.zero_le _, w0⟩, ?_⟩
  rintro i m H ⟨rfl, hi, hW⟩
  by_cases hlt : i < n
  · obtain ⟨g1, g2⟩ := each i H hlt hW
    exact .inr ⟨g1, fun H' => N (i + 1) H', fun H' p => ⟨n - (i + 1), by omega, rfl, hlt, p⟩, g2⟩
  · have e : i = n := by omega
    rw [e] at hW ⊢
    exact .inl (done H hW)
theorem fit_take {l : List Sx} {ds : List Nat} (h : Fit l ds) {i : Nat} : True := True.intro
end Cab
set_option Elab.async false
set_option linter.all false
set_option maxRecDepth 100000
set_option maxHeartbeats 2000000
set_option pp.maxSteps 1500
namespace Cab
open PySem PySem.Spec PyProof.Rows L2

local macro_rules | `(tactic| walk_at "w") => `(tactic| repeat (first | refine Gh.now ?_ | refine ⟨_, rfl, ?_⟩ | refine ⟨_, _, rfl, rfl, ?_⟩ | refine ⟨rfl, ?_⟩))
local macro_rules | `(tactic| walk_at "g") => `(tactic| repeat (first | refine ⟨_, _, rfl, rfl, ?_⟩ | refine ⟨_, _, rfl, ?_⟩ | refine ⟨rfl, ?_⟩ | refine Gh.now ?_ | refine ⟨_, rfl, ?_⟩))
local macro_rules | `(tactic| walk_at "len") => `(tactic| first | (intro hh; obtain ⟨e, _⟩ := hh; exact congrArg List.length e) | (intro hh; obtain ⟨_, e, _⟩ := hh; exact congrArg List.length e) | (intro hh; obtain ⟨_, _, e, _⟩ := hh; exact congrArg List.length e) | (intro hh; obtain ⟨_, _, _, e, _⟩ := hh; exact congrArg List.length e) | (intro hh; obtain ⟨_, _, _, _, e, _⟩ := hh; exact congrArg List.length e) | (intro hh; obtain ⟨_, _, _, _, _, e, _⟩ := hh; exact congrArg List.length e) | (intro hh; obtain ⟨_, _, _, _, _, _, e, _⟩ := hh; exact congrArg List.length e) | (intro hh; obtain ⟨_, _, _, _, _, _, _, e, _⟩ := hh; exact congrArg List.length e) | (intro hh; obtain ⟨_, _, _, _, _, _, _, _, e, _⟩ := hh; exact congrArg List.length e) | (intro hh; obtain ⟨_, _, _, _, _, _, _, _, _, e, _⟩ := hh; exact congrArg List.length e) | (intro hh; obtain ⟨_, _, _, _, _, _, _, _, _, _, e, _⟩ := hh; exact congrArg List.length e) | (intro hh; obtain ⟨_, _, _, _, _, _, _, _, _, _, _, e, _⟩ := hh; exact congrArg List.length e) | (intro hh; obtain ⟨_, _, _, _, _, _, _, _, _, _, _, _, e, _⟩ := hh; exact congrArg List.length e))
variable {P : Program} {w : World} {K : PySem.W.Frag} {mg : Str → Option Value} {base : Heap}

theorem Fit.inv {l : List Sx} {s : Sx} {c : List Nat} (h : Fit (l ++ [s]) c) : ∃ a b, c = a ++ b ∧ Fit l a ∧ fit1 s b := by
  generalize hl : l ++ [s] = l2 at h
  cases h with
  | nil => simp at hl
  | @snoc l' s' a b h k =>
    obtain ⟨rfl, e⟩ := List.append_inj' hl rfl
    cases e
    exact ⟨a, b, rfl, h, k⟩
theorem take_snoc {α : Type} {l : List α} {i : Nat} (h : i < l.length) : l.take (i + 1) = l.take i ++ [l[i]] := by
  rw [List.take_add_one, List.getElem?_eq_getElem h]
  rfl
def pr_Route_has (P : Program) (w : World) (K : PySem.W.Frag) : Pr := fun vs H Q => ∃ (r : Addr) (z : Str) (ds : List Nat) (l : List Sx), vs = [.ref r, .str z] ∧ Tz z ds ∧ ds.length ≤ 2000 ∧ RtAt K H r l ∧ Fit l ds ∧ ∀ H', Same H H' → Q (.bl true) H'
theorem ok_Route_has (T : Wd K mg base) : Fn P w K mg base 3 (He.ma K (He.ga K "Route") "has") (pr_Route_has P w K) := by
  obtain ⟨fd, F0⟩ := T.fdef 72 (d := d_Route_has)
  have F : FunD K "has" "Route.has" (defArgs s_Route_has) (defBody s_Route_has) (defScope s_Route_has) [] [] (He.ma K (He.ga K "Route") "has") fd := F0
  refine fn_mk (N := N_Route_has) (ps := ["self", "trip"]) F sc_Route_has (fun kV doc pm an cdv ct us hl => match us, hl with | [u0, u1], _ => rfl) (fun vs H Q => by walk_at "len") fun cdv A outer s H vs Q E hr h => ?_
  refine ⟨_, (pss_cons (ps_expr (pe_R (ok_check_trip T) (hr.mono (by decide)) T.g_check_trip T.k_check_trip (pa_cons (pv 1) pa_nil))) (pss_gcons (ps_set (i := 2) sc_Route_has.nd rfl (Or.inl rfl) (pe_disp (pps_cons pe_int pe_bl pps_nil) (by rfl) (by rfl) (fun z => by cases z) (by decide))) (pss_cons (ps_for PassesOwn.never rfl (pi_tup (pe_fld (pv 0) rfl)) (pg_name (i := 3) sc_Route_has.nd rfl (Or.inr rfl)) (pss_one (ps_gh (ps_setDc2 (i := 2) (own := [("tick", 4), ("end", 5)]) (vs1 := [5]) rfl sc_Route_has.nd rfl rfl (swD_true rfl rfl rfl (by decide +kernel)) (pi_keys (pv 2)) (blkOk_by (own := [("tick", 4), ("end", 5)]) (N := N_Route_has) (sc := defScope s_Route_has) (by decide +kernel)) (by decide) (fun _ _ _ _ _ => (pg_name (i := 4) sc_Route_has.nd rfl (Or.inl rfl))) (fun _ _ _ _ _ => pts_nil) (fun _ _ _ _ _ => (pi_listK (K := K) (pe_R (ok_ends_in T) (hr.mono (by decide)) T.g_ends_in T.k_ends_in (pa_cons (pv 1) (pa_cons (pv 4) (pa_cons (pv 3) pa_nil)))))) (fun _ _ _ _ _ => (pg_name (i := 5) sc_Route_has.nd rfl (Or.inl rfl))) (fun _ _ _ _ _ => pts_nil) (fun _ _ _ _ _ => (pv 5)) (fun _ _ _ _ _ => pe_bl))))) (pss_one (ps_ret (pe_gh (pe_cmp (pc_din (hu_of hr) (pe_callB call_len_str (by rfl) T.f_len (by decide +kernel) (pa_cons (pv 1) pa_nil)) (pv 2)) rfl))))))), ?_⟩
  obtain ⟨r, z, ds, l, rfl, tz, hl, hrt, hf, q⟩ := h
  have hz := tz.len
  walk_at "w"
  refine ⟨tz.dig hl, fun H1 e1 => ?_⟩
  obtain ⟨ho, dx, rt, as, h1, h2, h3⟩ := hrt.px (Px.of _ _ e1)
  have hln := h3.1
  intro t0 ht0
  refine ⟨upd_same, [(.inl 0, .bl true)], rfl, Nat.le_of_ble_eq_true rfl, .now ?_⟩
  have e2 : Same H1 (upd (upd H1 t0 (.dK [])) t0 (.dK [(.inl 0, .bl true)])) := same_mut (same_new ht0) ht0
  have d2 : upd (upd H1 t0 (.dK [])) t0 (.dK [(.inl 0, .bl true)]) t0 = some (.dK [(.inl 0, .bl true)]) := upd_same
  show tSeq _ _ _ _ (upd (upd H1 t0 (.dK [])) t0 (.dK [(.inl 0, .bl true)]))
  generalize upd (upd H1 t0 (.dK [])) t0 (.dK [(.inl 0, .bl true)]) = H2 at e2 d2 ⊢
  refine ⟨_, rfl, _, _, _, _, _, rfl, e2 _ _ h1, T.cls_Route, T.n_Route_row, rfl, ?_⟩
  refine ⟨_, rfl, ⟨_, sqT_of (e2 _ _ h2)⟩, ?_⟩
  refine for_go as.length (fun i σ H' => ∃ (td : Addr) (s3 : Option V) (kvs : List (Key × V)), σ = [some (.ref r), some (.str z), some (.ref td), s3, none, none] ∧ Same H1 H' ∧ H1 td = none ∧ H' td = some (.dK kvs) ∧ KI kvs ds.length ∧ ∀ a, Fit (l.take i) a → a <+: ds → (valV kvs (.inl (a.length : Int))).isSome = true) ?_ ?_ ?_
  · refine ⟨t0, none, _, rfl, e2, ht0, d2, ⟨by simp, fun kv hk => ?_⟩, fun a ha _ => ?_⟩
    · rw [List.mem_singleton.mp hk]
      exact ⟨0, Nat.zero_le _, rfl⟩
    · rw [List.take_zero] at ha
      generalize hn : ([] : List Sx) = l0 at ha
      cases ha with
      | nil => rfl
      | snoc h k => simp at hn
  · rintro i σ H3 hi ⟨td, s3, kvs, rfl, e3, htd, hd3, hki, hcov⟩
    refine ⟨itt_go (sqT_of (e3 _ _ h2)) (by simpa using hi), fun y H'' hy => ?_⟩
    obtain ⟨rfl, hy⟩ := hy
    have hy := hy _ (sqT_of (e3 _ _ h2))
    rw [List.getElem?_map, List.getElem?_eq_getElem hi] at hy
    obtain rfl : V.ref as[i] = y := Option.some.inj hy
    have hil : i < l.length := by omega
    have hs := h3.2 i _ _ (List.getElem?_eq_getElem hi) (List.getElem?_eq_getElem hil)
    have hso := ho _ (List.getElem_mem hil)
    refine .frz hd3 True.intro fun od => ?_
    have e4 : Same H1 (upd H'' td (.frz od (.dK kvs))) := same_mut e3 htd
    have f4 : upd H'' td (.frz od (.dK kvs)) td = some (.frz od (.dK kvs)) := upd_same
    refine .now ?_
    generalize upd H'' td (.frz od (.dK kvs)) = H4 at e4 f4 ⊢
    refine ⟨_, rfl, td, od, rfl, .inl ⟨kvs, f4, fun D hD => ?_⟩⟩
    have nDt : td ≠ D := fun z => by rw [z, hD] at f4; cases f4
    refine dc_go (u0 := fun _ => .dK []) (J := Itk td od kvs) kvs.length (fun j H' => Same H4 H' ∧ ∃ kv2, H' D = some (.dK kv2) ∧ KI kv2 ds.length ∧ ∀ j' < j, ∀ kv (t : Nat), kvs[j']? = some kv → kv.1 = .inl (t : Int) → ∀ b, fit1 l[i] b → (ds.drop t).take b.length = b → t + b.length ≤ ds.length → (valV kv2 (.inl ((t + b.length : Nat) : Int))).isSome = true)
      ⟨same_new hD, [], upd_same, ⟨by simp, fun _ z => nomatch z⟩, fun j h => by omega⟩ (fun j H5 hj hN => ?_) fun H5 hN => ⟨⟨hN.1 _ _ f4, Nat.le_refl _⟩, ?_⟩
    · obtain ⟨e5, kv2, hd5, hk2, hc2⟩ := hN
      refine ⟨⟨e5 _ _ f4, hj⟩, fun x H6 hx => ?_⟩
      obtain ⟨rfl, k0, v0, hkv, rfl⟩ := hx
      obtain ⟨t, htl, ek⟩ := hki.2 _ (List.mem_of_getElem? hkv)
      have ek : k0 = .inl (t : Int) := ek
      subst ek
      refine ⟨rfl, ?_⟩
      refine yT (iT rfl ?_)
      have e45 := e4.trans e5
      have hs5 := hs.px (Px.of _ _ e45)
      refine ⟨_, rfl, _, rfl, _, rfl, as[i], z, ds, t, l[i], rfl, tz, hl, htl, hs5, hso, fun L H7 ns e7 hL hns hle hall => ?_⟩
      refine ⟨L, rfl, ⟨_, hL.sq⟩, ?_⟩
      have e47 := e5.trans e7
      refine ⟨fun jj m H' => m = ns.length - jj ∧ jj ≤ ns.length ∧ Px H7 H' ∧ Same H4 H' ∧ ∃ kv3, H' D = some (.dK kv3) ∧ KI kv3 ds.length ∧ (∀ k, (valV kv2 k).isSome = true → (valV kv3 k).isSome = true) ∧ ∀ n ∈ ns.take jj, (valV kv3 (.inl (n : Int))).isSome = true,
        ⟨_, rfl, Nat.zero_le _, Px.refl _, e47, kv2, e7 _ _ hd5, hk2, fun k h => h, fun n h => by rw [List.take_zero] at h; cases h⟩, ?_⟩
      rintro jj m H8 ⟨rfl, hjj, p8, e8, kv3, hd8, hk3, hold, hnew⟩
      by_cases hlt : jj < ns.length
      · refine .inr ⟨itl_go (hL.px p8).sq (by simpa using hlt), fun H' => Px H7 H' ∧ Same H4 H' ∧ ∃ kv3, H' D = some (.dK kv3) ∧ KI kv3 ds.length ∧ (∀ k, (valV kv2 k).isSome = true → (valV kv3 k).isSome = true) ∧ ∀ n ∈ ns.take (jj + 1), (valV kv3 (.inl (n : Int))).isSome = true, fun H' h => ⟨ns.length - (jj + 1), by omega, rfl, hlt, h⟩, fun x H9 hx => ?_⟩
        obtain ⟨rfl, hx⟩ := hx
        have hx := hx _ (hL.px p8).sq
        rw [List.getElem?_map, List.getElem?_eq_getElem hlt] at hx
        obtain rfl : V.int (ns[jj] : Nat) = x := Option.some.inj hx
        refine ⟨rfl, yT (iT rfl ?_)⟩
        have hl3 := hk3.len
        refine ⟨_, rfl, kv3, .inl (ns[jj] : Int), rfl, hd8, szL (by omega), p8.trans (Px.mut hd8 (fun z => z)), same_mut e8 hD, _, upd_same, hk3.put (hle _ (List.getElem_mem hlt)), fun k h => ?_, fun n hn => ?_⟩
        · rw [valV_put]
          split
          · rfl
          · exact hold k h
        · rw [valV_put]
          rw [take_snoc hlt] at hn
          split
          · rfl
          · rcases List.mem_append.mp hn with h | h
            · exact hnew n h
            · rename_i hne
              exact absurd (by rw [List.mem_singleton.mp h]) hne
      · have ejj : jj = ns.length := by omega
        subst ejj
        refine .inl ⟨⟨_, (hL.px p8).sq, by simp⟩, e8, kv3, hd8, hk3, fun j' hj' kv t' hkv' hke b hb hpre hle' => ?_⟩
        by_cases h : j' < j
        · exact hold _ (hc2 j' h kv t' hkv' hke b hb hpre hle')
        · have : j' = j := by omega
          subst this
          rw [hkv] at hkv'
          cases hkv'
          have et : t' = t := by
            have h9 : (Sum.inl (t : Int) : Key) = .inl (t' : Int) := hke
            have := Sum.inl.inj h9
            omega
          subst et
          exact hnew _ (by rw [List.take_length]; exact hall b hb hpre hle')
    · obtain ⟨e5, kv2, hd5, hk2, hc2⟩ := hN
      refine ⟨D, _, kv2, rfl, e4.trans e5, fresh_of e4 hD, hd5, hk2, fun c hc hpre => ?_⟩
      rw [take_snoc hil] at hc
      obtain ⟨a, b, rfl, ha, hb⟩ := hc.inv
      have hpa : a <+: ds := (List.prefix_append a b).trans hpre
      have hin := hcov a ha hpa
      rw [← L2.valV_any] at hin
      obtain ⟨kv, hkm, hke⟩ := List.any_eq_true.mp hin
      obtain ⟨j, hj, rfl⟩ := List.mem_iff_getElem.mp hkm
      rw [List.length_append]
      obtain ⟨rest, hrest⟩ := hpre
      refine hc2 j hj _ a.length (List.getElem?_eq_getElem hj) (of_decide_eq_true hke) b hb ?_ ?_
      · rw [← hrest, List.append_assoc, List.drop_left, List.take_left]
      · rw [← hrest]
        simp
  · rintro σ H3 ⟨td, s3, kvs, rfl, e3, htd, hd3, hki, hcov⟩
    refine ⟨⟨_, sqT_of (e3 _ _ h2), by simp⟩, ?_⟩
    have hin := hcov ds (by rw [hln, List.take_length]; exact hf) (List.prefix_refl ds)
    walk_at "w"
    refine ⟨szl (by omega), ?_⟩
    walk_at "w"
    refine ⟨td, _, rfl, .inl ⟨kvs, .inl (z.length : Int), .inl hd3, rfl, rfl⟩, .now ?_⟩
    rw [hz, hin]
    exact q _ (e1.trans e3)
end Cab
set_option Elab.async false
set_option linter.all false
set_option maxRecDepth 100000
set_option maxHeartbeats 2000000
set_option pp.maxSteps 1500
namespace Cab
open PySem PySem.Spec PyProof.Rows L2

local macro_rules | `(tactic| walk_at "w") => `(tactic| repeat (first | refine Gh.now ?_ | refine ⟨_, rfl, ?_⟩ | refine ⟨_, _, rfl, rfl, ?_⟩ | refine ⟨rfl, ?_⟩))
local macro_rules | `(tactic| walk_at "g") => `(tactic| repeat (first | refine ⟨_, _, rfl, rfl, ?_⟩ | refine ⟨_, _, rfl, ?_⟩ | refine ⟨rfl, ?_⟩ | refine Gh.now ?_ | refine ⟨_, rfl, ?_⟩))
local macro_rules | `(tactic| walk_at "len") => `(tactic| first | (intro hh; obtain ⟨e, _⟩ := hh; exact congrArg List.length e) | (intro hh; obtain ⟨_, e, _⟩ := hh; exact congrArg List.length e) | (intro hh; obtain ⟨_, _, e, _⟩ := hh; exact congrArg List.length e) | (intro hh; obtain ⟨_, _, _, e, _⟩ := hh; exact congrArg List.length e) | (intro hh; obtain ⟨_, _, _, _, e, _⟩ := hh; exact congrArg List.length e) | (intro hh; obtain ⟨_, _, _, _, _, e, _⟩ := hh; exact congrArg List.length e) | (intro hh; obtain ⟨_, _, _, _, _, _, e, _⟩ := hh; exact congrArg List.length e) | (intro hh; obtain ⟨_, _, _, _, _, _, _, e, _⟩ := hh; exact congrArg List.length e) | (intro hh; obtain ⟨_, _, _, _, _, _, _, _, e, _⟩ := hh; exact congrArg List.length e) | (intro hh; obtain ⟨_, _, _, _, _, _, _, _, _, e, _⟩ := hh; exact congrArg List.length e) | (intro hh; obtain ⟨_, _, _, _, _, _, _, _, _, _, e, _⟩ := hh; exact congrArg List.length e) | (intro hh; obtain ⟨_, _, _, _, _, _, _, _, _, _, _, e, _⟩ := hh; exact congrArg List.length e) | (intro hh; obtain ⟨_, _, _, _, _, _, _, _, _, _, _, _, e, _⟩ := hh; exact congrArg List.length e))
variable {P : Program} {w : World} {K : PySem.W.Frag} {mg : Str → Option Value} {base : Heap}

theorem foldl_ge (M : Mt) (o : M.Ok) : ∀ (b : List Nat) (c : Int), c ≤ b.foldl M.on c ∧ b.foldl M.on c ≤ c + 60 * (b.length : Int)
  | [], c => ⟨Int.le_refl c, by simp⟩
  | v :: r, c => by
    have h := foldl_ge M o r (M.on c v)
    have hw := o.wt0 v
    simp only [List.foldl_cons, List.length_cons]
    unfold Mt.on at *
    omega
/-- what stands of the ways of j steps -/
structure DOk (M : Mt) (c0 : Nat) (top N j : Nat) (kvs : List (Key × V)) : Prop where
  ki : KI kvs N
  so : ∀ kv ∈ kvs, ∃ b z, fit1 (.road j top) b ∧ kv.1 = .inl (b.foldl M.on (c0 : Int)) ∧ kv.2 = .str z ∧ z.length ≤ j
theorem fit1_len {j top : Nat} {b : List Nat} (h : fit1 (.road j top) b) : b.length ≤ j := by
  have := sum_ge h.2
  rw [h.1] at this
  exact this
theorem DOk.put {M : Mt} (o : M.Ok) {c0 top N j : Nat} {kvs : List (Key × V)} (h : DOk M c0 top N j kvs) {b : List Nat} {z : Str} (hb : fit1 (.road j top) b) (hz : z.length ≤ j) (hN : c0 + 60 * j ≤ N) : DOk M c0 top N j (putK kvs (.inl (b.foldl M.on (c0 : Int))) (.str z)) := by
  have hf := foldl_ge M o b c0
  have hbl := fit1_len hb
  have e : b.foldl M.on (c0 : Int) = ((b.foldl M.on (c0 : Int)).toNat : Int) := by omega
  refine ⟨?_, fun kv hk => ?_⟩
  · rw [e]
    exact h.ki.put (by omega)
  · unfold putK at hk
    split at hk
    · obtain ⟨kv0, h0, rfl⟩ := List.mem_map.mp hk
      by_cases e2 : kv0.1 = .inl (b.foldl M.on (c0 : Int))
      · rw [if_pos e2]
        exact ⟨b, z, hb, e2, rfl, hz⟩
      · rw [if_neg e2]
        exact h.so kv0 h0
    · rcases List.mem_append.mp hk with hk | hk
      · exact h.so kv hk
      · rw [List.mem_singleton.mp hk]
        exact ⟨b, z, hb, rfl, rfl, hz⟩
def In (kvs : List (Key × V)) (c : Int) : Prop := (valV kvs (.inl c)).isSome = true
theorem In.put {kvs : List (Key × V)} {c : Int} {k : Key} {v : V} (h : In kvs c) : In (putK kvs k v) c := by
  unfold In
  rw [valV_put]
  split
  · rfl
  · exact h
theorem In.put1 {kvs : List (Key × V)} {c : Int} {v : V} : In (putK kvs (.inl c) v) c := by
  unfold In
  rw [valV_put, if_pos rfl]
  rfl
/-- the tables of ways, those to s frozen; what is done: Dn -/
structure Fs (M : Mt) (c0 top N n : Nat) (F : Addr) (da : Nat → Addr) (H : Hp) (s : Nat) (kv : Nat → List (Key × V)) (Dn : List Nat → Prop) : Prop where
  f : H F = some (.lst ((List.range (n + 1)).map fun j => .ref (da j)))
  fz : ∀ j, j < s → ∃ o, H (da j) = some (.frz o (.dK (kv j)))
  mu : ∀ j, s ≤ j → j ≤ n → H (da j) = some (.dK (kv j))
  ok : ∀ j, j ≤ n → DOk M c0 top N j (kv j)
  cm : ∀ j, j ≤ n → ∀ b, fit1 (.road j top) b → Dn b → In (kv j) (b.foldl M.on (c0 : Int))
theorem Fs.same {M : Mt} {c0 top N n : Nat} {F : Addr} {da : Nat → Addr} {H H' : Hp} {s : Nat} {kv : Nat → List (Key × V)} {Dn : List Nat → Prop} (e : Same H H') (k : Fs M c0 top N n F da H s kv Dn) : Fs M c0 top N n F da H' s kv Dn :=
  ⟨e _ _ k.f, fun j hj => (k.fz j hj).elim fun o h => ⟨o, e _ _ h⟩, fun j h1 h2 => e _ _ (k.mu j h1 h2), k.ok, k.cm⟩
def setN {α : Type} (f : Nat → α) (i : Nat) (x : α) : Nat → α := fun j => if j = i then x else f j
theorem setN_same {α : Type} {f : Nat → α} {i : Nat} {x : α} : setN f i x i = x := if_pos rfl
theorem setN_ne {α : Type} {f : Nat → α} {i j : Nat} {x : α} (h : j ≠ i) : setN f i x j = f j := if_neg h
/-- one more way -/
theorem Fs.put {M : Mt} (o : M.Ok) {c0 top N n : Nat} {F : Addr} {da : Nat → Addr} {H : Hp} {s : Nat} {kv : Nat → List (Key × V)} {Dn Dn' : List Nat → Prop} (inj : ∀ i j, i ≤ n → j ≤ n → da i = da j → i = j) (nF : ∀ j, j ≤ n → da j ≠ F)
    (k : Fs M c0 top N n F da H s kv Dn) {i : Nat} (hi : s ≤ i) (hin : i ≤ n) {b : List Nat} {z : Str} (hb : fit1 (.road i top) b) (hz : z.length ≤ i) (hN : c0 + 60 * n ≤ N) (hD : ∀ b', Dn' b' → Dn b' ∨ b' = b) :
    Fs M c0 top N n F da (upd H (da i) (.dK (putK (kv i) (.inl (b.foldl M.on (c0 : Int))) (.str z)))) s (setN kv i (putK (kv i) (.inl (b.foldl M.on (c0 : Int))) (.str z))) Dn' := by
  refine ⟨by rw [upd_ne (fun z => nF i hin z.symm)]; exact k.f, fun j hj => ?_, fun j h1 h2 => ?_, fun j hj => ?_, fun j hj b' hb' hd => ?_⟩
  · obtain ⟨ob, h⟩ := k.fz j hj
    rw [setN_ne (by omega)]
    exact ⟨ob, by rw [upd_ne (fun z => by have := inj j i (by omega) hin z; omega)]; exact h⟩
  · by_cases e : j = i
    · subst e
      rw [setN_same, upd_same]
    · rw [setN_ne e, upd_ne (fun z => e (inj j i h2 hin z))]
      exact k.mu j h1 h2
  · by_cases e : j = i
    · subst e
      rw [setN_same]
      exact (k.ok j hj).put o hb hz (by omega)
    · rw [setN_ne e]
      exact k.ok j hj
  · by_cases e : j = i
    · subst e
      rw [setN_same]
      rcases hD b' hd with h | h
      · exact (k.cm j hj b' hb' h).put
      · rw [h]
        exact In.put1
    · rw [setN_ne e]
      rcases hD b' hd with h | h
      · exact k.cm j hj b' hb' h
      · rw [h] at hb'
        have h1 : b.sum = j := hb'.1
        have h2 : b.sum = i := hb.1
        omega
theorem Fs.more {M : Mt} {c0 top N n : Nat} {F : Addr} {da : Nat → Addr} {H : Hp} {s : Nat} {kv : Nat → List (Key × V)} {Dn Dn' : List Nat → Prop} (k : Fs M c0 top N n F da H s kv Dn)
    (h : ∀ j, j ≤ n → ∀ b, fit1 (.road j top) b → Dn' b → Dn b ∨ In (kv j) (b.foldl M.on (c0 : Int))) : Fs M c0 top N n F da H s kv Dn' :=
  ⟨k.f, k.fz, k.mu, k.ok, fun j hj b hb hd => (h j hj b hb hd).elim (k.cm j hj b hb) id⟩
theorem valV_mem : ∀ {kvs : List (Key × V)} {kv : Key × V}, (kvs.map (·.1)).Nodup → kv ∈ kvs → valV kvs kv.1 = some kv.2
  | [], _, _, h => by cases h
  | a :: r, kv, hn, h => by
    rw [List.map_cons, List.nodup_cons] at hn
    rcases List.mem_cons.mp h with e | h
    · rw [e]
      exact valV_pos rfl
    · rw [valV_neg (fun e => hn.1 (by rw [e]; exact List.mem_map.mpr ⟨kv, h, rfl⟩))]
      exact valV_mem hn.2 h
/-- what is done in the midst of a step -/
def D3 (M : Mt) (c0 : Nat) (ks : List (Key × V)) (s i vi : Nat) (b : List Nat) : Prop := (b = [] ∨ ∃ b' v, b = b' ++ [v] ∧ b'.sum < s) ∨ ∃ b' u, b = b' ++ [u] ∧ b'.sum = s ∧ ∃ (i' : Nat) (kvp : Key × V), ks[i']? = some kvp ∧ kvp.1 = .inl (b'.foldl M.on (c0 : Int)) ∧ (i' < i ∨ (i' = i ∧ u ≤ vi))
/-- found: ends of a road -/
def RcD (M : Mt) (c0 : Nat) (n top N : Nat) (H : Hp) (D : Addr) : Prop := ∃ o kvs, H D = some (.frz o (.dK kvs)) ∧ DOk M c0 top N n kvs ∧ ∀ b, fit1 (.road n top) b → In kvs (b.foldl M.on (c0 : Int))
def pr_road_counts (P : Program) (w : World) (K : PySem.W.Frag) : Pr := fun vs H Q => ∃ (m ad la a : Addr) (M : Mt) (c0 n top N : Nat), vs = [.ref m, .ref la, .ref a] ∧ MetI K H m M ad ∧ SqL K H la [.int c0] ∧ SxA H a (.road n top) ∧ n ≤ 60 ∧ 1 ≤ top ∧ top ≤ 9 ∧ c0 + 60 * n ≤ N ∧ N ≤ 4000 ∧
  ∀ D H', Same H H' → RcD M c0 n top N H' D → Q (.ref D) H'
theorem ok_road_counts (T : Wd K mg base) : Fn P w K mg base 7 (He.ga K "road_counts") (pr_road_counts P w K) := by
  obtain ⟨fd, F0⟩ := T.fdef 29 (d := d_road_counts)
  have F : FunD K "road_counts" "road_counts" (defArgs s_road_counts) (defBody s_road_counts) (defScope s_road_counts) [] [] (He.ga K "road_counts") fd := F0
  refine fn_mk (N := N_road_counts) (ps := ["meter", "counts", "road"]) F sc_road_counts (fun kV doc pm an cdv ct us hl => match us, hl with | [u0, u1, u2], _ => rfl) (fun vs H Q => by walk_at "len") fun cdv A outer s H vs Q E hr h => ?_
  refine ⟨_, (pss_gcons (ps_setLc (i := 3) (own := [("step", 4)]) rfl sc_road_counts.nd rfl rfl (sw_true rfl rfl rfl (by decide +kernel)) (pi_range1 rfl T.f_range (pa_cons (pe_op op_add (pe_ix (ix_tup : IxR _ (rIxT K)) (pv 2) pe_int (fun _ _ => rfl)) pe_int) pa_nil)) (blkOk_by (own := [("step", 4)]) (N := N_road_counts) (sc := defScope s_road_counts) (by decide +kernel)) (fun _ _ _ _ _ => (pg_name (i := 4) sc_road_counts.nd rfl (Or.inl rfl))) (fun _ _ _ _ _ => pts_nil) (fun _ _ _ _ _ => pe_dnewK)) (pss_gcons (ps_asg (pe_dc (own := [("count", 5)]) rfl sc_road_counts.nd (pi_listK (K := K) (pv 1)) (blkOk_by (own := [("count", 5)]) (N := N_road_counts) (sc := defScope s_road_counts) (by decide +kernel)) (fun _ _ _ _ _ => (pg_name (i := 5) sc_road_counts.nd rfl (Or.inl rfl))) (fun _ _ _ _ _ => pts_nil) (fun _ _ _ _ _ => (pv 5)) (fun _ _ _ _ _ => pe_str)) (pg_sub (pv 3) pe_int set_list)) (pss_cons (ps_for PassesOwn.never rfl (pi_range1 rfl T.f_range (pa_cons (pe_ix (ix_tup : IxR _ (rIxT K)) (pv 2) pe_int (fun _ _ => rfl)) pa_nil)) (pg_name (i := 4) sc_road_counts.nd rfl (Or.inl rfl)) (pss_one (ps_gh (ps_for PassesOwn.never rfl (pi_keys (pe_ix (ix_list : IxR _ (rIxL K)) (pv 3) (pv 4) (fun _ _ => rfl))) (pg_name (i := 5) sc_road_counts.nd rfl (Or.inl rfl)) (pss_one (ps_for PassesOwn.never rfl (pi_range2 rfl T.f_range (pa_cons pe_int (pa_cons (pe_op op_add (pe_callB (call_min2 rfl) (by rfl) T.f_min (by decide +kernel) (pa_cons (pe_ix (ix_tup : IxR _ (rIxT K)) (pv 2) pe_int (fun _ _ => rfl)) (pa_cons (pe_op op_sub (pe_ix (ix_tup : IxR _ (rIxT K)) (pv 2) pe_int (fun _ _ => rfl)) (pv 4)) pa_nil))) pe_int) pa_nil))) (pg_name (i := 6) sc_road_counts.nd rfl (Or.inl rfl)) (pss_one (ps_expr (pe_dsetd (pe_ix (ix_list : IxR _ (rIxL K)) (pv 3) (pe_op op_add (pv 4) (pv 6)) (fun _ _ => rfl)) (pe_M (ok_Meter_count_on T) (hr.mono (by decide)) T.cls_Meter T.m_Meter_count_on (pv 0) (pa_cons (pv 5) (pa_cons (pv 6) pa_nil))) (pe_op op_add_str (pe_dget (hu_of hr) (pe_ix (ix_list : IxR _ (rIxL K)) (pv 3) (pv 4) (fun _ _ => rfl)) (pv 5) (fun _ _ => rfl)) (pe_callTy call_str_int (by rfl) T.f_str (by decide +kernel) (pa_cons (pv 6) pa_nil))) ⟨rfl, rfl, rfl, rfl⟩))))))))) (pss_one (ps_ret (pe_gh (pe_ix (ix_list : IxR _ (rIxL K)) (pv 3) (pe_un un_neg pe_int) (fun _ _ => rfl)))))))), ?_⟩
  obtain ⟨m, ad, la, a, M, c0, n, top, N, rfl, hm, hla, hs, hn, ht1, ht9, hN, hN4, q⟩ := h
  obtain ⟨o, dx, an, a2, a3, tb, h1, _⟩ := id hm
  have hs : H a = some (.tup [.str "road", .int n, .int top]) := hs
  have e62 : (2 : Int) ^ 62 = 4611686018427387904 := by decide
  walk_at "w"
  refine ⟨_, _, _, _, rfl, rfl, sqT_of hs, rfl, ?_⟩
  walk_at "w"
  refine ⟨by rw [e62]; omega, by rw [e62]; omega, fun F hF => ?_⟩
  rw [show ((n : Int) + 1).toNat = n + 1 by omega]
  refine lc_go (n + 1) (fun i H' => Same H H' ∧ ∃ da : Nat → Addr, H' F = some (.lst ((List.range i).map fun j => .ref (da j))) ∧ ∀ j, j < i → H (da j) = none ∧ H' (da j) = some (.dK []) ∧ ∀ j', j' < j → da j' ≠ da j) ⟨same_new hF, fun _ => 0, upd_same, fun j h => by omega⟩ (fun i H' hi hN2 => ?_) fun H1 hN2 => ⟨Nat.le_refl _, ?_⟩
  · obtain ⟨e, da, hf, hd⟩ := hN2
    refine ⟨hi, fun x H'' hx => ?_⟩
    obtain ⟨rfl, rfl⟩ := hx
    refine ⟨rfl, ?_⟩
    refine yT (iT rfl ?_)
    intro p hp
    have nF : F ≠ p := fun z => by rw [← z, hf] at hp; cases hp
    have hf2 : upd H'' p (.dK []) F = some (.lst ((List.range i).map fun j => .ref (da j))) := by rw [upd_ne nF]; exact hf
    refine ⟨_, hf2, szL (by simp; omega), same_mut (e.trans (same_new hp)) hF, setN da i p, ?_, fun j hj => ?_⟩
    · rw [upd_same, ← range_snoc _ i, setN_same]
      have : (List.range i).map (fun j => V.ref (da j)) = (List.range i).map (fun j => V.ref (setN da i p j)) := List.map_congr_left fun j hj => by rw [setN_ne (by have := List.mem_range.mp hj; omega)]
      rw [this]
    · by_cases hji : j = i
      · subst hji
        rw [setN_same]
        refine ⟨fresh_of e hp, by rw [upd_ne nF.symm, upd_same], fun j' hj' => ?_⟩
        rw [setN_ne (by omega)]
        intro z
        rw [← z, (hd j' hj').2.1] at hp
        cases hp
      · obtain ⟨g1, g2, g3⟩ := hd j (by omega)
        rw [setN_ne hji]
        refine ⟨g1, ?_, fun j' hj' => by rw [setN_ne (by omega)]; exact g3 j' hj'⟩
        rw [upd_ne (fun z => by rw [z, hf] at g2; cases g2)]
        exact (same_new hp) _ _ g2
  obtain ⟨e1, da, hf, hd⟩ := hN2
  refine .now ?_
  have hla1 := SqL.same e1 hla
  have hs1 := e1 _ _ hs
  refine ⟨_, rfl, _, rfl, ⟨_, hla1⟩, fun D0 hD0 => ?_⟩
  refine dc_go (u0 := fun _ => .dK []) (J := Itl K la) (tb := tb1 (tVar 5) (tC (.str ""))) 1 (fun i H' => (i = 0 ∧ H' = upd H1 D0 (.dK [])) ∨ (i = 1 ∧ H' = upd (upd H1 D0 (.dK [])) D0 (.dK [(.inl (c0 : Int), .str "")]))) (.inl ⟨rfl, rfl⟩) (fun i H' hi hN2 => ?_) fun H2 hN2 => ?_
  · have hH : H' = upd H1 D0 (.dK []) := by
      rcases hN2 with ⟨_, h⟩ | ⟨h, _⟩
      · exact h
      · omega
    obtain rfl : i = 0 := by omega
    have e2 : Same H1 (upd H1 D0 (.dK [])) := same_new hD0
    subst hH
    refine ⟨itl_go (SqL.same e2 hla1) Nat.one_pos, fun x H'' hx => ?_⟩
    obtain ⟨rfl, hx⟩ := hx
    obtain rfl : V.int c0 = x := Option.some.inj (hx _ (SqL.same e2 hla1))
    refine ⟨rfl, ?_⟩
    refine yT (iT rfl ?_)
    refine ⟨_, rfl, [], .inl (c0 : Int), rfl, upd_same, szL (by decide), .inr ⟨rfl, rfl⟩⟩
  obtain rfl : H2 = upd (upd H1 D0 (.dK [])) D0 (.dK [(.inl (c0 : Int), .str "")]) := by
    rcases hN2 with ⟨h, _⟩ | ⟨_, h⟩
    · omega
    · exact h
  have e2 : Same H1 (upd (upd H1 D0 (.dK [])) D0 (.dK [(.inl (c0 : Int), .str "")])) := same_mut (same_new hD0) hD0
  have d2 : upd (upd H1 D0 (.dK [])) D0 (.dK [(.inl (c0 : Int), .str "")]) D0 = some (.dK [(.inl (c0 : Int), .str "")]) := upd_same
  refine ⟨⟨_, SqL.same e2 hla1, Nat.le_refl _⟩, ?_⟩
  generalize upd (upd H1 D0 (.dK [])) D0 (.dK [(.inl (c0 : Int), .str "")]) = H2 at e2 d2 ⊢
  have hf2 := e2 _ _ hf
  walk_at "w"
  refine ⟨F, _, 0, 0, rfl, rfl, hf2, by unfold ixN; simp, .now ?_⟩
  have e3 : Same H (upd H2 F (.lst (((List.range (n + 1)).map fun j => V.ref (da j)).set 0 (.ref D0)))) := same_mut (e1.trans e2) hF
  have frD0 : H D0 = none := fresh_of e1 hD0
  have hda : ∀ j, j ≤ n → H (setN da 0 D0 j) = none := fun j hj => by
    by_cases e : j = 0
    · rw [e, setN_same]; exact frD0
    · rw [setN_ne e]; exact (hd j (by omega)).1
  have hinj : ∀ i j, i ≤ n → j ≤ n → setN da 0 D0 i = setN da 0 D0 j → i = j := by
    have aux : ∀ i j, i < j → j ≤ n → setN da 0 D0 i ≠ setN da 0 D0 j := fun i j h h2 => by
      rw [setN_ne (show j ≠ 0 by omega)]
      by_cases e : i = 0
      · rw [e, setN_same]
        intro z
        rw [z, (hd j (by omega)).2.1] at hD0
        cases hD0
      · rw [setN_ne e]
        exact (hd j (by omega)).2.2 i h
    intro i j hi hj e
    rcases Nat.lt_trichotomy i j with h | h | h
    · exact absurd e (aux i j h hj)
    · exact h
    · exact absurd e.symm (aux j i h hi)
  have hnF : ∀ j, j ≤ n → setN da 0 D0 j ≠ F := fun j hj => by
    by_cases e : j = 0
    · rw [e, setN_same]; intro z; rw [z, hf2] at d2; cases d2
    · rw [setN_ne e]; intro z; have := (hd j (by omega)).2.1; rw [z, hf] at this; cases this
  have k0 : Fs M c0 top N n F (setN da 0 D0) (upd H2 F (.lst (((List.range (n + 1)).map fun j => V.ref (da j)).set 0 (.ref D0)))) 0 (setN (fun _ => []) 0 [(.inl (c0 : Int), .str "")]) (fun b => b = []) := by
    refine ⟨?_, fun j h => by omega, fun j _ h2 => ?_, fun j hj => ?_, fun j hj b hb hD => ?_⟩
    · rw [upd_same]
      refine congrArg (fun x => some (HO.lst x)) (List.ext_getElem? fun i => ?_)
      rw [List.getElem?_set]
      by_cases e : i = 0
      · subst e
        simp [setN_same]
      · rw [if_neg (by omega)]
        by_cases hi : i < n + 1
        · rw [List.getElem?_map, List.getElem?_map, List.getElem?_range hi]
          show some (V.ref (da i)) = some (V.ref (setN da 0 D0 i))
          rw [setN_ne e]
        · rw [List.getElem?_eq_none (by simp; omega), List.getElem?_eq_none (by simp; omega)]
    · rw [upd_ne (hnF j h2)]
      by_cases e : j = 0
      · rw [e, setN_same, setN_same]; exact d2
      · rw [setN_ne e, setN_ne e]; exact e2 _ _ (hd j (by omega)).2.1
    · by_cases e : j = 0
      · rw [e, setN_same]
        refine ⟨⟨by simp, fun kv hk => ?_⟩, fun kv hk => ?_⟩
        · rw [List.mem_singleton.mp hk]; exact ⟨c0, by omega, rfl⟩
        · rw [List.mem_singleton.mp hk]; exact ⟨[], "", ⟨rfl, fun v hv => by cases hv⟩, rfl, rfl, Nat.le_refl _⟩
      · rw [setN_ne e]
        exact ⟨⟨by simp, fun _ h => by cases h⟩, fun _ h => by cases h⟩
    · subst hD
      have : (0 : Nat) = j := hb.1
      rw [← this, setN_same]
      show (valV [((.inl (c0 : Int) : Key), V.str "")] (.inl (c0 : Int))).isSome = true
      rw [valV_pos rfl]
      rfl
  show tSeq _ _ _ _ (upd H2 F (.lst (((List.range (n + 1)).map fun j => V.ref (da j)).set 0 (.ref D0))))
  generalize upd H2 F (.lst (((List.range (n + 1)).map fun j => V.ref (da j)).set 0 (.ref D0))) = H3 at e3 k0 ⊢
  generalize setN da 0 D0 = dd at hda hinj hnF k0
  walk_at "w"
  refine ⟨_, _, _, _, rfl, rfl, sqT_of (e3 _ _ hs), rfl, ?_⟩
  walk_at "w"
  refine ⟨by rw [e62]; omega, by rw [e62]; omega, ?_⟩
  rw [show ((n : Int)).toNat = n by omega]
  refine for_go n (fun s σ H' => ∃ (s4 s5 s6 : Option V) (kv : Nat → List (Key × V)), σ = [some (.ref m), some (.ref la), some (.ref a), some (.ref F), s4, s5, s6] ∧ Same H H' ∧ Fs M c0 top N n F dd H' s kv (fun b => b = [] ∨ ∃ b' v, b = b' ++ [v] ∧ b'.sum < s)) ?_ ?_ ?_
  · refine ⟨_, _, _, _, rfl, e3, k0.more fun j hj b hb hD => ?_⟩
    rcases hD with h | ⟨b', v, _, h⟩
    · exact .inl h
    · omega
  · rintro s σ H4 hsn ⟨s4, s5, s6, kv, rfl, e4, k4⟩
    refine ⟨hsn, fun x H'' hx => ?_⟩
    obtain ⟨rfl, rfl⟩ := hx
    rw [Int.zero_add]
    refine .frz (k4.mu s (Nat.le_refl _) (by omega)) True.intro fun os => .now ?_
    have e5 : Same H (upd H'' (dd s) (.frz os (.dK (kv s)))) := same_mut e4 (hda s (by omega))
    have k5 : Fs M c0 top N n F dd (upd H'' (dd s) (.frz os (.dK (kv s)))) (s + 1) kv (D3 M c0 (kv s) s 0 0) := by
      refine ⟨by rw [upd_ne (fun z => hnF s (by omega) z.symm)]; exact k4.f, fun j hj => ?_, fun j hj1 hj2 => ?_, k4.ok, fun j hj b hb hD => ?_⟩
      · by_cases e : j = s
        · subst e
          exact ⟨os, upd_same⟩
        · obtain ⟨ob, h⟩ := k4.fz j (by omega)
          exact ⟨ob, by rw [upd_ne (fun z => e (hinj j s (by omega) (by omega) z))]; exact h⟩
      · rw [upd_ne (fun z => by have := hinj j s hj2 (by omega) z; omega)]
        exact k4.mu j (by omega) hj2
      · rcases hD with h | ⟨b', u, _, _, i', kvp, _, _, h | ⟨h, hu⟩⟩
        · exact k4.cm j hj b hb h
        · omega
        · rename_i hbe hsum _ _
          have hu0 : u = 0 := by omega
          have := (hb.2 u (by rw [hbe]; exact List.mem_append_right _ (List.mem_singleton.mpr rfl))).1
          omega
    generalize upd H'' (dd s) (.frz os (.dK (kv s))) = H5 at e5 k5 ⊢
    obtain ⟨os2, hos⟩ := k5.fz s (by omega)
    have ksok := k5.ok s (by omega)
    refine ⟨_, rfl, _, rfl, _, _, _, _, rfl, rfl, sqL_of k5.f, atI_rng _ (by omega), dd s, os2, rfl, .inl ⟨kv s, hos, ?_⟩⟩
    generalize hks : kv s = ks at hos ksok k5
    refine for_go ks.length (fun i σ H' => ∃ (s5 s6 : Option V) (kv : Nat → List (Key × V)), σ = [some (.ref m), some (.ref la), some (.ref a), some (.ref F), some (.int s), s5, s6] ∧ (Same H H' ∧ H' (dd s) = some (.frz os2 (.dK ks))) ∧ kv s = ks ∧ Fs M c0 top N n F dd H' (s + 1) kv (D3 M c0 ks s i 0)) ⟨_, _, kv, rfl, ⟨e5, hos⟩, hks, k5⟩ ?_ ?_
    · rintro i σ H6 hi ⟨s5, s6, kv6, rfl, ⟨e6, ho6⟩, hk6, k6⟩
      refine ⟨⟨ho6, hi⟩, fun x H'' hx => ?_⟩
      obtain ⟨rfl, k0, v0, hkv, rfl⟩ := hx
      obtain ⟨b0, z0, hb0, ek, ev, hz0⟩ := ksok.so _ (List.mem_of_getElem? hkv)
      have ek : k0 = .inl (b0.foldl M.on (c0 : Int)) := ek
      have ev : v0 = .str z0 := ev
      subst ek
      subst ev
      have hval := valV_mem ksok.ki.1 (List.mem_of_getElem? hkv)
      have eH6 := e6
      have hs6 := eH6 _ _ hs
      walk_at "w"
      refine ⟨_, _, _, _, rfl, rfl, sqT_of hs6, rfl, ?_⟩
      walk_at "w"
      refine ⟨_, _, _, _, rfl, rfl, sqT_of hs6, rfl, ?_⟩
      walk_at "w"
      refine ⟨_, _, rfl, ?_⟩
      walk_at "w"
      have hmx : (if ((n : Int) - (s : Int)) < (top : Int) then (n : Int) - (s : Int) else (top : Int)) = ((min top (n - s) : Nat) : Int) := by split <;> omega
      show ∃ i_1 j, [V.int 1, V.int ((if ((n : Int) - (s : Int)) < (top : Int) then (n : Int) - (s : Int) else (top : Int)) + 1)] = [V.int i_1, V.int j] ∧ _
      rw [hmx]
      refine ⟨_, _, rfl, ⟨by decide, by decide, by rw [e62]; omega, by rw [e62]; omega⟩, ?_⟩
      rw [show (((min top (n - s) : Nat) : Int) + 1 - 1).toNat = min top (n - s) by omega]
      refine for_go (min top (n - s)) (fun v σ H' => ∃ (s6 : Option V) (kv : Nat → List (Key × V)), σ = [some (.ref m), some (.ref la), some (.ref a), some (.ref F), some (.int s), some (.int (b0.foldl M.on (c0 : Int))), s6] ∧ (Same H H' ∧ H' (dd s) = some (.frz os2 (.dK ks))) ∧ kv s = ks ∧ Fs M c0 top N n F dd H' (s + 1) kv (D3 M c0 ks s i v)) ⟨_, kv6, rfl, ⟨e6, ho6⟩, hk6, k6⟩ ?_ ?_
      · rintro v σ H7 hv ⟨s6, kv7, rfl, ⟨e7, ho7⟩, hk7, k7⟩
        refine ⟨hv, fun x H'' hx => ?_⟩
        obtain ⟨rfl, rfl⟩ := hx
        rw [show (1 : Int) + (v : Int) = ((v + 1 : Nat) : Int) by omega]
        have eH7 := e7
        have huN : s + (v + 1) ≤ n := by omega
        have hbn : fit1 (.road (s + (v + 1)) top) (b0 ++ [v + 1]) := ⟨by rw [List.sum_append, hb0.1]; simp, fun u hu => by
          rcases List.mem_append.mp hu with h | h
          · exact hb0.2 u h
          · rw [List.mem_singleton.mp h]; omega⟩
        have hcf : (b0 ++ [v + 1]).foldl M.on (c0 : Int) = M.on (b0.foldl M.on (c0 : Int)) (v + 1) := by rw [List.foldl_append]; rfl
        have hmut := k7.mu (s + (v + 1)) (by omega) huN
        have hok := k7.ok (s + (v + 1)) huN
        have hkl := hok.ki.len
        have hzl : z0.length + (txt (v + 1)).length ≤ s + (v + 1) := by rw [(Tz.one (show v + 1 ≤ 9 by omega)).len]; simp; omega
        have hd3 : ∀ b', D3 M c0 ks s i (v + 1) b' → D3 M c0 ks s i v b' ∨ b' = b0 ++ [v + 1] ∨ ∃ b2, b' = b2 ++ [v + 1] ∧ b2.sum = s ∧ b2.foldl M.on (c0 : Int) = b0.foldl M.on (c0 : Int) := fun b' hb' => by
          rcases hb' with h | ⟨b2, u, h, hsum, i', kvp, h3, h4, h5⟩
          · exact .inl (.inl h)
          · rcases h5 with h5 | ⟨h5, hu⟩
            · exact .inl (.inr ⟨b2, u, h, hsum, i', kvp, h3, h4, .inl h5⟩)
            · by_cases hu2 : u ≤ v
              · exact .inl (.inr ⟨b2, u, h, hsum, i', kvp, h3, h4, .inr ⟨h5, hu2⟩⟩)
              · have : u = v + 1 := by omega
                subst this
                subst h5
                rw [hkv] at h3
                cases h3
                exact .inr (.inr ⟨b2, h, hsum, (Sum.inl.inj h4).symm⟩)
        show tDrop _ _ _ _
        refine ⟨_, rfl, _, rfl, _, rfl, _, _, rfl, rfl, ?_⟩
        refine ⟨_, _, _, _, rfl, rfl, sqL_of k7.f, atI_rng (i := s + (v + 1)) _ (by omega), ?_⟩
        refine ⟨_, rfl, .inl ⟨_, .inl hmut⟩, ?_⟩
        refine ⟨_, rfl, _, _, _, rfl, eH7 _ _ h1, rfl, ?_⟩
        walk_at "w"
        refine ⟨m, ad, M, _, v + 1, rfl, hm.px (.of _ _ eH7), by omega, fun H8 e8 => ?_⟩
        have k8 := k7.same e8
        walk_at "w"
        refine ⟨_, _, _, _, rfl, rfl, sqL_of k8.f, atI_rng _ (by omega), ?_⟩
        walk_at "w"
        refine ⟨_, .str z0, rfl, .inl ⟨ks, .inl (b0.foldl M.on (c0 : Int)), .inr ⟨os2, e8 _ _ ho7⟩, rfl, hval.symm⟩, ?_⟩
        walk_at "w"
        refine ⟨log_small (show v + 1 ≤ 60 by omega), ?_⟩
        refine ⟨_, _, rfl, rfl, Nat.le_trans (show z0.length + (txt (v + 1)).length ≤ 100 by omega) (by decide), ?_⟩
        refine ⟨kv7 (s + (v + 1)), .inl (M.on (b0.foldl M.on (c0 : Int)) (v + 1)), e8 _ _ hmut, rfl, szL (by omega), fun v' hv' => ?_, fun hnone => ?_⟩
        · refine ⟨_, kv7, rfl, ⟨e7.trans e8, e8 _ _ ho7⟩, hk7, k8.more fun j hj b hb hD => ?_⟩
          rcases hd3 b hD with h | h | ⟨b2, h, h3, h2⟩
          · exact .inl h
          · refine .inr ?_
            have h9 : b.sum = j := hb.1
            have h8 := hbn.1
            rw [h] at h9 ⊢
            rw [show j = s + (v + 1) by omega, hcf]
            unfold In
            rw [hv']
            rfl
          · refine .inr ?_
            have h9 : b.sum = j := hb.1
            rw [h, List.sum_append, h3] at h9
            simp at h9
            rw [show j = s + (v + 1) by omega, h, List.foldl_append, h2]
            show (valV _ ((.inl (M.on (b0.foldl M.on (c0 : Int)) (v + 1))) : Key)).isSome = true
            rw [hv']
            rfl
        · have kp := k8.put (Dn' := fun b' => D3 M c0 ks s i v b' ∨ b' = b0 ++ [v + 1]) o hinj hnF (i := s + (v + 1)) (by omega) huN hbn (z := z0 ++ txt (v + 1)) (by show (z0.cps ++ (txt (v + 1)).cps).size ≤ _; rw [Array.size_append]; exact hzl) hN (fun b' h => h)
          rw [hcf] at kp
          refine ⟨_, setN kv7 (s + (v + 1)) (putK (kv7 (s + (v + 1))) (.inl (M.on (b0.foldl M.on (c0 : Int)) (v + 1))) (.str (z0 ++ txt (v + 1)))), rfl, ?_, by rw [setN_ne (by omega)]; exact hk7, kp.more fun j hj b hb hD => ?_⟩
          · exact ⟨same_mut (e7.trans e8) (hda _ huN), by rw [upd_ne (fun z => by have := hinj s (s + (v + 1)) (by omega) huN z; omega)]; exact e8 _ _ ho7⟩
          · rcases hd3 b hD with h | h | ⟨b2, h, h3, h2⟩
            · exact .inl (.inl h)
            · exact .inl (.inr h)
            · refine .inr ?_
              have h9 : b.sum = j := hb.1
              rw [h, List.sum_append, h3] at h9
              simp at h9
              rw [show j = s + (v + 1) by omega, setN_same, h, List.foldl_append, h2]
              exact In.put1
      · rintro σ H7 ⟨s6, kv7, rfl, ⟨e7, ho7⟩, hk7, k7⟩
        refine ⟨Nat.le_refl _, _, _, kv7, rfl, ⟨e7, ho7⟩, hk7, k7.more fun j hj b hb hD => .inl ?_⟩
        rcases hD with h | ⟨b', u, h, hsum, i', kvp, h3, h4, h5⟩
        · exact .inl h
        · refine .inr ⟨b', u, h, hsum, i', kvp, h3, h4, ?_⟩
          rcases h5 with h5 | ⟨h5, hu⟩
          · by_cases h6 : i' < i
            · exact .inl h6
            · have hu2 := hb.2 u (by rw [h]; exact List.mem_append_right _ (List.mem_singleton.mpr rfl))
              have h7 : b.sum = j := hb.1
              rw [h, List.sum_append, hsum] at h7
              simp at h7
              exact .inr ⟨by omega, by omega⟩
          · have hu2 := hb.2 u (by rw [h]; exact List.mem_append_right _ (List.mem_singleton.mpr rfl))
            omega
    · rintro σ H6 ⟨s5, s6, kv6, rfl, ⟨e6, ho6⟩, hk6, k6⟩
      refine ⟨⟨ho6, Nat.le_refl _⟩, _, _, _, kv6, rfl, e6, k6.more fun j hj b hb hD => .inl ?_⟩
      rcases hD with h | ⟨b', u, h, hlt⟩
      · exact .inl (.inl h)
      · by_cases hl : b'.sum < s
        · exact .inl (.inr ⟨b', u, h, hl⟩)
        · have hsum : b'.sum = s := by omega
          have hb' : fit1 (.road s top) b' := ⟨hsum, fun v hv => hb.2 v (by rw [h]; exact List.mem_append_left _ hv)⟩
          have hin : In ks (b'.foldl M.on (c0 : Int)) := by
            rw [← hk6]
            refine k6.cm s (by omega) b' hb' (.inl ?_)
            rcases List.eq_nil_or_concat b' with h2 | ⟨b2, v, h2⟩
            · exact .inl h2
            · rw [List.concat_eq_append] at h2
              refine .inr ⟨b2, v, h2, ?_⟩
              have := (hb'.2 v (by rw [h2]; exact List.mem_append_right _ (List.mem_singleton.mpr rfl))).1
              rw [h2, List.sum_append] at hsum
              simp at hsum
              omega
          unfold In at hin
          rw [← L2.valV_any] at hin
          obtain ⟨kvp, hm2, he⟩ := List.any_eq_true.mp hin
          obtain ⟨i', hi', rfl⟩ := List.mem_iff_getElem.mp hm2
          exact .inr ⟨b', u, h, hsum, i', _, List.getElem?_eq_getElem hi', of_decide_eq_true he, .inl hi'⟩
  · rintro σ H4 ⟨s4, s5, s6, kv, rfl, e4, k4⟩
    refine ⟨Nat.le_refl _, ?_⟩
    walk_at "w"
    refine ⟨_, _, _, _, rfl, rfl, sqL_of k4.f, atI_last _ n, ?_⟩
    refine .frz (k4.mu n (Nat.le_refl _) (Nat.le_refl _)) True.intro fun ob => .now ?_
    refine q (dd n) _ (same_mut e4 (hda n (Nat.le_refl _))) ⟨ob, kv n, upd_same, k4.ok n (Nat.le_refl _), fun b hb => k4.cm n (Nat.le_refl _) b hb ?_⟩
    rcases List.eq_nil_or_concat b with h | ⟨b', v, h⟩
    · exact .inl h
    · rw [List.concat_eq_append] at h
      refine .inr ⟨b', v, h, ?_⟩
      have h1 := hb.1
      have h2 := hb.2 v (by rw [h]; exact List.mem_append_right _ (List.mem_singleton.mpr rfl))
      rw [h, List.sum_append] at h1
      simp at h1
      omega
end Cab
set_option Elab.async false
set_option linter.all false
set_option maxRecDepth 100000
set_option maxHeartbeats 2000000
set_option pp.maxSteps 1500
namespace Cab
open PySem PySem.Spec PyProof.Rows L2

local macro_rules | `(tactic| walk_at "w") => `(tactic| repeat (first | refine Gh.now ?_ | refine ⟨_, rfl, ?_⟩ | refine ⟨_, _, rfl, rfl, ?_⟩ | refine ⟨rfl, ?_⟩))
local macro_rules | `(tactic| walk_at "g") => `(tactic| repeat (first | refine ⟨_, _, rfl, rfl, ?_⟩ | refine ⟨_, _, rfl, ?_⟩ | refine ⟨rfl, ?_⟩ | refine Gh.now ?_ | refine ⟨_, rfl, ?_⟩))
local macro_rules | `(tactic| walk_at "len") => `(tactic| first | (intro hh; obtain ⟨e, _⟩ := hh; exact congrArg List.length e) | (intro hh; obtain ⟨_, e, _⟩ := hh; exact congrArg List.length e) | (intro hh; obtain ⟨_, _, e, _⟩ := hh; exact congrArg List.length e) | (intro hh; obtain ⟨_, _, _, e, _⟩ := hh; exact congrArg List.length e) | (intro hh; obtain ⟨_, _, _, _, e, _⟩ := hh; exact congrArg List.length e) | (intro hh; obtain ⟨_, _, _, _, _, e, _⟩ := hh; exact congrArg List.length e) | (intro hh; obtain ⟨_, _, _, _, _, _, e, _⟩ := hh; exact congrArg List.length e) | (intro hh; obtain ⟨_, _, _, _, _, _, _, e, _⟩ := hh; exact congrArg List.length e) | (intro hh; obtain ⟨_, _, _, _, _, _, _, _, e, _⟩ := hh; exact congrArg List.length e) | (intro hh; obtain ⟨_, _, _, _, _, _, _, _, _, e, _⟩ := hh; exact congrArg List.length e) | (intro hh; obtain ⟨_, _, _, _, _, _, _, _, _, _, e, _⟩ := hh; exact congrArg List.length e) | (intro hh; obtain ⟨_, _, _, _, _, _, _, _, _, _, _, e, _⟩ := hh; exact congrArg List.length e) | (intro hh; obtain ⟨_, _, _, _, _, _, _, _, _, _, _, _, e, _⟩ := hh; exact congrArg List.length e))
variable {P : Program} {w : World} {K : PySem.W.Frag} {mg : Str → Option Value} {base : Heap}

def Wt (l : List Sx) : Nat := (l.map Sx.wt).sum
theorem Wt_snoc (l : List Sx) (s : Sx) : Wt (l ++ [s]) = Wt l + s.wt := by
  unfold Wt
  rw [List.map_append, List.sum_append]
  simp
theorem Wt_take (l : List Sx) (i : Nat) : Wt (l.take i) ≤ Wt l := by
  have e : Wt l = Wt (l.take i) + Wt (l.drop i) := by
    unfold Wt
    rw [← List.sum_append, ← List.map_append, List.take_append_drop]
  omega
theorem fit1_wt {s : Sx} {b : List Nat} (h : fit1 s b) : b.length ≤ s.wt := by
  cases s with
  | road n top => exact fit1_len h
  | light v =>
    obtain ⟨k, hk, rfl⟩ := h
    rw [List.length_replicate]
    exact hk
theorem Fit.len {l : List Sx} {a : List Nat} (h : Fit l a) : a.length ≤ Wt l := by
  induction h with
  | nil => exact Nat.zero_le _
  | snoc h k ih =>
    rw [Wt_snoc, List.length_append]
    have := fit1_wt k
    omega
/-- counts along stretches -/
structure CSo (M : Mt) (l : List Sx) (kvs : List (Key × V)) : Prop where
  ki : KI kvs (60 * Wt l)
  so : ∀ kv ∈ kvs, ∃ a z, Fit l a ∧ kv.1 = .inl (M.cnt a) ∧ kv.2 = .str z ∧ z.length ≤ Wt l
theorem CSo.put {M : Mt} (o : M.Ok) {l : List Sx} {kvs : List (Key × V)} (h : CSo M l kvs) {a : List Nat} {z : Str} (ha : Fit l a) (hz : z.length ≤ Wt l) : CSo M l (putK kvs (.inl (M.cnt a)) (.str z)) := by
  have hf := foldl_ge M o a 0
  have hal := ha.len
  have hc : M.cnt a = a.foldl M.on 0 := rfl
  have e : M.cnt a = ((M.cnt a).toNat : Int) := by omega
  refine ⟨?_, fun kv hk => ?_⟩
  · rw [e]
    exact h.ki.put (by omega)
  · unfold putK at hk
    split at hk
    · obtain ⟨kv0, h0, rfl⟩ := List.mem_map.mp hk
      by_cases e2 : kv0.1 = .inl (M.cnt a)
      · rw [if_pos e2]
        exact ⟨a, z, ha, e2, rfl, hz⟩
      · rw [if_neg e2]
        exact h.so kv0 h0
    · rcases List.mem_append.mp hk with hk | hk
      · exact h.so kv hk
      · rw [List.mem_singleton.mp hk]
        exact ⟨a, z, ha, rfl, rfl, hz⟩
theorem putK_mem {kvs : List (Key × V)} {k : Key} {v : V} {kv : Key × V} (h : kv ∈ putK kvs k v) : kv ∈ kvs ∨ (kv.1 = k ∧ kv.2 = v) := by
  unfold putK at h
  split at h
  · obtain ⟨kv0, h0, rfl⟩ := List.mem_map.mp h
    by_cases e2 : kv0.1 = k
    · rw [if_pos e2]
      exact .inr ⟨e2, rfl⟩
    · rw [if_neg e2]
      exact .inl h0
  · rcases List.mem_append.mp h with h | h
    · exact .inl h
    · rw [List.mem_singleton.mp h]
      exact .inr ⟨rfl, rfl⟩
theorem Gh_or {H0 H7 : Hp} {E : Addr} {kve : List (Key × V)} {R : Hp → Prop} (e7 : Same H0 H7) (hE : (H7 E = some (.dK kve) ∧ H0 E = none) ∨ ∃ oe, H7 E = some (.frz oe (.dK kve)))
    (k : ∀ H8 oe, Same H0 H8 → (∀ b, b ≠ E → H8 b = H7 b) → H8 E = some (.frz oe (.dK kve)) → R H8) : Gh H7 R := by
  rcases hE with ⟨h1, h2⟩ | ⟨oe, h⟩
  · exact .frz h1 True.intro fun o => .now (k _ o (same_mut e7 h2) (fun b hb => upd_ne hb) upd_same)
  · exact .now (k _ oe e7 (fun _ _ => rfl) h)
/-- counts behind one stretch -/
def EOk (M : Mt) (c : Int) (s : Sx) (kve : List (Key × V)) : Prop := (∀ kv ∈ kve, ∃ b z, fit1 s b ∧ kv.1 = .inl (b.foldl M.on c) ∧ kv.2 = .str z ∧ z.length ≤ s.wt) ∧ ∀ b, fit1 s b → In kve (b.foldl M.on c)
/-- counts along a route, frozen -/
def CaD (M : Mt) (l : List Sx) (H : Hp) (D : Addr) : Prop := ∃ o kvs, H D = some (.frz o (.dK kvs)) ∧ CSo M l kvs ∧ ∀ a, Fit l a → In kvs (M.cnt a)
theorem cnt_app (M : Mt) (a b : List Nat) : b.foldl M.on (M.cnt a) = M.cnt (a ++ b) := by
  unfold Mt.cnt
  rw [List.foldl_append]
/-- what later holds when j keys are done, and e of the ends of the j-th -/
def CDn (M : Mt) (l : List Sx) (s : Sx) (ks : List (Key × V)) (j : Nat) (kvl : List (Key × V)) : Prop := ∀ a b, Fit l a → fit1 s b → (∃ (j' : Nat) (kv : Key × V), j' < j ∧ ks[j']? = some kv ∧ kv.1 = .inl (M.cnt a)) → In kvl (M.cnt (a ++ b))
def pr_Route_counts_along (P : Program) (w : World) (K : PySem.W.Frag) : Pr := fun vs H Q => ∃ (r m ad : Addr) (M : Mt) (l : List Sx), vs = [.ref r, .ref m] ∧ RtAt K H r l ∧ MetI K H m M ad ∧ l.length ≤ 100 ∧ Wt l ≤ 66 ∧ ∀ D H', Same H H' → CaD M l H' D → Q (.ref D) H'
theorem ok_Route_counts_along (T : Wd K mg base) : Fn P w K mg base 8 (He.ma K (He.ga K "Route") "counts_along") (pr_Route_counts_along P w K) := by
  obtain ⟨fd, F0⟩ := T.fdef 73 (d := d_Route_counts_along)
  have F : FunD K "counts_along" "Route.counts_along" (defArgs s_Route_counts_along) (defBody s_Route_counts_along) (defScope s_Route_counts_along) [] [] (He.ma K (He.ga K "Route") "counts_along") fd := F0
  refine fn_mk (N := N_Route_counts_along) (ps := ["self", "meter"]) F sc_Route_counts_along (fun kV doc pm an cdv ct us hl => match us, hl with | [u0, u1], _ => rfl) (fun vs H Q => by walk_at "len") fun cdv A outer s H vs Q E hr h => ?_
  refine ⟨_, (pss_gcons (ps_set (i := 2) sc_Route_counts_along.nd rfl (Or.inl rfl) (pe_disp (pps_cons pe_int pe_str pps_nil) (by rfl) (by rfl) (fun z => by cases z) (by decide))) (pss_cons (ps_for PassesOwn.never rfl (pi_tup (pe_fld (pv 0) rfl)) (pg_name (i := 3) sc_Route_counts_along.nd rfl (Or.inl rfl)) (pss_gcons (ps_set (i := 4) sc_Route_counts_along.nd rfl (Or.inl rfl) pe_dnewK) (pss_cons (ps_gh (ps_for PassesOwn.never rfl (pi_keys (pv 2)) (pg_name (i := 5) sc_Route_counts_along.nd rfl (Or.inr rfl)) (Evl.pss_cut (ps_if (pt_cmpR op_eq (pe_ix (ix_tup : IxR _ (rIxT K)) (pv 3) pe_int (fun _ _ => rfl)) pe_str (nomark _)) (pss_one (ps_setDc1 (i := 6) (own := [("wait", 9)]) rfl sc_Route_counts_along.nd rfl rfl (swD_true rfl rfl rfl (by decide +kernel)) (pi_range1 rfl T.f_range (pa_cons (pe_op op_add (pe_ix (ix_tup : IxR _ (rIxT K)) (pv 3) pe_int (fun _ _ => rfl)) pe_int) pa_nil)) (blkOk_by (own := [("wait", 9)]) (N := N_Route_counts_along) (sc := defScope s_Route_counts_along) (by decide +kernel)) (fun _ _ _ _ _ => (pg_name (i := 9) sc_Route_counts_along.nd rfl (Or.inl rfl))) (fun _ _ _ _ _ => pts_nil) (fun _ _ _ _ _ => (pe_R (ok_count_waited T) (hr.mono (by decide)) T.g_count_waited T.k_count_waited (pa_cons (pv 1) (pa_cons (pv 5) (pa_cons (pv 9) pa_nil))))) (fun _ _ _ _ _ => (pe_op op_mulS pe_str (pv 9))))) (pss_one (ps_set (i := 6) sc_Route_counts_along.nd rfl (Or.inl rfl) (pe_R (ok_road_counts T) (hr.mono (by decide)) T.g_road_counts T.k_road_counts (pa_cons (pv 1) (pa_cons (pe_lst (pa_cons (pv 5) pa_nil)) (pa_cons (pv 3) pa_nil))))))) (pss_one (ps_gh (ps_for PassesOwn.never rfl (pi_items (pv 6)) (pg_tupK (n := 2) rfl (pgs_cons (pg_name (i := 7) sc_Route_counts_along.nd rfl (Or.inl rfl)) (pgs_cons (pg_name (i := 8) sc_Route_counts_along.nd rfl (Or.inl rfl)) pgs_nil))) (pss_one (ps_expr (pe_dsetd (pv 4) (pv 7) (pe_op op_add_str (pe_dget (hu_of hr) (pv 2) (pv 5) (fun _ _ => rfl)) (pv 8)) ⟨rfl, rfl, rfl, rfl⟩))))))))) (pss_one (ps_set (i := 2) sc_Route_counts_along.nd rfl (Or.inl rfl) (pv 4)))))) (pss_one (ps_ret (pe_gh (pv 2)))))), ?_⟩
  obtain ⟨r, m, ad, M, l, rfl, hrt, hm, hl, hw, q⟩ := h
  obtain ⟨ho, dx, rt, as, h1, h2, h3⟩ := id hrt
  obtain ⟨o, dxm, an, a2, a3, tb, hm1, _⟩ := id hm
  have hln := h3.1
  have e62 : (2 : Int) ^ 62 = 4611686018427387904 := by decide
  intro t0 ht0
  refine ⟨upd_same, [(.inl 0, .str "")], rfl, Nat.le_of_ble_eq_true rfl, .now ?_⟩
  have e2 : Same H (upd (upd H t0 (.dK [])) t0 (.dK [(.inl 0, .str "")])) := same_mut (same_new ht0) ht0
  have d2 : upd (upd H t0 (.dK [])) t0 (.dK [(.inl 0, .str "")]) t0 = some (.dK [(.inl 0, .str "")]) := upd_same
  show tSeq _ _ _ _ (upd (upd H t0 (.dK [])) t0 (.dK [(.inl 0, .str "")]))
  generalize upd (upd H t0 (.dK [])) t0 (.dK [(.inl 0, .str "")]) = H2 at e2 d2 ⊢
  refine ⟨_, rfl, _, _, _, _, _, rfl, e2 _ _ h1, T.cls_Route, T.n_Route_row, rfl, ?_⟩
  refine ⟨_, rfl, ⟨_, sqT_of (e2 _ _ h2)⟩, ?_⟩
  refine for_go as.length (fun i σ H' => ∃ (td : Addr) (s3 s4 s5 s6 s7 s8 : Option V) (kvs : List (Key × V)), σ = [some (.ref r), some (.ref m), some (.ref td), s3, s4, s5, s6, s7, s8, none] ∧ Same H H' ∧ H td = none ∧ H' td = some (.dK kvs) ∧ CSo M (l.take i) kvs ∧ ∀ a, Fit (l.take i) a → In kvs (M.cnt a)) ?_ ?_ ?_
  · refine ⟨t0, _, _, _, _, _, _, _, rfl, e2, ht0, d2, ⟨⟨by simp, fun kv hk => ?_⟩, fun kv hk => ?_⟩, fun a ha => ?_⟩
    · rw [List.mem_singleton.mp hk]
      exact ⟨0, Nat.zero_le _, rfl⟩
    · rw [List.mem_singleton.mp hk]
      exact ⟨[], "", .nil, rfl, rfl, Nat.zero_le _⟩
    · rw [List.take_zero] at ha
      generalize hn : ([] : List Sx) = l0 at ha
      cases ha with
      | nil =>
        show (valV [((.inl 0 : Key), V.str "")] (.inl 0)).isSome = true
        rw [valV_pos rfl]
        rfl
      | snoc h k => simp at hn
  · rintro i σ H3 hi ⟨td, s3, s4, s5, s6, s7, s8, kvs, rfl, e3, htd, hd3, hcs, hcov⟩
    refine ⟨itt_go (sqT_of (e3 _ _ h2)) (by simpa using hi), fun y H'' hy => ?_⟩
    obtain ⟨rfl, hy⟩ := hy
    have hy := hy _ (sqT_of (e3 _ _ h2))
    rw [List.getElem?_map, List.getElem?_eq_getElem hi] at hy
    obtain rfl : V.ref as[i] = y := Option.some.inj hy
    have hil : i < l.length := by omega
    have hs := h3.2 i _ _ (List.getElem?_eq_getElem hi) (List.getElem?_eq_getElem hil)
    have hso := ho _ (List.getElem_mem hil)
    have htk := take_snoc hil
    have hwt : Wt (l.take i) + l[i].wt ≤ 66 := by rw [← Wt_snoc, ← htk]; exact Nat.le_trans (Wt_take l _) hw
    intro lt hlt
    have e4 : Same H (upd H'' lt (.dK [])) := e3.trans (same_new hlt)
    have hlf : H lt = none := fresh_of e3 hlt
    have nlt : lt ≠ td := fun z => by rw [z, hd3] at hlt; cases hlt
    refine .now ?_
    refine .frz (a := td) (u := .dK kvs) (by rw [upd_ne nlt.symm]; exact hd3) True.intro fun od => .now ?_
    have e5 : Same H (upd (upd H'' lt (.dK [])) td (.frz od (.dK kvs))) := same_mut e4 htd
    have f5 : upd (upd H'' lt (.dK [])) td (.frz od (.dK kvs)) td = some (.frz od (.dK kvs)) := upd_same
    have l5 : upd (upd H'' lt (.dK [])) td (.frz od (.dK kvs)) lt = some (.dK []) := by rw [upd_ne nlt, upd_same]
    generalize upd (upd H'' lt (.dK [])) td (.frz od (.dK kvs)) = H5 at e5 f5 l5 ⊢
    refine ⟨_, rfl, td, od, rfl, .inl ⟨kvs, f5, ?_⟩⟩
    refine for_go kvs.length (fun j σ H' => ∃ (s5 s6 s7 s8 : Option V) (kvl : List (Key × V)), σ = [some (.ref r), some (.ref m), some (.ref td), some (.ref as[i]), some (.ref lt), s5, s6, s7, s8, none] ∧ Same H H' ∧ H' td = some (.frz od (.dK kvs)) ∧ H' lt = some (.dK kvl) ∧ CSo M (l.take (i + 1)) kvl ∧ CDn M (l.take i) l[i] kvs j kvl)
      ⟨_, _, _, _, [], rfl, e5, f5, l5, ⟨⟨by simp, fun _ h => by cases h⟩, fun _ h => by cases h⟩, fun a b _ _ ⟨j', _, h, _⟩ => by omega⟩ ?_ ?_
    · rintro j σ H6 hj ⟨s5, s6, s7, s8, kvl, rfl, e6, f6, l6, c6, d6⟩
      refine ⟨⟨f6, hj⟩, fun x H'' hx => ?_⟩
      obtain ⟨rfl, k0, v0, hkv, rfl⟩ := hx
      obtain ⟨a0, z0, ha0, ek, ev, hz0⟩ := hcs.so _ (List.mem_of_getElem? hkv)
      have ek : k0 = .inl (M.cnt a0) := ek
      have ev : v0 = .str z0 := ev
      subst ek
      subst ev
      have hval := valV_mem hcs.ki.1 (List.mem_of_getElem? hkv)
      obtain ⟨t, htN, et⟩ := hcs.ki.2 _ (List.mem_of_getElem? hkv)
      have et : M.cnt a0 = (t : Int) := Sum.inl.inj et
      have hs6 := hs.px (Px.of _ _ e6)
      refine ⟨fun σ' H' => ∃ (E : Addr) (kve : List (Key × V)) (s7 s8 : Option V), σ' = [some (.ref r), some (.ref m), some (.ref td), some (.ref as[i]), some (.ref lt), some (.int (M.cnt a0)), some (.ref E), s7, s8, none] ∧ Same H'' H' ∧ EOk M (M.cnt a0) l[i] kve ∧ ((H' E = some (.dK kve) ∧ H'' E = none) ∨ ∃ oe, H' E = some (.frz oe (.dK kve))), ?_, ?_⟩
      · generalize l[i] = sx at hs6 hso hwt
        cases sx with
        | light v =>
          have ho : v ≤ 9 := hso
          have hs6 : H'' as[i] = some (.tup [.str "light", .int v]) := hs6
          walk_at "w"
          refine ⟨_, _, _, _, rfl, rfl, sqT_of hs6, rfl, ?_⟩
          walk_at "w"
          refine ⟨_, _, _, _, rfl, rfl, sqT_of hs6, rfl, ?_⟩
          walk_at "w"
          refine ⟨by rw [e62]; omega, by rw [e62]; omega, fun E hE => ?_⟩
          have nEl : ∀ b, H'' b ≠ none → E ≠ b := fun b h z => h (z ▸ hE)
          rw [show ((v : Int) + 1).toNat = v + 1 by omega]
          refine dc_go (u0 := fun _ => .dK []) (v + 1) (fun k H' => Same H'' H' ∧ ∃ kve, H' E = some (.dK kve) ∧ kve.length ≤ k ∧ (∀ kv ∈ kve, ∃ b z, fit1 (.light v) b ∧ kv.1 = .inl (b.foldl M.on (M.cnt a0)) ∧ kv.2 = .str z ∧ z.length ≤ v) ∧ ∀ k' < k, In kve ((List.replicate k' 0).foldl M.on (M.cnt a0)))
            ⟨same_new hE, [], upd_same, Nat.le_refl _, (fun _ z => nomatch z), fun k h => by omega⟩ (fun k H' hk hN => ?_) fun H' hN => ⟨Nat.le_refl _, ?_⟩
          · obtain ⟨e7, kve, hE7, hkl, hso7, hcm7⟩ := hN
            refine ⟨hk, fun x H8 hx => ?_⟩
            obtain ⟨rfl, rfl⟩ := hx
            rw [Int.zero_add]
            refine ⟨rfl, yT (iT rfl ?_)⟩
            refine ⟨_, rfl, _, rfl, _, rfl, m, ad, M, _, k, rfl, hm.px (Px.of _ _ (e6.trans e7)), by omega, fun H9 e9 => ?_⟩
            refine ⟨_, rfl, k, rfl, rfl, by omega, ?_⟩
            refine ⟨kve, .inl _, rfl, e9 _ _ hE7, szL (by omega), same_mut (e7.trans e9) hE, _, upd_same, ?_, fun kv hkv => ?_, fun k' hk' => ?_⟩
            · have := length_putK kve (.inl ((List.replicate k 0).foldl M.on (M.cnt a0)) : Key) (.str ⟨(List.replicate k 48).toArray⟩)
              omega
            · rcases putK_mem hkv with h | ⟨h1, h2⟩
              · exact hso7 kv h
              · exact ⟨_, _, ⟨k, by omega, rfl⟩, h1, h2, by show (List.replicate k 48).toArray.size ≤ v; simp; omega⟩
            · by_cases h : k' < k
              · exact (hcm7 k' h).put
              · rw [show k' = k by omega]
                exact In.put1
          · obtain ⟨e7, kve, hE7, hkl, hso7, hcm7⟩ := hN
            refine ⟨E, kve, _, _, rfl, e7, ⟨hso7, fun b hb => ?_⟩, .inl ⟨hE7, hE⟩⟩
            obtain ⟨k, hk, rfl⟩ := hb
            exact hcm7 k (by omega)
        | road n top =>
          obtain ⟨x1, x2, x3, x4⟩ := hso
          have hwt : Wt (l.take i) + n ≤ 66 := hwt
          have hs6 : H'' as[i] = some (.tup [.str "road", .int n, .int top]) := hs6
          walk_at "w"
          refine ⟨_, _, _, _, rfl, rfl, sqT_of hs6, rfl, ?_⟩
          walk_at "w"
          refine ⟨sz, fun lc hlc => ?_⟩
          refine ⟨_, rfl, ?_⟩
          have elc : Same H'' (upd H'' lc (.lst [kV (.inl (M.cnt a0))])) := same_new hlc
          refine ⟨m, ad, lc, as[i], M, t, n, top, 60 * (Wt (l.take i) + n), rfl, hm.px (Px.of _ _ (e6.trans elc)), sqL_of (by rw [upd_same, ← et]; rfl), elc _ _ hs6, x2, x3, x4, by omega, by omega, fun D H7 e7 hD => ?_⟩
          obtain ⟨oD, kve, hD1, hD2, hD3⟩ := hD
          rw [← et] at hD3
          refine ⟨D, kve, _, _, rfl, elc.trans e7, ⟨fun kv hkv => ?_, hD3⟩, .inr ⟨oD, hD1⟩⟩
          have := hD2.so kv hkv
          rw [← et] at this
          exact this
      · rintro σ H7 ⟨E, kve, s7, s8, rfl, e7, ⟨eso, ecm⟩, hE⟩
        have nEl : E ≠ lt := fun z => by
          rcases hE with ⟨_, h⟩ | ⟨oe, h⟩
          · rw [z, l6] at h; cases h
          · rw [z, e7 _ _ l6] at h; cases h
        refine Gh_or e7 hE fun H8 oe e8 _ hE8 => ?_
        refine ⟨_, rfl, E, oe, kve, rfl, hE8, ?_⟩
        refine for_go kve.length (fun e σ H' => ∃ (s7 s8 : Option V) (kvl2 : List (Key × V)), σ = [some (.ref r), some (.ref m), some (.ref td), some (.ref as[i]), some (.ref lt), some (.int (M.cnt a0)), some (.ref E), s7, s8, none] ∧ Same H H' ∧ H' td = some (.frz od (.dK kvs)) ∧ H' E = some (.frz oe (.dK kve)) ∧ H' lt = some (.dK kvl2) ∧ CSo M (l.take (i + 1)) kvl2 ∧
            (∀ c, In kvl c → In kvl2 c) ∧ ∀ (e' : Nat) (kv : Key × V), e' < e → kve[e']? = some kv → (valV kvl2 kv.1).isSome = true)
          ⟨_, _, kvl, rfl, e6.trans e8, e8 _ _ f6, hE8, e8 _ _ l6, c6, fun _ h => h, fun e' _ h => by omega⟩ ?_ ?_
        · rintro e σ H9 he ⟨s7, s8, kvl2, rfl, e9, f9, hE9, l9, c9, old9, new9⟩
          refine ⟨⟨hE9, he⟩, fun x H10 hx => ?_⟩
          obtain ⟨Tp, k1, v1, hkv1, rfl, hTp, rfl⟩ := hx
          obtain ⟨b1, z1, hb1, ek1, ev1, hz1⟩ := eso _ (List.mem_of_getElem? hkv1)
          have ek1 : k1 = .inl (b1.foldl M.on (M.cnt a0)) := ek1
          have ev1 : v1 = .str z1 := ev1
          subst ek1
          subst ev1
          have e10 := same_new (o := .tup [kV (.inl (b1.foldl M.on (M.cnt a0))), .str z1]) hTp
          have f10 := e10 _ _ f9
          have E10 := e10 _ _ hE9
          have l10 := e10 _ _ l9
          refine ⟨_, _, rfl, sqT_of upd_same, rfl, ?_⟩
          walk_at "g"
          have hkl := c9.ki.len
          have hzz : z0.length + z1.length ≤ 132 := by omega
          have hW2 := Wt_take l (i + 1)
          refine ⟨.inl ⟨_, .inl l10⟩, ?_⟩
          refine ⟨_, rfl, _, rfl, _, rfl, td, .str z0, rfl, .inl ⟨kvs, .inl (M.cnt a0), .inr ⟨od, f10⟩, rfl, hval.symm⟩, ?_⟩
          refine ⟨_, rfl, z0, z1, rfl, rfl, szl (by omega), ?_⟩
          have hfa : Fit (l.take (i + 1)) (a0 ++ b1) := by rw [htk]; exact .snoc ha0 hb1
          have hzl : (z0 ++ z1).length ≤ Wt (l.take (i + 1)) := by
            rw [htk, Wt_snoc]
            show (z0.cps ++ z1.cps).size ≤ _
            rw [Array.size_append]
            exact Nat.add_le_add hz0 hz1
          refine ⟨kvl2, .inl (b1.foldl M.on (M.cnt a0)), l10, rfl, szL (by omega), fun v' hv' => ?_, fun hnone => ?_⟩
          · refine ⟨_, _, kvl2, rfl, e9.trans e10, f10, E10, l10, c9, old9, fun e' kv he' hkv' => ?_⟩
            by_cases h : e' < e
            · exact new9 e' kv h hkv'
            · have : e' = e := by omega
              subst this
              rw [hkv1] at hkv'
              cases hkv'
              show (valV kvl2 (.inl (b1.foldl M.on (M.cnt a0)))).isSome = true
              rw [hv']
              rfl
          · have cp := c9.put o hfa hzl
            rw [← cnt_app] at cp
            have nlT : lt ≠ E := nEl.symm
            have ntl : td ≠ lt := fun z => by rw [z, l10] at f10; cases f10
            refine ⟨_, _, _, rfl, same_mut (e9.trans e10) hlf, by rw [upd_ne ntl]; exact f10, by rw [upd_ne nEl]; exact E10, upd_same, cp, fun c hc => (old9 c hc).put, fun e' kv he' hkv' => ?_⟩
            by_cases h : e' < e
            · have h9 := new9 e' kv h hkv'
              rw [valV_put]
              split
              · rfl
              · exact h9
            · have : e' = e := by omega
              subst this
              rw [hkv1] at hkv'
              cases hkv'
              exact In.put1
        · rintro σ H9 ⟨s7, s8, kvl2, rfl, e9, f9, hE9, l9, c9, old9, new9⟩
          refine ⟨⟨hE9, Nat.le_refl _⟩, _, _, _, _, kvl2, rfl, e9, f9, l9, c9, fun a b ha hb hd => ?_⟩
          obtain ⟨j', kv, hj', hkv', hke⟩ := hd
          by_cases h : j' < j
          · exact old9 _ (d6 a b ha hb ⟨j', kv, h, hkv', hke⟩)
          · have : j' = j := by omega
            subst this
            rw [hkv] at hkv'
            cases hkv'
            have hke : M.cnt a0 = M.cnt a := Sum.inl.inj hke
            have hin := ecm b hb
            unfold In at hin
            rw [← L2.valV_any] at hin
            obtain ⟨kv2, hkm, hke2⟩ := List.any_eq_true.mp hin
            have hke2 : kv2.1 = .inl (b.foldl M.on (M.cnt a0)) := of_decide_eq_true hke2
            obtain ⟨e', he', rfl⟩ := List.mem_iff_getElem.mp hkm
            have h5 := new9 e' _ he' (List.getElem?_eq_getElem he')
            rw [hke2, hke, cnt_app] at h5
            exact h5
    · rintro σ H6 ⟨s5, s6, s7, s8, kvl, rfl, e6, f6, l6, c6, d6⟩
      refine ⟨⟨f6, Nat.le_refl _⟩, ?_⟩
      walk_at "w"
      refine ⟨lt, _, _, _, _, _, _, kvl, rfl, e6, hlf, l6, c6, fun c hc => ?_⟩
      rw [htk] at hc
      obtain ⟨a, b, rfl, ha, hb⟩ := hc.inv
      have hin := hcov a ha
      unfold In at hin
      rw [← L2.valV_any] at hin
      obtain ⟨kv, hkm, hke⟩ := List.any_eq_true.mp hin
      obtain ⟨j, hj, rfl⟩ := List.mem_iff_getElem.mp hkm
      exact d6 a b ha hb ⟨j, _, hj, List.getElem?_eq_getElem hj, of_decide_eq_true hke⟩
  · rintro σ H3 ⟨td, s3, s4, s5, s6, s7, s8, kvs, rfl, e3, htd, hd3, hcs, hcov⟩
    refine ⟨⟨_, sqT_of (e3 _ _ h2), by simp⟩, ?_⟩
    refine ⟨_, rfl, ?_⟩
    refine .frz hd3 True.intro fun ob => .now ?_
    rw [hln, List.take_length] at hcs hcov
    exact q td _ (same_mut e3 htd) ⟨ob, kvs, upd_same, hcs, hcov⟩
end Cab
set_option Elab.async false
set_option linter.all false
set_option maxRecDepth 100000
set_option maxHeartbeats 2000000
set_option pp.maxSteps 1500
namespace Cab
open PySem PySem.Spec PyProof.Rows L2

local macro_rules | `(tactic| walk_at "w") => `(tactic| repeat (first | refine Gh.now ?_ | refine ⟨_, rfl, ?_⟩ | refine ⟨_, _, rfl, rfl, ?_⟩ | refine ⟨rfl, ?_⟩))
local macro_rules | `(tactic| walk_at "g") => `(tactic| repeat (first | refine ⟨_, _, rfl, rfl, ?_⟩ | refine ⟨_, _, rfl, ?_⟩ | refine ⟨rfl, ?_⟩ | refine Gh.now ?_ | refine ⟨_, rfl, ?_⟩))
local macro_rules | `(tactic| walk_at "len") => `(tactic| first | (intro hh; obtain ⟨e, _⟩ := hh; exact congrArg List.length e) | (intro hh; obtain ⟨_, e, _⟩ := hh; exact congrArg List.length e) | (intro hh; obtain ⟨_, _, e, _⟩ := hh; exact congrArg List.length e) | (intro hh; obtain ⟨_, _, _, e, _⟩ := hh; exact congrArg List.length e) | (intro hh; obtain ⟨_, _, _, _, e, _⟩ := hh; exact congrArg List.length e) | (intro hh; obtain ⟨_, _, _, _, _, e, _⟩ := hh; exact congrArg List.length e) | (intro hh; obtain ⟨_, _, _, _, _, _, e, _⟩ := hh; exact congrArg List.length e) | (intro hh; obtain ⟨_, _, _, _, _, _, _, e, _⟩ := hh; exact congrArg List.length e) | (intro hh; obtain ⟨_, _, _, _, _, _, _, _, e, _⟩ := hh; exact congrArg List.length e) | (intro hh; obtain ⟨_, _, _, _, _, _, _, _, _, e, _⟩ := hh; exact congrArg List.length e) | (intro hh; obtain ⟨_, _, _, _, _, _, _, _, _, _, e, _⟩ := hh; exact congrArg List.length e) | (intro hh; obtain ⟨_, _, _, _, _, _, _, _, _, _, _, e, _⟩ := hh; exact congrArg List.length e) | (intro hh; obtain ⟨_, _, _, _, _, _, _, _, _, _, _, _, e, _⟩ := hh; exact congrArg List.length e))
variable {P : Program} {w : World} {K : PySem.W.Frag} {mg : Str → Option Value} {base : Heap}

/-- the ascending prices along a route -/
structure PrcL (M : Mt) (l : List Sx) (ns : List Int) : Prop where
  asc : ns.Pairwise (· < ·)
  mem : ∀ k, k ∈ ns ↔ ∃ a, Fit l a ∧ k = M.pr (M.cnt a)
theorem fit1_ex {s : Sx} (h : s.ok) : ∃ b, fit1 s b := by
  cases s with
  | road n top =>
    obtain ⟨h1, h2, h3, h4⟩ := h
    refine ⟨List.replicate n 1, by simp, fun v hv => ?_⟩
    have := (List.mem_replicate.mp hv).2
    omega
  | light v => exact ⟨[], 0, Nat.zero_le _, rfl⟩
theorem fit_ex {l : List Sx} (h : ∀ s ∈ l, s.ok) : ∃ a, Fit l a := by
  have key : ∀ n, n ≤ l.length → ∃ a, Fit (l.take n) a := by
    intro n
    induction n with
    | zero => intro _; exact ⟨[], by rw [List.take_zero]; exact .nil⟩
    | succ n ih =>
      intro hn
      obtain ⟨a, ha⟩ := ih (by omega)
      obtain ⟨b, hb⟩ := fit1_ex (h l[n] (List.getElem_mem (by omega)))
      exact ⟨a ++ b, by rw [take_snoc (by omega)]; exact .snoc ha hb⟩
  have := key l.length (Nat.le_refl _)
  rwa [List.take_length] at this
theorem Dear.refl (M : Mt) : Dear M M := ⟨fun _ => Int.le_refl _, Int.le_refl _, rfl, Int.le_refl _, Int.le_refl _⟩
theorem Mt.Ok.pr_mono {M : Mt} (o : M.Ok) {c1 c2 : Int} (h : c1 ≤ c2) : M.pr c1 ≤ M.pr c2 := (Dear.refl M).pr o o h
theorem cnt_le_app {M : Mt} (o : M.Ok) (a b : List Nat) : M.cnt a ≤ M.cnt (a ++ b) := by
  rw [← cnt_app]
  exact (foldl_ge M o b _).1
theorem asc_get {ns : List Int} (h : ns.Pairwise (· < ·)) {i j : Nat} (hij : i ≤ j) (hj : j < ns.length) : ns[i]'(by omega) ≤ ns[j] := by
  by_cases e : i = j
  · subst e; exact Int.le_refl _
  · exact Int.le_of_lt (List.pairwise_iff_getElem.mp h i j (by omega) hj (by omega))
theorem PrcL.ends {M : Mt} {l : List Sx} {ns : List Int} (h : PrcL M l ns) (ok : ∀ s ∈ l, s.ok) : ∃ x y, (ns.map V.int)[0]? = some (.int x) ∧ (ns.map V.int)[(ns.map V.int).length - 1]? = some (.int y) ∧ (∃ a, Fit l a ∧ x = M.pr (M.cnt a)) ∧ (∃ a, Fit l a ∧ y = M.pr (M.cnt a)) ∧ ∀ a, Fit l a → x ≤ M.pr (M.cnt a) ∧ M.pr (M.cnt a) ≤ y := by
  obtain ⟨a, ha⟩ := fit_ex ok
  have hin := (h.mem _).mpr ⟨a, ha, rfl⟩
  have hl : 0 < ns.length := List.length_pos_of_mem hin
  refine ⟨ns[0], ns[ns.length - 1], by rw [List.getElem?_map, List.getElem?_eq_getElem hl]; rfl, by rw [List.length_map, List.getElem?_map, List.getElem?_eq_getElem (by omega)]; rfl, (h.mem _).mp (List.getElem_mem _), (h.mem _).mp (List.getElem_mem _), fun a ha => ?_⟩
  obtain ⟨i, hi, e⟩ := List.mem_iff_getElem.mp ((h.mem _).mpr ⟨a, ha, rfl⟩)
  rw [← e]
  exact ⟨asc_get h.asc (Nat.zero_le _) hi, asc_get h.asc (by omega) (by omega)⟩
def pr_Route_prices (P : Program) (w : World) (K : PySem.W.Frag) : Pr := fun vs H Q => ∃ (r m ad : Addr) (M : Mt) (l : List Sx), vs = [.ref r, .ref m] ∧ RtAt K H r l ∧ MetI K H m M ad ∧ l.length ≤ 100 ∧ Wt l ≤ 66 ∧ ∀ p H' ns, Same H H' → Ls H' p (ns.map V.int) → PrcL M l ns → Q (.ref p) H'
theorem ok_Route_prices (T : Wd K mg base) : Fn P w K mg base 9 (He.ma K (He.ga K "Route") "prices") (pr_Route_prices P w K) := by
  obtain ⟨fd, F0⟩ := T.fdef 74 (d := d_Route_prices)
  have F : FunD K "prices" "Route.prices" (defArgs s_Route_prices) (defBody s_Route_prices) (defScope s_Route_prices) [] [] (He.ma K (He.ga K "Route") "prices") fd := F0
  refine fn_mk (N := N_Route_prices) (ps := ["self", "meter"]) F sc_Route_prices (fun kV doc pm an cdv ct us hl => match us, hl with | [u0, u1], _ => rfl) (fun vs H Q => by walk_at "len") fun cdv A outer s H vs Q E hr h => ?_
  refine ⟨_, (pss_one (ps_ret (pe_gh (pe_callB (cr_sortedSetI rfl) (by rfl) T.f_sorted (by decide +kernel) (pa_cons (pe_callTy (cr_setL rfl) (by rfl) T.f_set (by decide +kernel) (pa_cons (pe_lc (own := [("count", 2)]) rfl sc_Route_prices.nd (pi_keys (pe_M (ok_Route_counts_along T) (hr.mono (by decide)) T.cls_Route T.m_Route_counts_along (pv 0) (pa_cons (pv 1) pa_nil))) (blkOk_by (own := [("count", 2)]) (N := N_Route_prices) (sc := defScope s_Route_prices) (by decide +kernel)) (fun _ _ _ _ _ => (pg_name (i := 2) sc_Route_prices.nd rfl (Or.inl rfl))) (fun _ _ _ _ _ => pts_nil) (fun _ _ _ _ _ => (pe_M (ok_Meter_price_at T) (hr.mono (by decide)) T.cls_Meter T.m_Meter_price_at (pv 1) (pa_cons (pv 2) pa_nil)))) pa_nil)) pa_nil))))), ?_⟩
  obtain ⟨r, m, ad, M, l, rfl, hrt, hm, hl, hw, q⟩ := h
  obtain ⟨ho, dx, rt, as, h1, h2, h3⟩ := id hrt
  obtain ⟨o, dxm, an, a2, a3, tb, hm1, _⟩ := id hm
  refine ⟨_, rfl, r, _, _, rfl, h1, rfl, ?_⟩
  walk_at "w"
  refine ⟨r, m, ad, M, l, rfl, hrt, hm, hl, hw, fun C H1 e1 hC => ?_⟩
  obtain ⟨oc, kvs, hC, cs, cov⟩ := hC
  refine ⟨C, oc, rfl, .inl ⟨kvs, hC, fun D hD => ?_⟩⟩
  have hkl := cs.ki.len
  have p1 := Px.of _ _ e1
  refine lc_map (kvs.map fun kv => V.int (M.pr (k2n kv.1 : Nat))) hD (fun i H' hi c => ?_) fun H2 e2 hq => ⟨⟨e2 _ _ hC, by simp⟩, ?_⟩
  · have hi' : i < kvs.length := by simpa using hi
    refine ⟨⟨c.same _ _ hC, hi'⟩, fun x H'' hx => ?_⟩
    obtain ⟨rfl, k0, v0, hkv, rfl⟩ := hx
    obtain ⟨t, htN, et⟩ := cs.ki.2 _ (List.mem_of_getElem? hkv)
    have et : k0 = .inl (t : Int) := et
    subst et
    refine ⟨rfl, ?_⟩
    have pc := c.px
    refine ⟨_, rfl, m, _, _, rfl, pc _ _ (p1 _ _ hm1 True.intro) True.intro, rfl, ?_⟩
    walk_at "w"
    refine ⟨m, ad, M, _, rfl, (hm.px p1).px pc, Int.natCast_nonneg t, fun H4 e4 => ?_⟩
    refine CR.fin Rz.mono c (by omega) e4 ?_
    show (kvs.map fun kv => V.int (M.pr (k2n kv.1 : Nat)))[i]? = _
    rw [List.getElem?_map, hkv]
    show some (V.int (M.pr (((t : Int).toNat : Nat) : Int))) = _
    rw [Int.toNat_natCast]
  have hq' : H2 D = some (.lst ((kvs.map fun kv => M.pr (k2n kv.1 : Nat)).map V.int)) := by rw [List.map_map]; exact hq
  walk_at "w"
  refine ⟨D, _, rfl, sqL_of hq', by rw [List.length_map]; omega, fun p n hp hn => ?_⟩
  walk_at "w"
  refine ⟨p, _, n, rfl, upd_same, by rw [List.length_map] at hn; omega, fun ns p2 hasc hmem hlen hp2 => ?_⟩
  refine .frz upd_same True.intro fun ob => .now ?_
  have e3 := (e1.trans e2).trans (same_new (o := SetO w p (fun j => decide (j ∈ kvs.map fun kv => M.pr (k2n kv.1 : Nat))) n) hp)
  refine q p2 _ ns (same_mut (e3.trans (same_new hp2)) (fresh_of e3 hp2)) Ls.mk' ⟨hasc, fun k => ?_⟩
  rw [hmem, decide_eq_true_eq]
  constructor
  · intro hk
    obtain ⟨kv, hkv, rfl⟩ := List.mem_map.mp hk
    obtain ⟨a, z, ha, ek, _⟩ := cs.so kv hkv
    obtain ⟨t, _, et⟩ := cs.ki.2 kv hkv
    rw [et] at ek
    have ek : (t : Int) = M.cnt a := Sum.inl.inj ek
    refine ⟨a, ha, ?_⟩
    rw [et]
    show M.pr (((t : Int).toNat : Nat) : Int) = _
    rw [Int.toNat_natCast, ek]
  · rintro ⟨a, ha, rfl⟩
    have hin := cov a ha
    unfold In at hin
    rw [← L2.valV_any] at hin
    obtain ⟨kv, hkv, he⟩ := List.any_eq_true.mp hin
    have he : kv.1 = .inl (M.cnt a) := of_decide_eq_true he
    refine List.mem_map.mpr ⟨kv, hkv, ?_⟩
    obtain ⟨t, _, et⟩ := cs.ki.2 kv hkv
    rw [et] at he
    have he : (t : Int) = M.cnt a := Sum.inl.inj he
    rw [et]
    show M.pr (((t : Int).toNat : Nat) : Int) = _
    rw [Int.toNat_natCast, he]
end Cab
set_option Elab.async false
set_option linter.all false
set_option maxRecDepth 100000
set_option maxHeartbeats 2000000
set_option pp.maxSteps 1500
namespace Cab
open PySem PySem.Spec PyProof.Rows L2

local macro_rules | `(tactic| walk_at "w") => `(tactic| repeat (first | refine Gh.now ?_ | refine ⟨_, rfl, ?_⟩ | refine ⟨_, _, rfl, rfl, ?_⟩ | refine ⟨rfl, ?_⟩))
local macro_rules | `(tactic| walk_at "g") => `(tactic| repeat (first | refine ⟨_, _, rfl, rfl, ?_⟩ | refine ⟨_, _, rfl, ?_⟩ | refine ⟨rfl, ?_⟩ | refine Gh.now ?_ | refine ⟨_, rfl, ?_⟩))
local macro_rules | `(tactic| walk_at "len") => `(tactic| first | (intro hh; obtain ⟨e, _⟩ := hh; exact congrArg List.length e) | (intro hh; obtain ⟨_, e, _⟩ := hh; exact congrArg List.length e) | (intro hh; obtain ⟨_, _, e, _⟩ := hh; exact congrArg List.length e) | (intro hh; obtain ⟨_, _, _, e, _⟩ := hh; exact congrArg List.length e) | (intro hh; obtain ⟨_, _, _, _, e, _⟩ := hh; exact congrArg List.length e) | (intro hh; obtain ⟨_, _, _, _, _, e, _⟩ := hh; exact congrArg List.length e) | (intro hh; obtain ⟨_, _, _, _, _, _, e, _⟩ := hh; exact congrArg List.length e) | (intro hh; obtain ⟨_, _, _, _, _, _, _, e, _⟩ := hh; exact congrArg List.length e) | (intro hh; obtain ⟨_, _, _, _, _, _, _, _, e, _⟩ := hh; exact congrArg List.length e) | (intro hh; obtain ⟨_, _, _, _, _, _, _, _, _, e, _⟩ := hh; exact congrArg List.length e) | (intro hh; obtain ⟨_, _, _, _, _, _, _, _, _, _, e, _⟩ := hh; exact congrArg List.length e) | (intro hh; obtain ⟨_, _, _, _, _, _, _, _, _, _, _, e, _⟩ := hh; exact congrArg List.length e) | (intro hh; obtain ⟨_, _, _, _, _, _, _, _, _, _, _, _, e, _⟩ := hh; exact congrArg List.length e))
variable {P : Program} {w : World} {K : PySem.W.Frag} {mg : Str → Option Value} {base : Heap}

/-! ### the bag -/
def BagV (s : Addr) (i1 i2 i3 i4 : Int) : List V := [.ref s, .int i1, .int i2, .int i3, .int i4]
def BagAt (H : Hp) (b : Addr) : Prop := ∃ s, ∃ ns : List Int, ∃ i1 i2 i3 i4 : Int, H b = some (.lst (BagV s i1 i2 i3 i4)) ∧ Ls H s (ns.map V.int) ∧ ns.length ≤ 100 ∧ 0 ≤ i1
/-- all but the bag stands -/
def SB (b : Addr) (H H' : Hp) : Prop := ∀ a o, a ≠ b → H a = some o → H' a = some o
theorem SB.refl (b : Addr) (H : Hp) : SB b H H := fun _ _ _ h => h
theorem SB.trans {b : Addr} {H H1 H2 : Hp} (x : SB b H H1) (y : SB b H1 H2) : SB b H H2 := fun a o n h => y a o n (x a o n h)
theorem SB.of {b : Addr} {H H' : Hp} (e : Same H H') : SB b H H' := fun a o _ h => e a o h
theorem SB.at {b : Addr} {H : Hp} {o : HO} : SB b H (upd H b o) := fun a u n h => by rw [upd_ne n]; exact h
theorem SB.px {b : Addr} {H H' : Hp} (hb : BagAt H b) (e : SB b H H') : Px H H' := fun a o h i => by
  obtain ⟨s, ns, i1, i2, i3, i4, h1, _⟩ := hb
  exact e a o (fun z => by rw [z, h1] at h; cases h; exact i) h
def pr_law_bag (P : Program) (w : World) (K : PySem.W.Frag) : Pr := fun vs H Q => ∃ (a : Addr) (ns : List Int), vs = [.ref a] ∧ SqL K H a (ns.map V.int) ∧ ns.length ≤ 100 ∧ ∀ b H', H b = none → Same H H' → BagAt H' b → Q (.ref b) H'
theorem ok_law_bag (T : Wd K mg base) : Fn P w K mg base 1 (He.ga K "_law_bag") (pr_law_bag P w K) := by
  obtain ⟨fd, F0⟩ := T.fdef 32 (d := d_law_bag)
  have F : FunD K "_law_bag" "_law_bag" (defArgs s_law_bag) (defBody s_law_bag) (defScope s_law_bag) [] [] (He.ga K "_law_bag") fd := F0
  refine fn_mk (N := N_law_bag) (ps := ["_law_script"]) F sc_law_bag (fun kV doc pm an cdv ct us hl => match us, hl with | [u0], _ => rfl) (fun vs H Q => by walk_at "len") fun cdv A outer s H vs Q E hr h => ?_
  refine ⟨_, (pss_one (ps_ret (pe_gh (pe_lst (pa_cons (pe_callTy call_list_of (by rfl) T.f_list (by decide +kernel) (pa_cons (pv 0) pa_nil)) (pa_cons pe_int (pa_cons pe_int (pa_cons pe_int (pa_cons pe_int pa_nil))))))))), ?_⟩
  obtain ⟨a, ns, rfl, ha, hl, q⟩ := h
  walk_at "w"
  refine ⟨_, _, rfl, .inl ha, fun s hs => ?_⟩
  walk_at "w"
  refine ⟨sz, fun b hb => ?_⟩
  have nsb : s ≠ b := fun z => by rw [← z, upd_same] at hb; cases hb
  refine .frz (u := .lst (ns.map V.int)) (by rw [upd_ne nsb, upd_same]) True.intro fun ob => .now ?_
  have e1 := (same_new (o := .lst (ns.map V.int)) hs).trans (same_new (o := .lst (BagV s 0 0 17 0)) hb)
  exact q b _ (fresh_of (same_new hs) hb) (same_mut e1 hs) ⟨s, ns, 0, 0, 17, 0, by rw [upd_ne nsb.symm]; exact upd_same, Ls.mk', hl, Int.le_refl 0⟩
theorem sm01 (k : Bool) : -(2 ^ 64) < (if k = true then (1 : Int) else 0) ∧ (if k = true then (1 : Int) else 0) < 2 ^ 64 := by
  cases k <;> decide
theorem modb (x : Int) {m : Int} (h : 0 < m) (h2 : m < 9223372036854775808) : (x % m).natAbs < 2 ^ 64 := by
  have h3 := Int.emod_nonneg x (show m ≠ 0 by omega)
  have h4 := Int.emod_lt_of_pos x h
  have e : (2 : Nat) ^ 64 = 18446744073709551616 := by decide
  omega
def pr_law_draw (P : Program) (w : World) (K : PySem.W.Frag) : Pr := fun vs H Q => ∃ (b : Addr) (n : Int), vs = [.ref b, .int n] ∧ BagAt H b ∧ 0 < n ∧ n < 1073741824 ∧ ∀ (d : Int) H', SB b H H' → BagAt H' b → 0 ≤ d → d < n → Q (.int d) H'
theorem ok_law_draw (T : Wd K mg base) : Fn P w K mg base 1 (He.ga K "_law_draw") (pr_law_draw P w K) := by
  obtain ⟨fd, F0⟩ := T.fdef 33 (d := d_law_draw)
  have F : FunD K "_law_draw" "_law_draw" (defArgs s_law_draw) (defBody s_law_draw) (defScope s_law_draw) [] [] (He.ga K "_law_draw") fd := F0
  refine fn_mk (N := N_law_draw) (ps := ["_law_bag_here", "_law_size"]) F sc_law_draw (fun kV doc pm an cdv ct us hl => match us, hl with | [u0, u1], _ => rfl) (fun vs H Q => by walk_at "len") fun cdv A outer s H vs Q E hr h => ?_
  refine ⟨_, (pss_gcons (ps_asg (pe_op op_add (pe_ix (ix_list : IxR _ (rIxL K)) (pv 0) pe_int (fun _ _ => rfl)) pe_int) (pg_sub (pv 0) pe_int set_list)) (Evl.pss_cut (ps_if (PW.pt (pw_and (pt_cmpR op_eq (pe_ix (ix_list : IxR _ (rIxL K)) (pv 0) pe_int (fun _ _ => rfl)) pe_int (nomark _)) (pw_and1 (pt_cmpR op_lt (pe_ix (ix_list : IxR _ (rIxL K)) (pv 0) pe_int (fun _ _ => rfl)) (pe_callB (call_lenK (K := K)) (by rfl) T.f_len (by decide +kernel) (pa_cons (pe_ix (ix_list : IxR _ (rIxL K)) (pv 0) pe_int (fun _ _ => rfl)) pa_nil)) (nomark _))))) (pss_gcons (ps_set (i := 2) sc_law_draw.nd rfl (Or.inl rfl) (pe_ix (ix_list : IxR _ (rIxL K)) (pe_ix (ix_list : IxR _ (rIxL K)) (pv 0) pe_int (fun _ _ => rfl)) (pe_ix (ix_list : IxR _ (rIxL K)) (pv 0) pe_int (fun _ _ => rfl)) (fun _ _ => rfl))) (pss_gcons (ps_asg (pe_op op_add (pe_ix (ix_list : IxR _ (rIxL K)) (pv 0) pe_int (fun _ _ => rfl)) pe_int) (pg_sub (pv 0) pe_int set_list)) (pss_gcons (ps_asg (pe_op op_mul (pe_op op_add (pe_op op_mul pe_int (pe_callB call_abs (by rfl) T.f_abs (by decide +kernel) (pa_cons (pv 2) pa_nil))) (pe_callTy call_int1 (by rfl) T.f_int (by decide +kernel) (pa_cons (pe_cmpR op_lt (pv 2) pe_int (nomark _)) pa_nil))) (pe_callTy call_int1 (by rfl) T.f_int (by decide +kernel) (pa_cons (pe_cmpR op_ge (pe_callB call_abs (by rfl) T.f_abs (by decide +kernel) (pa_cons (pv 2) pa_nil)) (pe_op op_pow pe_int pe_int) (nomark _)) pa_nil))) (pg_sub (pv 0) pe_int set_list)) (pss_one (ps_asg (pe_op op_mod (pe_callTy call_int1 (by rfl) T.f_int (by decide +kernel) (pa_cons (pe_op op_add (pe_op op_add (pe_op op_mul (pe_ix (ix_list : IxR _ (rIxL K)) (pv 0) pe_int (fun _ _ => rfl)) pe_int) (pe_op op_mul (pv 2) pe_int)) pe_int) pa_nil)) pe_int) (pg_sub (pv 0) pe_int set_list)))))) pss_nil) (pss_gcons (ps_set (i := 3) sc_law_draw.nd rfl (Or.inl rfl) (pe_op op_mod (pe_callTy call_int1 (by rfl) T.f_int (by decide +kernel) (pa_cons (pe_ix (ix_list : IxR _ (rIxL K)) (pv 0) pe_int (fun _ _ => rfl)) pa_nil)) (pv 1))) (pss_cons (ps_if (pt_cmpR op_gt (pe_ix (ix_list : IxR _ (rIxL K)) (pv 0) pe_int (fun _ _ => rfl)) pe_int (nomark _)) (pss_gcons (ps_asg (pe_op op_fdiv (pe_ix (ix_list : IxR _ (rIxL K)) (pv 0) pe_int (fun _ _ => rfl)) (pv 1)) (pg_sub (pv 0) pe_int set_list)) (pss_one (ps_ret (pe_gh (pv 3))))) pss_nil) (pss_gcons (ps_set (i := 4) sc_law_draw.nd rfl (Or.inl rfl) (pe_op op_mod (pe_callTy call_int1 (by rfl) T.f_int (by decide +kernel) (pa_cons (pe_op op_add (pe_ix (ix_list : IxR _ (rIxL K)) (pv 0) pe_int (fun _ _ => rfl)) (pe_op op_mul (pe_ix (ix_list : IxR _ (rIxL K)) (pv 0) pe_int (fun _ _ => rfl)) pe_int)) pa_nil)) pe_int)) (pss_gcons (ps_set (i := 4) sc_law_draw.nd rfl (Or.inl rfl) (pe_op op_mod (pe_callTy call_int1 (by rfl) T.f_int (by decide +kernel) (pa_cons (pe_op op_add (pe_op op_add (pe_op op_pow (pv 4) pe_int) (pe_op op_mul (pe_ix (ix_list : IxR _ (rIxL K)) (pv 0) pe_int (fun _ _ => rfl)) pe_int)) pe_int) pa_nil)) pe_int)) (pss_one (ps_ret (pe_gh (pe_op op_mod (pe_op op_fdiv (pe_op op_mod (pe_callTy call_int1 (by rfl) T.f_int (by decide +kernel) (pa_cons (pe_op op_pow (pv 4) pe_int) pa_nil)) pe_int) pe_int) (pv 1))))))))))), ?_⟩
  obtain ⟨b, n, rfl, ⟨s, ns, i1, i2, i3, i4, hb, hs, hns, h1⟩, hn, hn2, q⟩ := h
  have nsb : s ≠ b := fun z => by obtain ⟨o, h⟩ := hs.ex; rw [z, hb] at h; cases h
  walk_at "w"
  refine ⟨_, _, _, _, rfl, rfl, sqL_of hb, rfl, ?_⟩
  walk_at "w"
  refine ⟨b, _, 4, 4, rfl, rfl, hb, rfl, .now ?_⟩
  have b1 : upd H b (.lst (BagV s i1 i2 i3 (i4 + 1))) b = some (.lst (BagV s i1 i2 i3 (i4 + 1))) := upd_same
  have e1 : SB b H (upd H b (.lst (BagV s i1 i2 i3 (i4 + 1)))) := SB.at
  have s1 : Ls (upd H b (.lst (BagV s i1 i2 i3 (i4 + 1)))) s (ns.map V.int) := hs.px (Px.mut hb (fun z => z))
  show Evl.tCut _ _ _ _ (upd H b (.lst (BagV s i1 i2 i3 (i4 + 1))))
  generalize upd H b (.lst (BagV s i1 i2 i3 (i4 + 1))) = H1 at b1 e1 s1 ⊢
  generalize i4 + 1 = i4 at b1
  refine ⟨fun σ' H' => ∃ (c : Option V) (i1 i2 i3 i4 : Int), σ' = [some (.ref b), some (.int n), c, none, none] ∧ SB b H H' ∧ H' b = some (.lst (BagV s i1 i2 i3 i4)) ∧ Ls H' s (ns.map V.int) ∧ 0 ≤ i1, ?_, ?_⟩
  · have stay : (∃ (c : Option V) (i1 i2 i3 i4 : Int), [some (V.ref b), some (V.int n), none, none, none] = [some (.ref b), some (.int n), c, none, none] ∧ SB b H H1 ∧ H1 b = some (.lst (BagV s i1 i2 i3 i4)) ∧ Ls H1 s (ns.map V.int) ∧ 0 ≤ i1) := ⟨none, i1, i2, i3, i4, rfl, e1, b1, s1, h1⟩
    walk_at "w"
    refine ⟨_, _, _, _, rfl, rfl, sqL_of b1, rfl, ?_⟩
    walk_at "w"
    refine iB (fun hz => ?_) fun hz => iF rfl stay
    walk_at "w"
    refine ⟨_, _, _, _, rfl, rfl, sqL_of b1, rfl, ?_⟩
    walk_at "w"
    refine ⟨_, _, _, _, rfl, rfl, sqL_of b1, rfl, ?_⟩
    walk_at "w"
    refine ⟨_, _, rfl, .inl s1.sq, ?_⟩
    walk_at "w"
    refine iB (fun hlt => ?_) fun hlt => stay
    have hlt : i1 < (ns.length : Int) := by have := of_decide_eq_true hlt; simpa using this
    have hi1 : i1.toNat < ns.length := by omega
    walk_at "w"
    refine ⟨_, _, _, _, rfl, rfl, sqL_of b1, rfl, ?_⟩
    walk_at "w"
    refine ⟨_, _, _, _, rfl, rfl, sqL_of b1, rfl, ?_⟩
    refine ⟨_, _, _, _, rfl, rfl, s1.sq, (by rw [show i1 = ((i1.toNat : Nat) : Int) by omega]; exact atI_nat (by rw [List.getElem?_map, List.getElem?_eq_getElem hi1]; rfl)), .now ?_⟩
    generalize ns[i1.toNat] = c
    clear stay
    walk_at "w"
    refine ⟨_, _, _, _, rfl, rfl, sqL_of b1, rfl, ?_⟩
    walk_at "w"
    refine ⟨b, _, 1, 1, rfl, rfl, b1, rfl, .now ?_⟩
    have ba : upd H1 b (.lst (BagV s (i1 + 1) i2 i3 i4)) b = some (.lst (BagV s (i1 + 1) i2 i3 i4)) := upd_same
    have ea : SB b H (upd H1 b (.lst (BagV s (i1 + 1) i2 i3 i4))) := e1.trans SB.at
    have sa : Ls (upd H1 b (.lst (BagV s (i1 + 1) i2 i3 i4))) s (ns.map V.int) := s1.px (Px.mut b1 (fun z => z))
    show tSeqG _ _ _ _ (upd H1 b (.lst (BagV s (i1 + 1) i2 i3 i4)))
    generalize upd H1 b (.lst (BagV s (i1 + 1) i2 i3 i4)) = Ha at ba ea sa ⊢
    walk_at "w"
    refine ⟨.inl ⟨by decide, by decide⟩, ?_⟩
    walk_at "w"
    refine .inr ⟨_, rfl, ?_⟩
    walk_at "w"
    refine ⟨⟨by decide, by decide, by decide⟩, ?_⟩
    walk_at "w"
    refine .inr ⟨_, rfl, ?_⟩
    walk_at "w"
    refine ⟨.inr (sm01 _), ?_⟩
    walk_at "w"
    refine ⟨b, _, 2, 2, rfl, rfl, ba, rfl, .now ?_⟩
    generalize hv2 : (fun i j => V.int (i * j)) _ _ = v2
    obtain ⟨q2, rfl⟩ : ∃ q : Int, v2 = V.int q := ⟨_, hv2.symm⟩
    clear hv2
    have bb : upd Ha b (.lst (BagV s (i1 + 1) q2 i3 i4)) b = some (.lst (BagV s (i1 + 1) q2 i3 i4)) := upd_same
    have eb : SB b H (upd Ha b (.lst (BagV s (i1 + 1) q2 i3 i4))) := ea.trans SB.at
    have sb : Ls (upd Ha b (.lst (BagV s (i1 + 1) q2 i3 i4))) s (ns.map V.int) := sa.px (Px.mut ba (fun z => z))
    show tAsg _ _ _ _ (upd Ha b (.lst (BagV s (i1 + 1) q2 i3 i4)))
    generalize upd Ha b (.lst (BagV s (i1 + 1) q2 i3 i4)) = Hb at bb eb sb ⊢
    walk_at "w"
    refine ⟨_, _, _, _, rfl, rfl, sqL_of bb, rfl, ?_⟩
    walk_at "w"
    refine ⟨.inr ⟨by decide, by decide⟩, ?_⟩
    walk_at "w"
    refine ⟨.inr ⟨by decide, by decide⟩, ?_⟩
    walk_at "w"
    refine .inl ⟨_, rfl, ?_⟩
    walk_at "w"
    refine ⟨show (0 : Int) < 2147483647 by decide, ?_⟩
    walk_at "w"
    refine ⟨b, _, 3, 3, rfl, rfl, bb, rfl, ?_⟩
    exact ⟨_, i1 + 1, q2, _, i4, rfl, eb.trans SB.at, upd_same, sb.px (Px.mut bb (fun z => z)), by omega⟩
  · rintro σ H2 ⟨c, j1, j2, j3, j4, rfl, e2, b2, s2, hj1⟩
    walk_at "w"
    refine ⟨_, _, _, _, rfl, rfl, sqL_of b2, rfl, ?_⟩
    walk_at "w"
    refine .inl ⟨_, rfl, ?_⟩
    walk_at "w"
    refine ⟨hn, .now ?_⟩
    have m0 : 0 ≤ j2 % n := Int.emod_nonneg _ (by omega)
    have m1 : j2 % n < n := Int.emod_lt_of_pos _ hn
    walk_at "w"
    refine ⟨_, _, _, _, rfl, rfl, sqL_of b2, rfl, ?_⟩
    walk_at "w"
    refine iB (fun hp => ?_) fun hp => ?_
    · walk_at "w"
      refine ⟨_, _, _, _, rfl, rfl, sqL_of b2, rfl, ?_⟩
      walk_at "w"
      refine ⟨⟨hn, hn2⟩, ?_⟩
      walk_at "w"
      refine ⟨b, _, 2, 2, rfl, rfl, b2, rfl, .now ?_⟩
      walk_at "w"
      exact q _ _ (e2.trans SB.at) ⟨s, ns, j1, j2 / n, j3, j4, upd_same, s2.px (Px.mut b2 (fun z => z)), hns, hj1⟩ m0 m1
    · walk_at "w"
      refine ⟨_, _, _, _, rfl, rfl, sqL_of b2, rfl, ?_⟩
      walk_at "w"
      refine ⟨_, _, _, _, rfl, rfl, sqL_of b2, rfl, ?_⟩
      walk_at "w"
      refine ⟨.inr ⟨by decide, by decide⟩, ?_⟩
      walk_at "w"
      refine .inl ⟨_, rfl, ?_⟩
      walk_at "w"
      refine ⟨show (0 : Int) < 2147483647 by decide, ?_⟩
      walk_at "w"
      refine ⟨⟨by decide, by decide, modb _ (by decide) (by decide)⟩, ?_⟩
      walk_at "w"
      refine ⟨_, _, _, _, rfl, rfl, sqL_of b2, rfl, ?_⟩
      walk_at "w"
      refine ⟨.inr ⟨by decide, by decide⟩, ?_⟩
      walk_at "w"
      refine .inl ⟨_, rfl, ?_⟩
      walk_at "w"
      refine ⟨show (0 : Int) < 2147483629 by decide, ?_⟩
      walk_at "w"
      refine ⟨⟨by decide, by decide, modb _ (by decide) (by decide)⟩, ?_⟩
      walk_at "w"
      refine .inl ⟨_, rfl, ?_⟩
      walk_at "w"
      refine ⟨show (0 : Int) < 2147483587 by decide, ?_⟩
      walk_at "w"
      refine ⟨⟨by decide, by decide⟩, ?_⟩
      walk_at "w"
      refine ⟨hn, .now ?_⟩
      exact q _ _ e2 ⟨s, ns, j1, j2, j3, j4, b2, s2, hns, hj1⟩ (Int.emod_nonneg _ (by omega)) (Int.emod_lt_of_pos _ hn)
end Cab
set_option Elab.async false
set_option linter.all false
set_option maxRecDepth 100000
set_option maxHeartbeats 2000000
set_option pp.maxSteps 1500
namespace Cab
open PySem PySem.Spec PyProof.Rows L2

local macro_rules | `(tactic| walk_at "w") => `(tactic| repeat (first | refine Gh.now ?_ | refine ⟨_, rfl, ?_⟩ | refine ⟨_, _, rfl, rfl, ?_⟩ | refine ⟨rfl, ?_⟩))
local macro_rules | `(tactic| walk_at "g") => `(tactic| repeat (first | refine ⟨_, _, rfl, rfl, ?_⟩ | refine ⟨_, _, rfl, ?_⟩ | refine ⟨rfl, ?_⟩ | refine Gh.now ?_ | refine ⟨_, rfl, ?_⟩))
local macro_rules | `(tactic| walk_at "len") => `(tactic| first | (intro hh; obtain ⟨e, _⟩ := hh; exact congrArg List.length e) | (intro hh; obtain ⟨_, e, _⟩ := hh; exact congrArg List.length e) | (intro hh; obtain ⟨_, _, e, _⟩ := hh; exact congrArg List.length e) | (intro hh; obtain ⟨_, _, _, e, _⟩ := hh; exact congrArg List.length e) | (intro hh; obtain ⟨_, _, _, _, e, _⟩ := hh; exact congrArg List.length e) | (intro hh; obtain ⟨_, _, _, _, _, e, _⟩ := hh; exact congrArg List.length e) | (intro hh; obtain ⟨_, _, _, _, _, _, e, _⟩ := hh; exact congrArg List.length e) | (intro hh; obtain ⟨_, _, _, _, _, _, _, e, _⟩ := hh; exact congrArg List.length e) | (intro hh; obtain ⟨_, _, _, _, _, _, _, _, e, _⟩ := hh; exact congrArg List.length e) | (intro hh; obtain ⟨_, _, _, _, _, _, _, _, _, e, _⟩ := hh; exact congrArg List.length e) | (intro hh; obtain ⟨_, _, _, _, _, _, _, _, _, _, e, _⟩ := hh; exact congrArg List.length e) | (intro hh; obtain ⟨_, _, _, _, _, _, _, _, _, _, _, e, _⟩ := hh; exact congrArg List.length e) | (intro hh; obtain ⟨_, _, _, _, _, _, _, _, _, _, _, _, e, _⟩ := hh; exact congrArg List.length e))
variable {P : Program} {w : World} {K : PySem.W.Frag} {mg : Str → Option Value} {base : Heap}

def pr_law_pick (P : Program) (w : World) (K : PySem.W.Frag) : Pr := fun vs H Q => ∃ (b a : Addr) (zs : List Str), vs = [.ref b, .ref a] ∧ BagAt H b ∧ Ls H a (zs.map V.str) ∧ 0 < zs.length ∧ zs.length < 1000000 ∧ ∀ z H', SB b H H' → BagAt H' b → z ∈ zs → Q (.str z) H'
theorem ok_law_pick (T : Wd K mg base) : Fn P w K mg base 2 (He.ga K "_law_pick") (pr_law_pick P w K) := by
  obtain ⟨fd, F0⟩ := T.fdef 34 (d := d_law_pick)
  have F : FunD K "_law_pick" "_law_pick" (defArgs s_law_pick) (defBody s_law_pick) (defScope s_law_pick) [] [] (He.ga K "_law_pick") fd := F0
  refine fn_mk (N := N_law_pick) (ps := ["_law_bag_here", "_law_items"]) F sc_law_pick (fun kV doc pm an cdv ct us hl => match us, hl with | [u0, u1], _ => rfl) (fun vs H Q => by walk_at "len") fun cdv A outer s H vs Q E hr h => ?_
  refine ⟨_, (pss_one (ps_ret (pe_gh (pe_ix (ix_list : IxR _ (rIxL K)) (pv 1) (pe_R (ok_law_draw T) (hr.mono (by decide)) T.g__law_draw T.k_law_draw (pa_cons (pv 0) (pa_cons (pe_callB (call_lenK (K := K)) (by rfl) T.f_len (by decide +kernel) (pa_cons (pv 1) pa_nil)) pa_nil))) (fun _ _ => rfl))))), ?_⟩
  obtain ⟨b, a, zs, rfl, hb, ha, h0, h1, q⟩ := h
  walk_at "w"
  refine ⟨_, _, rfl, .inl ha.sq, ?_⟩
  walk_at "w"
  refine ⟨b, _, rfl, hb, by rw [List.length_map]; omega, by rw [List.length_map]; omega, fun d H1 e1 hb1 hd0 hd1 => ?_⟩
  rw [List.length_map] at hd1
  have hdn : d.toNat < zs.length := by omega
  have ha1 := ha.px (SB.px hb e1)
  refine ⟨_, _, _, _, rfl, rfl, ha1.sq, (by rw [show d = ((d.toNat : Nat) : Int) by omega]; exact atI_nat (by rw [List.getElem?_map, List.getElem?_eq_getElem hdn]; rfl)), .now ?_⟩
  exact q _ _ e1 hb1 (List.getElem_mem hdn)
def digL : List Str := ["0123456789", "005", "0123", "09", "3456"]
theorem digL_ok : ∀ z ∈ digL, 0 < z.length ∧ z.length ≤ 10 ∧ ∀ c ∈ z.cps.toList, c ∈ ("0123456789" : Str).cps.toList := by decide +kernel
def pr_law_drawn_trip (P : Program) (w : World) (K : PySem.W.Frag) : Pr := fun vs H Q => ∃ (b : Addr) (most top : Nat), vs = [.ref b, .int most, .int top] ∧ BagAt H b ∧ most ≤ 100 ∧ top ≤ 9 ∧ ∀ z ds H', SB b H H' → BagAt H' b → Tz z ds → ds.length ≤ most → (∀ v ∈ ds, v ≤ top) → Q (.str z) H'
theorem ok_law_drawn_trip (T : Wd K mg base) : Fn P w K mg base 2 (He.ga K "_law_drawn_trip") (pr_law_drawn_trip P w K) := by
  obtain ⟨fd, F0⟩ := T.fdef 35 (d := d_law_drawn_trip)
  have F : FunD K "_law_drawn_trip" "_law_drawn_trip" (defArgs s_law_drawn_trip) (defBody s_law_drawn_trip) (defScope s_law_drawn_trip) [] [] (He.ga K "_law_drawn_trip") fd := F0
  refine fn_mk (N := N_law_drawn_trip) (ps := ["_law_bag_here", "_law_most", "_law_top"]) F sc_law_drawn_trip (fun kV doc pm an cdv ct us hl => match us, hl with | [u0, u1, u2], _ => rfl) (fun vs H Q => by walk_at "len") fun cdv A outer s H vs Q E hr h => ?_
  refine ⟨_, (pss_gcons (ps_set (i := 3) sc_law_drawn_trip.nd rfl (Or.inl rfl) (pe_ix (ix_list : IxR _ (rIxL K)) (pe_lst (pa_cons pe_str (pa_cons pe_str (pa_cons pe_str (pa_cons pe_str (pa_cons pe_str pa_nil)))))) (pe_R (ok_law_draw T) (hr.mono (by decide)) T.g__law_draw T.k_law_draw (pa_cons (pv 0) (pa_cons pe_int pa_nil))) (fun _ _ => rfl))) (pss_gcons (ps_set (i := 4) sc_law_drawn_trip.nd rfl (Or.inl rfl) pe_str) (pss_cons (ps_for PassesOwn.never rfl (pi_range1 rfl T.f_range (pa_cons (pe_R (ok_law_draw T) (hr.mono (by decide)) T.g__law_draw T.k_law_draw (pa_cons (pv 0) (pa_cons (pe_op op_add (pv 1) pe_int) pa_nil))) pa_nil)) (pg_name (i := 5) sc_law_drawn_trip.nd rfl (Or.inl rfl)) (pss_one (ps_set (i := 4) sc_law_drawn_trip.nd rfl (Or.inl rfl) (pe_op op_add_str (pv 4) (pe_callTy call_str_int (by rfl) T.f_str (by decide +kernel) (pa_cons (pe_callB (call_min2 rfl) (by rfl) T.f_min (by decide +kernel) (pa_cons (pv 2) (pa_cons (pe_callTy call_int_str (by rfl) T.f_int (by decide +kernel) (pa_cons (pe_ix ix_str (pv 3) (pe_R (ok_law_draw T) (hr.mono (by decide)) T.g__law_draw T.k_law_draw (pa_cons (pv 0) (pa_cons (pe_callB call_len_str (by rfl) T.f_len (by decide +kernel) (pa_cons (pv 3) pa_nil)) pa_nil))) (fun _ _ => rfl)) pa_nil)) pa_nil))) pa_nil)))))) (pss_one (ps_ret (pe_gh (pv 4))))))), ?_⟩
  obtain ⟨b, most, top, rfl, hb, hm, ht, q⟩ := h
  have e62 : (2 : Int) ^ 62 = 4611686018427387904 := by decide
  walk_at "w"
  refine ⟨sz, fun L hL => ?_⟩
  have eL : Same H (upd H L (.lst (digL.map V.str))) := same_new hL
  have hbL : BagAt (upd H L (.lst (digL.map V.str))) b := by
    obtain ⟨s, ns, i1, i2, i3, i4, g1, g2, g3, g4⟩ := hb
    exact ⟨s, ns, i1, i2, i3, i4, eL _ _ g1, g2.px (.of _ _ eL), g3, g4⟩
  have nLb : L ≠ b := fun z => by obtain ⟨s, ns, i1, i2, i3, i4, g1, _⟩ := hb; rw [z, g1] at hL; cases hL
  walk_at "w"
  refine ⟨b, 5, rfl, hbL, by decide, by decide, fun d H1 e1 hb1 hd0 hd1 => ?_⟩
  have hL1 : H1 L = some (.lst (digL.map V.str)) := e1 _ _ nLb upd_same
  have hdn : d.toNat < digL.length := by show d.toNat < 5; omega
  have eH1 : SB b H H1 := (SB.of eL).trans e1
  refine ⟨_, _, _, _, rfl, rfl, sqL_of hL1, (by rw [show d = ((d.toNat : Nat) : Int) by omega]; exact atI_nat (by rw [List.getElem?_map, List.getElem?_eq_getElem hdn]; rfl)), .now ?_⟩
  obtain ⟨hz1, hz2, hz3⟩ := digL_ok digL[d.toNat] (List.getElem_mem hdn)
  generalize digL[d.toNat] = dz at hz1 hz2 hz3
  walk_at "w"
  refine ⟨b, _, rfl, hb1, by omega, by omega, fun k H2 e2 hb2 hk0 hk1 => ?_⟩
  walk_at "w"
  refine ⟨by rw [e62]; omega, by rw [e62]; omega, ?_⟩
  have hkm : k.toNat ≤ most := by omega
  refine for_go k.toNat (fun i σ H' => ∃ (s : Option V) (z : Str) (ds : List Nat), σ = [some (.ref b), some (.int most), some (.int top), some (.str dz), some (.str z), s] ∧ SB b H H' ∧ BagAt H' b ∧ Tz z ds ∧ ds.length = i ∧ ∀ v ∈ ds, v ≤ top) ⟨_, _, [], rfl, eH1.trans e2, hb2, Tz.nil, rfl, fun _ h => by cases h⟩ ?_ ?_
  · rintro i σ H3 hi ⟨s, z, ds, rfl, e3, hb3, tz, hl, hv⟩
    refine ⟨hi, fun x H'' hx => ?_⟩
    obtain ⟨rfl, rfl⟩ := hx
    walk_at "w"
    refine ⟨szl (by omega), ?_⟩
    walk_at "w"
    refine ⟨b, _, rfl, hb3, by omega, by omega, fun c H4 e4 hb4 hc0 hc1 => ?_⟩
    have hcn : c.toNat < dz.cps.toList.length := by rw [Array.length_toList]; show c.toNat < dz.length; omega
    obtain ⟨g1, g2, g3⟩ := dig_int (hz3 _ (List.getElem_mem hcn))
    generalize hcc : dz.cps.toList[c.toNat] = cc at g1 g2 g3
    refine ⟨_, _, cc, rfl, rfl, szl (by omega), (by rw [show c = ((c.toNat : Nat) : Int) by omega]; exact atI_nat (by rw [List.getElem?_eq_getElem hcn, hcc])), ?_⟩
    walk_at "w"
    refine ⟨_, _, rfl, g3, by show (1:Nat) ≤ 640; decide, ?_⟩
    walk_at "w"
    refine ⟨_, _, rfl, ?_⟩
    obtain ⟨v, hv1, hv9, hvt⟩ : ∃ v : Nat, (if ((cc - 48 : Nat) : Int) < (top : Int) then ((cc - 48 : Nat) : Int) else (top : Int)) = Int.ofNat v ∧ v ≤ 9 ∧ v ≤ top := by
      by_cases hc : ((cc - 48 : Nat) : Int) < (top : Int)
      · exact ⟨cc - 48, by rw [if_pos hc]; rfl, by omega, by omega⟩
      · exact ⟨top, by rw [if_neg hc]; rfl, by omega, by omega⟩
    rw [hv1]
    have hlen : z.length + (txt v).length ≤ 1000 := by rw [tz.len, (Tz.one hv9).len]; simp; omega
    walk_at "w"
    refine ⟨log_small (show v ≤ 60 by omega), ?_⟩
    walk_at "w"
    refine ⟨Nat.le_trans hlen (by decide), ?_⟩
    walk_at "w"
    exact ⟨_, _, ds ++ [v], rfl, e3.trans e4, hb4, tz.app (Tz.one hv9), by simp [hl], fun u hu => by
      rcases List.mem_append.mp hu with h | h
      · exact hv u h
      · rw [List.mem_singleton.mp h]; exact hvt⟩
  · rintro σ H3 ⟨s, z, ds, rfl, e3, hb3, tz, hl, hv⟩
    refine ⟨Nat.le_refl _, ?_⟩
    walk_at "w"
    exact q z ds _ e3 hb3 tz (by omega) hv
end Cab
set_option Elab.async false
set_option linter.all false
set_option maxRecDepth 100000
set_option maxHeartbeats 2000000
set_option pp.maxSteps 1500
namespace Cab
open PySem PySem.Spec PyProof.Rows L2

local macro_rules | `(tactic| walk_at "w") => `(tactic| repeat (first | refine Gh.now ?_ | refine ⟨_, rfl, ?_⟩ | refine ⟨_, _, rfl, rfl, ?_⟩ | refine ⟨rfl, ?_⟩))
local macro_rules | `(tactic| walk_at "g") => `(tactic| repeat (first | refine ⟨_, _, rfl, rfl, ?_⟩ | refine ⟨_, _, rfl, ?_⟩ | refine ⟨rfl, ?_⟩ | refine Gh.now ?_ | refine ⟨_, rfl, ?_⟩))
local macro_rules | `(tactic| walk_at "len") => `(tactic| first | (intro hh; obtain ⟨e, _⟩ := hh; exact congrArg List.length e) | (intro hh; obtain ⟨_, e, _⟩ := hh; exact congrArg List.length e) | (intro hh; obtain ⟨_, _, e, _⟩ := hh; exact congrArg List.length e) | (intro hh; obtain ⟨_, _, _, e, _⟩ := hh; exact congrArg List.length e) | (intro hh; obtain ⟨_, _, _, _, e, _⟩ := hh; exact congrArg List.length e) | (intro hh; obtain ⟨_, _, _, _, _, e, _⟩ := hh; exact congrArg List.length e) | (intro hh; obtain ⟨_, _, _, _, _, _, e, _⟩ := hh; exact congrArg List.length e) | (intro hh; obtain ⟨_, _, _, _, _, _, _, e, _⟩ := hh; exact congrArg List.length e) | (intro hh; obtain ⟨_, _, _, _, _, _, _, _, e, _⟩ := hh; exact congrArg List.length e) | (intro hh; obtain ⟨_, _, _, _, _, _, _, _, _, e, _⟩ := hh; exact congrArg List.length e) | (intro hh; obtain ⟨_, _, _, _, _, _, _, _, _, _, e, _⟩ := hh; exact congrArg List.length e) | (intro hh; obtain ⟨_, _, _, _, _, _, _, _, _, _, _, e, _⟩ := hh; exact congrArg List.length e) | (intro hh; obtain ⟨_, _, _, _, _, _, _, _, _, _, _, _, e, _⟩ := hh; exact congrArg List.length e))
variable {P : Program} {w : World} {K : PySem.W.Frag} {mg : Str → Option Value} {base : Heap}

/-- ten small worths in a list that stands -/
def Ten (H : Hp) (a : Addr) (f : Nat → Nat) : Prop := Ls H a ((List.range 10).map fun i => V.int (f i : Nat))
theorem cmulS {y i : Nat} (h : y ≤ 2) (h' : i ≤ 9) : CMul (y : Int) (i : Int) := by
  have e64 : (2 : Int) ^ 64 = 18446744073709551616 := by decide
  exact .inl ⟨by rw [e64]; omega, by rw [e64]; omega⟩
theorem mxI (t y i : Nat) : ((max t (y * i) : Nat) : Int) = if (y : Int) * i > t then (y : Int) * i else t := by
  rw [← Int.natCast_mul]
  by_cases h : t < y * i
  · rw [if_pos (by omega), Nat.max_eq_right (by omega)]
  · rw [if_neg (by omega), Nat.max_eq_left (by omega)]
def pr_law_small_worths (P : Program) (w : World) (K : PySem.W.Frag) : Pr := fun vs H Q => ∃ (b : Addr) (most : Nat), vs = [.ref b, .int most] ∧ BagAt H b ∧ 0 < most ∧ most ≤ 5 ∧ ∀ a f H', SB b H H' → BagAt H' b → a ≠ b → H a = none → Ten H' a f → (∀ i, i < 10 → f i ≤ 30) → Q (.ref a) H'
theorem BagAt.same {b : Addr} {H H' : Hp} (e : Same H H') (hb : BagAt H b) : BagAt H' b := by
  obtain ⟨s, ns, i1, i2, i3, i4, g1, g2, g3, g4⟩ := hb
  exact ⟨s, ns, i1, i2, i3, i4, e _ _ g1, g2.px (.of _ _ e), g3, g4⟩
theorem BagAt.ex {b : Addr} {H : Hp} (hb : BagAt H b) : ∃ o, H b = some o := by
  obtain ⟨s, ns, i1, i2, i3, i4, g1, _⟩ := hb
  exact ⟨_, g1⟩
theorem BagAt.upl {b D : Addr} {H : Hp} {zs : List V} {o : HO} (hb : BagAt H b) (hD : H D = some (.lst zs)) (n : D ≠ b) : BagAt (upd H D o) b := by
  obtain ⟨s, ns, i1, i2, i3, i4, g1, ⟨ob, g2⟩, g3, g4⟩ := hb
  exact ⟨s, ns, i1, i2, i3, i4, by rw [upd_ne (Ne.symm n)]; exact g1, ⟨ob, by rw [upd_ne (fun z => by rw [z, hD] at g2; cases g2)]; exact g2⟩, g3, g4⟩
theorem fin_ten {Q : V → Hp → Prop} {b D : Addr} {H H3 H4 : Hp} {ob : Obj} {f : Nat → Nat} (q : ∀ a f H', SB b H H' → BagAt H' b → a ≠ b → H a = none → Ten H' a f → (∀ i, i < 10 → f i ≤ 30) → Q (.ref a) H')
    (e13 : SB b H H3) (hb3 : BagAt H3 b) (hD : H3 D = none) (e4 : SB b H3 H4) (hb4 : BagAt H4 b) (hq : H4 D = some (.lst ((List.range 10).map fun i => V.int (f i : Nat)))) (hf : ∀ i, i < 10 → f i ≤ 30) :
    Q (.ref D) (upd H4 D (.frz ob (.lst ((List.range 10).map fun i => V.int (f i : Nat))))) := by
  have n : D ≠ b := fun z => by obtain ⟨o, h⟩ := hb3.ex; rw [z, h] at hD; cases hD
  refine q D f _ (fun a o na h => ?_) (hb4.upl hq n) n ?_ .mk' hf
  · have h3 := e13 _ _ na h
    rw [upd_ne fun z => by rw [z, hD] at h3; cases h3]
    exact e4 _ _ na h3
  · cases h : H D with
    | none => rfl
    | some o => have h3 := e13 _ _ n h; rw [hD] at h3; cases h3
theorem ok_law_small_worths (T : Wd K mg base) : Fn P w K mg base 2 (He.ga K "_law_small_worths") (pr_law_small_worths P w K) := by
  obtain ⟨fd, F0⟩ := T.fdef 36 (d := d_law_small_worths)
  have F : FunD K "_law_small_worths" "_law_small_worths" (defArgs s_law_small_worths) (defBody s_law_small_worths) (defScope s_law_small_worths) [] [] (He.ga K "_law_small_worths") fd := F0
  refine fn_mk (N := N_law_small_worths) (ps := ["_law_bag_here", "_law_most"]) F sc_law_small_worths (fun kV doc pm an cdv ct us hl => match us, hl with | [u0, u1], _ => rfl) (fun vs H Q => by walk_at "len") fun cdv A outer s H vs Q E hr h => ?_
  refine ⟨_, (pss_gcons (ps_set (i := 2) sc_law_small_worths.nd rfl (Or.inr rfl) (pe_R (ok_law_draw T) (hr.mono (by decide)) T.g__law_draw T.k_law_draw (pa_cons (pv 0) (pa_cons (pv 1) pa_nil)))) (pss_gcons (ps_set (i := 3) sc_law_small_worths.nd rfl (Or.inr rfl) (pe_R (ok_law_draw T) (hr.mono (by decide)) T.g__law_draw T.k_law_draw (pa_cons (pv 0) (pa_cons pe_int pa_nil)))) (pss_gcons (ps_set (i := 4) sc_law_small_worths.nd rfl (Or.inl rfl) (pe_R (ok_law_draw T) (hr.mono (by decide)) T.g__law_draw T.k_law_draw (pa_cons (pv 0) (pa_cons pe_int pa_nil)))) (pss_cons (ps_if (pt_cmpR op_eq (pv 4) pe_int (nomark _)) (pss_one (ps_ret (pe_gh (pe_lc (own := [("_law_speed", 6)]) rfl sc_law_small_worths.nd (pi_range1 rfl T.f_range (pa_cons pe_int pa_nil)) (blkOk_by (own := [("_law_speed", 6)]) (N := N_law_small_worths) (sc := defScope s_law_small_worths) (by decide +kernel)) (fun _ _ _ _ _ => (pg_name (i := 6) sc_law_small_worths.nd rfl (Or.inl rfl))) (fun _ _ _ _ _ => pts_nil) (fun _ _ _ _ _ => (pe_callB (call_max2 rfl) (by rfl) T.f_max (by decide +kernel) (pa_cons (pv 2) (pa_cons (pe_op op_mul (pv 3) (pv 6)) pa_nil)))))))) pss_nil) (pss_cons (ps_if (pt_cmpR op_eq (pv 4) pe_int (nomark _)) (pss_one (ps_ret (pe_gh (pe_lc (own := [("_law_speed", 6)]) rfl sc_law_small_worths.nd (pi_range1 rfl T.f_range (pa_cons pe_int pa_nil)) (blkOk_by (own := [("_law_speed", 6)]) (N := N_law_small_worths) (sc := defScope s_law_small_worths) (by decide +kernel)) (fun _ _ _ _ _ => (pg_name (i := 6) sc_law_small_worths.nd rfl (Or.inl rfl))) (fun _ _ _ _ _ => pts_nil) (fun _ _ _ _ _ => (pe_op op_add (pv 2) (pe_op op_mul (pv 3) (pv 6)))))))) pss_nil) (pss_cons (ps_if (pt_cmpR op_eq (pv 4) pe_int (nomark _)) (pss_gcons (ps_set (i := 5) sc_law_small_worths.nd rfl (Or.inr rfl) (pe_R (ok_law_draw T) (hr.mono (by decide)) T.g__law_draw T.k_law_draw (pa_cons (pv 0) (pa_cons pe_int pa_nil)))) (pss_one (ps_ret (pe_gh (pe_lc (own := [("_law_speed", 6)]) rfl sc_law_small_worths.nd (pi_range1 rfl T.f_range (pa_cons pe_int pa_nil)) (blkOk_by (own := [("_law_speed", 6)]) (N := N_law_small_worths) (sc := defScope s_law_small_worths) (by decide +kernel)) (fun _ _ _ _ _ => (pg_name (i := 6) sc_law_small_worths.nd rfl (Or.inl rfl))) (fun _ _ _ _ _ => pts_nil) (fun _ _ _ _ _ => (pe_ix (ix_list : IxR _ (rIxL K)) (pe_lst (pa_cons (pv 2) (pa_cons (pe_op op_mul (pv 3) (pv 6)) pa_nil))) (pe_callTy call_int1 (by rfl) T.f_int (by decide +kernel) (pa_cons (pe_cmpR op_ge (pv 6) (pv 5) (nomark _)) pa_nil)) (fun _ _ => rfl)))))))) pss_nil) (pss_one (ps_ret (pe_gh (pe_lc (own := [("_law_speed", 6)]) rfl sc_law_small_worths.nd (pi_range1 rfl T.f_range (pa_cons pe_int pa_nil)) (blkOk_by (own := [("_law_speed", 6)]) (N := N_law_small_worths) (sc := defScope s_law_small_worths) (by decide +kernel)) (fun _ _ _ _ _ => (pg_name (i := 6) sc_law_small_worths.nd rfl (Or.inl rfl))) (fun _ _ _ _ _ => pts_nil) (fun _ _ _ _ _ => (pe_R (ok_law_draw T) (hr.mono (by decide)) T.g__law_draw T.k_law_draw (pa_cons (pv 0) (pa_cons (pe_op op_add (pv 1) pe_int) pa_nil)))))))))))))), ?_⟩
  obtain ⟨b, most, rfl, hb, hm0, hm, q⟩ := h
  have e62 : (2 : Int) ^ 62 = 4611686018427387904 := by decide
  walk_at "w"
  refine ⟨b, _, rfl, hb, by omega, by omega, fun d1 H1 e1 hb1 hd1 hd1' => ?_⟩
  walk_at "w"
  refine ⟨b, 3, rfl, hb1, by decide, by decide, fun d2 H2 e2 hb2 hd2 hd2' => ?_⟩
  walk_at "w"
  refine ⟨b, 4, rfl, hb2, by decide, by decide, fun d3 H3 e3 hb3 hd3 hd3' => ?_⟩
  obtain ⟨t, rfl⟩ := Int.eq_ofNat_of_zero_le hd1
  obtain ⟨y, rfl⟩ := Int.eq_ofNat_of_zero_le hd2
  have ht : t ≤ 4 := by omega
  have hy : y ≤ 2 := by omega
  have hyi : ∀ i : Nat, i < 10 → y * i ≤ 18 := fun i hi => Nat.le_trans (Nat.mul_le_mul hy (show i ≤ 9 by omega)) (by decide)
  have e13 : SB b H H3 := (e1.trans e2).trans e3
  walk_at "w"
  refine iB (fun _ => ?_) fun _ => ?_
  · walk_at "w"
    refine ⟨by rw [e62]; decide, by rw [e62]; decide, fun D hD => ?_⟩
    refine lc_map ((List.range 10).map fun i => V.int ((max t (y * i) : Nat))) hD (fun i H' hi c => ?_) fun H4 e4 hq => ⟨by simp [Itr], ?_⟩
    · have hi' : i < 10 := by simpa using hi
      refine ⟨hi', fun x H'' hx => ?_⟩
      obtain ⟨rfl, rfl⟩ := hx
      rw [Int.zero_add]
      refine ⟨rfl, ?_⟩
      walk_at "w"
      refine ⟨cmulS hy (show i ≤ 9 by omega), ?_⟩
      refine ⟨_, _, rfl, ?_⟩
      refine CR.fin Rz.mono c (by omega) (Same.refl _) ?_
      simp only [Rz, List.getElem?_map, List.getElem?_range hi', Option.map_some]
      exact congrArg (fun x => some (V.int x)) (mxI t y i)
    refine .frz hq True.intro fun ob => .now ?_
    exact fin_ten q e13 hb3 hD (.of e4) (hb3.same e4) hq fun i hi => by have := hyi i hi; omega
  walk_at "w"
  refine iB (fun _ => ?_) fun _ => ?_
  · walk_at "w"
    refine ⟨by rw [e62]; decide, by rw [e62]; decide, fun D hD => ?_⟩
    refine lc_map ((List.range 10).map fun i => V.int ((t + y * i : Nat))) hD (fun i H' hi c => ?_) fun H4 e4 hq => ⟨by simp [Itr], ?_⟩
    · have hi' : i < 10 := by simpa using hi
      refine ⟨hi', fun x H'' hx => ?_⟩
      obtain ⟨rfl, rfl⟩ := hx
      rw [Int.zero_add]
      refine ⟨rfl, ?_⟩
      walk_at "w"
      refine ⟨cmulS hy (show i ≤ 9 by omega), ?_⟩
      walk_at "w"
      refine CR.fin Rz.mono c (by omega) (Same.refl _) ?_
      simp only [Rz, List.getElem?_map, List.getElem?_range hi', Option.map_some]
      exact congrArg (fun x => some (V.int x)) (by rw [Int.natCast_add, Int.natCast_mul])
    refine .frz hq True.intro fun ob => .now ?_
    exact fin_ten q e13 hb3 hD (.of e4) (hb3.same e4) hq fun i hi => by have := hyi i hi; omega
  walk_at "w"
  refine iB (fun _ => ?_) fun _ => ?_
  · walk_at "w"
    refine ⟨b, 6, rfl, hb3, by decide, by decide, fun d5 H5 e5 hb5 hd5 hd5' => ?_⟩
    obtain ⟨c5, rfl⟩ := Int.eq_ofNat_of_zero_le hd5
    walk_at "w"
    refine ⟨by rw [e62]; decide, by rw [e62]; decide, fun D hD => ?_⟩
    refine lc_map ((List.range 10).map fun i => V.int ((if c5 ≤ i then y * i else t : Nat) : Nat)) hD (fun i H' hi c => ?_) fun H4 e4 hq => ⟨by simp [Itr], ?_⟩
    · have hi' : i < 10 := by simpa using hi
      refine ⟨hi', fun x H'' hx => ?_⟩
      obtain ⟨rfl, rfl⟩ := hx
      rw [Int.zero_add]
      refine ⟨rfl, ?_⟩
      walk_at "w"
      refine ⟨cmulS hy (show i ≤ 9 by omega), ?_⟩
      refine ⟨sz, fun L hL => ?_⟩
      walk_at "w"
      refine .inr ⟨_, rfl, ?_⟩
      refine ⟨_, [V.int t, V.int ((y : Int) * i)], if c5 ≤ i then 1 else 0, .int ((if c5 ≤ i then y * i else t : Nat) : Nat), rfl, ?_, sqL_of upd_same, ?_, ?_⟩
      · by_cases h : c5 ≤ i
        · rw [if_pos h, dT (show (c5 : Int) ≤ i by omega)]; rfl
        · rw [if_neg h, dF (show ¬ (c5 : Int) ≤ i by omega)]; rfl
      · by_cases h : c5 ≤ i
        · rw [if_pos h, if_pos h, Int.natCast_mul]; rfl
        · rw [if_neg h, if_neg h]; rfl
      refine CR.fin Rz.mono c (by omega) (same_new hL) ?_
      simp only [Rz, List.getElem?_map, List.getElem?_range hi', Option.map_some]
    refine .frz hq True.intro fun ob => .now ?_
    refine fin_ten q (e13.trans e5) hb5 hD (.of e4) (hb5.same e4) hq fun i hi => ?_
    have := hyi i hi
    split <;> omega
  walk_at "w"
  refine ⟨by rw [e62]; decide, by rw [e62]; decide, fun D hD => ?_⟩
  refine lc_go 10 (fun i H' => ∃ acc : List Nat, acc.length = i ∧ (∀ v ∈ acc, v ≤ 30) ∧ H' D = some (.lst (acc.map fun v : Nat => V.int v)) ∧ SB b H3 H' ∧ BagAt H' b) ⟨[], rfl, (fun _ h => by cases h), upd_same, .of (same_new hD), hb3.same (same_new hD)⟩ (fun i H' hi ⟨acc, hl, ha, hq, e4, hb4⟩ => ?_) fun H' ⟨acc, hl, ha, hq, e4, hb4⟩ => ?_
  · refine ⟨hi, fun x H'' hx => ?_⟩
    obtain ⟨rfl, rfl⟩ := hx
    refine ⟨rfl, ?_⟩
    walk_at "w"
    refine ⟨b, _, rfl, hb4, by omega, by omega, fun d H5 e5 hb5 hd hd' => ?_⟩
    have n : D ≠ b := fun z => by obtain ⟨o, h⟩ := hb3.ex; rw [z, h] at hD; cases hD
    have hq5 := e5 _ _ n hq
    obtain ⟨v, rfl⟩ := Int.eq_ofNat_of_zero_le hd
    refine ⟨_, hq5, szL (by rw [List.length_map]; omega), acc ++ [v], by simp [hl], fun u hu => ?_, by rw [upd_same, List.map_append]; rfl, ?_, hb5.upl hq5 n⟩
    · rcases List.mem_append.mp hu with h | h
      · exact ha u h
      · rw [List.mem_singleton.mp h]; omega
    · intro a o na h
      rw [upd_ne fun z => by rw [z, hD] at h; cases h]
      exact e5 _ _ na (e4 _ _ na h)
  · refine ⟨by simp [Itr], ?_⟩
    have hx : (acc.map fun v : Nat => V.int v) = (List.range 10).map fun i => V.int (acc.getD i 0 : Nat) := by
      refine List.ext_getElem (by simp [hl]) fun i h1 h2 => ?_
      simp at h1
      simp [h1]
    rw [hx] at hq
    refine .frz hq True.intro fun ob => .now ?_
    refine fin_ten q e13 hb3 hD e4 hb4 hq fun i hi => ha _ ?_
    rw [List.getD_eq_getElem?_getD, List.getElem?_eq_getElem (by omega)]
    exact List.getElem_mem _
end Cab
set_option Elab.async false
set_option linter.all false
set_option maxRecDepth 100000
set_option maxHeartbeats 2000000
set_option pp.maxSteps 1500
namespace Cab
open PySem PySem.Spec PyProof.Rows L2

local macro_rules | `(tactic| walk_at "w") => `(tactic| repeat (first | refine Gh.now ?_ | refine ⟨_, rfl, ?_⟩ | refine ⟨_, _, rfl, rfl, ?_⟩ | refine ⟨rfl, ?_⟩))
local macro_rules | `(tactic| walk_at "g") => `(tactic| repeat (first | refine ⟨_, _, rfl, rfl, ?_⟩ | refine ⟨_, _, rfl, ?_⟩ | refine ⟨rfl, ?_⟩ | refine Gh.now ?_ | refine ⟨_, rfl, ?_⟩))
local macro_rules | `(tactic| walk_at "len") => `(tactic| first | (intro hh; obtain ⟨e, _⟩ := hh; exact congrArg List.length e) | (intro hh; obtain ⟨_, e, _⟩ := hh; exact congrArg List.length e) | (intro hh; obtain ⟨_, _, e, _⟩ := hh; exact congrArg List.length e) | (intro hh; obtain ⟨_, _, _, e, _⟩ := hh; exact congrArg List.length e) | (intro hh; obtain ⟨_, _, _, _, e, _⟩ := hh; exact congrArg List.length e) | (intro hh; obtain ⟨_, _, _, _, _, e, _⟩ := hh; exact congrArg List.length e) | (intro hh; obtain ⟨_, _, _, _, _, _, e, _⟩ := hh; exact congrArg List.length e) | (intro hh; obtain ⟨_, _, _, _, _, _, _, e, _⟩ := hh; exact congrArg List.length e) | (intro hh; obtain ⟨_, _, _, _, _, _, _, _, e, _⟩ := hh; exact congrArg List.length e) | (intro hh; obtain ⟨_, _, _, _, _, _, _, _, _, e, _⟩ := hh; exact congrArg List.length e) | (intro hh; obtain ⟨_, _, _, _, _, _, _, _, _, _, e, _⟩ := hh; exact congrArg List.length e) | (intro hh; obtain ⟨_, _, _, _, _, _, _, _, _, _, _, e, _⟩ := hh; exact congrArg List.length e) | (intro hh; obtain ⟨_, _, _, _, _, _, _, _, _, _, _, _, e, _⟩ := hh; exact congrArg List.length e))
variable {P : Program} {w : World} {K : PySem.W.Frag} {mg : Str → Option Value} {base : Heap}

theorem ne_bag {b L : Addr} {H : Hp} (h : H L = none) (hb : BagAt H b) : L ≠ b := fun z => by obtain ⟨o, k⟩ := hb.ex; rw [z, k] at h; cases h
/-- a meter's plain form, as the law draws it: only its first table is used -/
structure PlanA (H : Hp) (v : V) (f : Nat → Nat) (first drop fl ju : Nat) : Prop where
  ex : ∃ p D a0 rest tr, v = .ref p ∧ H p = some (.tup [.int first, .int drop, .ref D, tr, .int fl, .int ju]) ∧ Ls H D (V.ref a0 :: rest) ∧ Ten H a0 f
  hf : ∀ j, j < 10 → f j ≤ 30
  h1 : 1 ≤ first ∧ first ≤ 5
  h2 : 1 ≤ drop ∧ drop ≤ 5
  h3 : fl ≤ 1000
  h4 : 1 ≤ ju ∧ ju ≤ 100
def pr_law_meter (P : Program) (w : World) (K : PySem.W.Frag) : Pr := fun vs H Q => ∃ (b : Addr), vs = [.ref b, .int 5] ∧ BagAt H b ∧ ∀ v f first drop fl ju H', SB b H H' → BagAt H' b → PlanA H' v f first drop fl ju → Q v H'
theorem ok_law_meter (T : Wd K mg base) : Fn P w K mg base 3 (He.ga K "_law_meter") (pr_law_meter P w K) := by
  obtain ⟨fd, F0⟩ := T.fdef 37 (d := d_law_meter)
  have F : FunD K "_law_meter" "_law_meter" (defArgs s_law_meter) (defBody s_law_meter) (defScope s_law_meter) [] [] (He.ga K "_law_meter") fd := F0
  refine fn_mk (N := N_law_meter) (ps := ["_law_bag_here", "_law_drops"]) F sc_law_meter (fun kV doc pm an cdv ct us hl => match us, hl with | [u0, u1], _ => rfl) (fun vs H Q => by walk_at "len") fun cdv A outer s H vs Q E hr h => ?_
  refine ⟨_, (pss_gcons (ps_set (i := 2) sc_law_meter.nd rfl (Or.inl rfl) (pe_ix (ix_list : IxR _ (rIxL K)) (pe_lst (pa_cons (pe_lst pa_nil) (pa_cons (pe_lst pa_nil) (pa_cons (pe_lst (pa_cons (pe_op op_add pe_int (pe_R (ok_law_draw T) (hr.mono (by decide)) T.g__law_draw T.k_law_draw (pa_cons (pv 0) (pa_cons pe_int pa_nil)))) pa_nil)) (pa_cons (pe_lst (pa_cons (pe_op op_add pe_int (pe_R (ok_law_draw T) (hr.mono (by decide)) T.g__law_draw T.k_law_draw (pa_cons (pv 0) (pa_cons pe_int pa_nil)))) (pa_cons (pe_op op_add pe_int (pe_R (ok_law_draw T) (hr.mono (by decide)) T.g__law_draw T.k_law_draw (pa_cons (pv 0) (pa_cons pe_int pa_nil)))) pa_nil))) pa_nil))))) (pe_R (ok_law_draw T) (hr.mono (by decide)) T.g__law_draw T.k_law_draw (pa_cons (pv 0) (pa_cons pe_int pa_nil))) (fun _ _ => rfl))) (pss_gcons (ps_setLc (i := 3) (own := [("_law_k", 7)]) rfl sc_law_meter.nd rfl rfl (sw_true rfl rfl rfl (by decide +kernel)) (pi_range1 rfl T.f_range (pa_cons (pe_op op_add (pe_callB (call_lenK (K := K)) (by rfl) T.f_len (by decide +kernel) (pa_cons (pv 2) pa_nil)) pe_int) pa_nil)) (blkOk_by (own := [("_law_k", 7)]) (N := N_law_meter) (sc := defScope s_law_meter) (by decide +kernel)) (fun _ _ _ _ _ => (pg_name (i := 7) sc_law_meter.nd rfl (Or.inl rfl))) (fun _ _ _ _ _ => pts_nil) (fun _ _ _ _ _ => (pe_R (ok_law_small_worths T) (hr.mono (by decide)) T.g__law_small_worths T.k_law_small_worths (pa_cons (pv 0) (pa_cons (pe_ix (ix_list : IxR _ (rIxL K)) (pe_lst (pa_cons pe_int (pa_cons (pv 1) pa_nil))) (pe_R (ok_law_draw T) (hr.mono (by decide)) T.g__law_draw T.k_law_draw (pa_cons (pv 0) (pa_cons pe_int pa_nil))) (fun _ _ => rfl)) pa_nil))))) (pss_gcons (ps_set (i := 4) sc_law_meter.nd rfl (Or.inl rfl) (pe_ix (ix_list : IxR _ (rIxL K)) (pe_lst (pa_cons pe_int (pa_cons pe_int (pa_cons (pe_R (ok_law_draw T) (hr.mono (by decide)) T.g__law_draw T.k_law_draw (pa_cons (pv 0) (pa_cons pe_int pa_nil))) pa_nil)))) (pe_R (ok_law_draw T) (hr.mono (by decide)) T.g__law_draw T.k_law_draw (pa_cons (pv 0) (pa_cons pe_int pa_nil))) (fun _ _ => rfl))) (pss_gcons (ps_set (i := 5) sc_law_meter.nd rfl (Or.inl rfl) (pe_op op_add pe_int (pe_R (ok_law_draw T) (hr.mono (by decide)) T.g__law_draw T.k_law_draw (pa_cons (pv 0) (pa_cons (pe_ix (ix_list : IxR _ (rIxL K)) (pe_lst (pa_cons pe_int (pa_cons pe_int pa_nil))) (pe_R (ok_law_draw T) (hr.mono (by decide)) T.g__law_draw T.k_law_draw (pa_cons (pv 0) (pa_cons pe_int pa_nil))) (fun _ _ => rfl)) pa_nil))))) (pss_gcons (ps_set (i := 6) sc_law_meter.nd rfl (Or.inl rfl) (pe_op op_add pe_int (pe_R (ok_law_draw T) (hr.mono (by decide)) T.g__law_draw T.k_law_draw (pa_cons (pv 0) (pa_cons (pv 1) pa_nil))))) (pss_one (ps_ret (pe_gh (pe_tup (pa_cons (pv 6) (pa_cons (pe_op op_add pe_int (pe_R (ok_law_draw T) (hr.mono (by decide)) T.g__law_draw T.k_law_draw (pa_cons (pv 0) (pa_cons (pv 1) pa_nil)))) (pa_cons (pv 3) (pa_cons (pv 2) (pa_cons (pv 4) (pa_cons (pv 5) pa_nil))))))))))))))), ?_⟩
  obtain ⟨b, rfl, hb, q⟩ := h
  have e62 : (2 : Int) ^ 62 = 4611686018427387904 := by decide
  walk_at "w"
  refine ⟨sz, fun L1 hL1 => ?_⟩
  have n1 := ne_bag hL1 hb
  have b1 := hb.same (same_new hL1 (o := .lst []))
  have s1 : SB b H _ := SB.of (same_new hL1 (o := .lst []))
  have l1 : upd H L1 (.lst []) L1 = some (.lst []) := upd_same
  walk_at "w"
  refine ⟨sz, fun L2 hL2 => ?_⟩
  have n2 := ne_bag hL2 b1
  have b2 := b1.same (same_new hL2 (o := .lst []))
  have s2 : SB b H _ := s1.trans (SB.of (same_new hL2 (o := .lst [])))
  have l1 := same_new hL2 (o := .lst []) _ _ l1
  have l2 : upd (upd H L1 (.lst [])) L2 (.lst []) L2 = some (.lst []) := upd_same
  walk_at "w"
  refine ⟨b, 3, rfl, b2, by decide, by decide, fun d3 H3 e3 b3 _ _ => ?_⟩
  have l1 := e3 _ _ n1 l1
  have l2 := e3 _ _ n2 l2
  have s3 := s2.trans e3
  walk_at "w"
  refine ⟨sz, fun L3 hL3 => ?_⟩
  have n3 := ne_bag hL3 b3
  have l1 := same_new hL3 (o := .lst [.int (1 + d3)]) _ _ l1
  have l2 := same_new hL3 (o := .lst [.int (1 + d3)]) _ _ l2
  have b4 := b3.same (same_new hL3 (o := .lst [.int (1 + d3)]))
  have s4 := s3.trans (SB.of (same_new hL3 (o := .lst [.int (1 + d3)])))
  have l3 : upd H3 L3 (.lst [.int (1 + d3)]) L3 = some (.lst [.int (1 + d3)]) := upd_same
  walk_at "w"
  refine ⟨b, 2, rfl, b4, by decide, by decide, fun d4 H4 e4 b5 _ _ => ?_⟩
  have l1 := e4 _ _ n1 l1
  have l2 := e4 _ _ n2 l2
  have l3 := e4 _ _ n3 l3
  have s5 := s4.trans e4
  walk_at "w"
  refine ⟨b, 2, rfl, b5, by decide, by decide, fun d5 H5 e5 b6 _ _ => ?_⟩
  have l1 := e5 _ _ n1 l1
  have l2 := e5 _ _ n2 l2
  have l3 := e5 _ _ n3 l3
  have s6 := s5.trans e5
  walk_at "w"
  refine ⟨sz, fun L4 hL4 => ?_⟩
  have n4 := ne_bag hL4 b6
  have k4 := same_new hL4 (o := .lst [.int (1 + d4), .int (3 + d5)])
  have l1 := k4 _ _ l1
  have l2 := k4 _ _ l2
  have l3 := k4 _ _ l3
  have b7 := b6.same k4
  have s7 := s6.trans (SB.of k4)
  have l4 : upd H5 L4 (.lst [.int (1 + d4), .int (3 + d5)]) L4 = some (.lst [.int (1 + d4), .int (3 + d5)]) := upd_same
  walk_at "w"
  refine ⟨sz, fun L5 hL5 => ?_⟩
  have n5 := ne_bag hL5 b7
  have k5 := same_new hL5 (o := .lst [.ref L1, .ref L2, .ref L3, .ref L4])
  have l1 := k5 _ _ l1
  have l2 := k5 _ _ l2
  have l3 := k5 _ _ l3
  have l4 := k5 _ _ l4
  have b8 := b7.same k5
  have s8 := s7.trans (SB.of k5)
  have l5 : upd (upd H5 L4 (.lst [.int (1 + d4), .int (3 + d5)])) L5 (.lst [.ref L1, .ref L2, .ref L3, .ref L4]) L5 = some (.lst [.ref L1, .ref L2, .ref L3, .ref L4]) := upd_same
  walk_at "w"
  refine ⟨b, 4, rfl, b8, by decide, by decide, fun d6 H6 e6 b9 hd6 hd6' => ?_⟩
  have l1 := e6 _ _ n1 l1
  have l2 := e6 _ _ n2 l2
  have l3 := e6 _ _ n3 l3
  have l4 := e6 _ _ n4 l4
  have l5 := e6 _ _ n5 l5
  have s9 := s8.trans e6
  obtain ⟨L, xs, hat, nL, hL, hlen⟩ : ∃ (L : Addr) (xs : List V), atI [V.ref L1, .ref L2, .ref L3, .ref L4] d6 = some (.ref L) ∧ L ≠ b ∧ H6 L = some (.lst xs) ∧ xs.length ≤ 2 := by
    obtain ⟨k, rfl⟩ := Int.eq_ofNat_of_zero_le hd6
    match k, hd6' with
    | 0, _ => exact ⟨L1, _, rfl, n1, l1, by decide⟩
    | 1, _ => exact ⟨L2, _, rfl, n2, l2, by decide⟩
    | 2, _ => exact ⟨L3, _, rfl, n3, l3, by simp⟩
    | 3, _ => exact ⟨L4, _, rfl, n4, l4, by simp⟩
    | k + 4, h => exact absurd h (by omega)
  refine ⟨_, _, _, _, rfl, rfl, sqL_of l5, hat, .now ?_⟩
  clear l1 l2 l3 l4 l5
  walk_at "w"
  refine ⟨_, _, rfl, .inl (sqL_of hL), ?_⟩
  walk_at "w"
  refine ⟨by rw [e62]; omega, by rw [e62]; omega, fun D hD => ?_⟩
  have hn : (((xs.length : Nat) : Int) + 1).toNat = xs.length + 1 := by omega
  rw [hn]
  refine lc_go (xs.length + 1) (fun i H' => ∃ as : List Addr, as.length = i ∧ (∀ a ∈ as, ∃ f, Ten H' a f ∧ ∀ j, j < 10 → f j ≤ 30) ∧ H' D = some (.lst (as.map V.ref)) ∧ SB b H6 H' ∧ BagAt H' b) ⟨[], rfl, (fun _ h => by cases h), upd_same, .of (same_new hD), b9.same (same_new hD)⟩ (fun i H' hi ⟨as, hl, ha, hq, e7, b10⟩ => ?_) fun H' ⟨as, hl, ha, hq, e7, b10⟩ => ?_
  · refine ⟨hi, fun x H'' hx => ?_⟩
    obtain ⟨rfl, rfl⟩ := hx
    refine ⟨rfl, ?_⟩
    walk_at "w"
    refine ⟨sz, fun p hp => ?_⟩
    have np := ne_bag hp b10
    have kp := same_new hp (o := .lst [.int 3, .int 5])
    have b11 := b10.same kp
    have hp' : upd H'' p (.lst [.int 3, .int 5]) p = some (.lst [.int 3, .int 5]) := upd_same
    walk_at "w"
    refine ⟨b, 2, rfl, b11, by decide, by decide, fun d8 H8 e8 b12 hd8 hd8' => ?_⟩
    have hp8 := e8 _ _ np hp'
    obtain ⟨mo, hat8, hm0, hm1⟩ : ∃ mo : Nat, atI [V.int 3, .int 5] d8 = some (.int mo) ∧ 0 < mo ∧ mo ≤ 5 := by
      obtain ⟨k, rfl⟩ := Int.eq_ofNat_of_zero_le hd8
      match k, hd8' with
      | 0, _ => exact ⟨3, rfl, by decide, by decide⟩
      | 1, _ => exact ⟨5, rfl, by decide, by decide⟩
      | k + 2, h => exact absurd h (by omega)
    refine ⟨_, _, _, _, rfl, rfl, sqL_of hp8, hat8, ?_⟩
    walk_at "w"
    refine ⟨b, mo, rfl, b12, hm0, hm1, fun a f H9 e9 b13 na hna hT hf => ?_⟩
    have e10 : SB b H'' H9 := ((SB.of kp).trans e8).trans e9
    have nD := ne_bag hD b9
    have hq9 := e10 _ _ nD hq
    have frD : ∀ {a f}, Ten H9 a f → Ten (upd H9 D (.lst ((as ++ [a]).map V.ref))) a f := fun ⟨⟨o, h⟩⟩ => ⟨⟨o, by rw [upd_ne fun z => by rw [z, hq9] at h; cases h]; exact h⟩⟩
    have frE : ∀ {a a' f}, Ten H9 a f → Ten (upd H9 D (.lst ((as ++ [a']).map V.ref))) a f := fun ⟨⟨o, h⟩⟩ => ⟨⟨o, by rw [upd_ne fun z => by rw [z, hq9] at h; cases h]; exact h⟩⟩
    have hx : as.map V.ref ++ [.ref a] = (as ++ [a]).map V.ref := by rw [List.map_append]; rfl
    refine ⟨_, hq9, szL (by rw [List.length_map]; omega), ?_⟩
    rw [hx]
    refine ⟨as ++ [a], by simp [hl], fun u hu => ?_, upd_same, fun u o nu h => ?_, b13.upl hq9 nD⟩
    · rcases List.mem_append.mp hu with h | h
      · obtain ⟨f', h1, h2⟩ := ha u h
        exact ⟨f', frE (Ls.px (SB.px b10 e10) h1), h2⟩
      · rw [List.mem_singleton.mp h]; exact ⟨f, frE hT, hf⟩
    · rw [upd_ne fun z => by rw [z, hD] at h; cases h]
      exact e10 _ _ nu (e7 _ _ nu h)
  · refine ⟨by simp [Itr], ?_⟩
    refine Gh.frz (H := H') hq True.intro fun ob => Gh.now ?_
    have nD := ne_bag hD b9
    have b10 := b10.upl hq nD (o := .frz ob (.lst (as.map V.ref)))
    have ex : ∃ a0 rest f, as = a0 :: rest ∧ Ten (upd H' D (.frz ob (.lst (as.map V.ref)))) a0 f ∧ ∀ j, j < 10 → f j ≤ 30 := by
      match as, hl, ha with
      | a0 :: rest, _, ha =>
        obtain ⟨f, ⟨o, h1⟩, h2⟩ := ha a0 (List.mem_cons_self ..)
        exact ⟨a0, rest, f, rfl, ⟨o, by rw [upd_ne fun z => by rw [z, hq] at h1; cases h1]; exact h1⟩, h2⟩
    have s10 : SB b H (upd H' D (.frz ob (.lst (as.map V.ref)))) := fun u o nu h => by
      have h6 := s9 _ _ nu h
      rw [upd_ne fun z => by rw [z, hD] at h6; cases h6]
      exact e7 _ _ nu h6
    obtain ⟨a0, rest, f, rfl, hT, hf⟩ := ex
    have hD7 : Ls (upd H' D (.frz ob (.lst ((a0 :: rest).map V.ref)))) D ((a0 :: rest).map V.ref) := .mk'
    generalize upd H' D (.frz ob (.lst ((a0 :: rest).map V.ref))) = H7 at *
    walk_at "w"
    refine ⟨b, 1001, rfl, b10, by decide, by decide, fun d1 J1 x1 y1 z1 z1' => ?_⟩
    have hD8 := hD7.px (SB.px b10 x1)
    have hT8 : Ten J1 a0 f := Ls.px (SB.px b10 x1) hT
    walk_at "w"
    refine ⟨sz, fun p hp => ?_⟩
    have np := ne_bag hp y1
    have kp := same_new hp (o := .lst [.int 0, .int 30, .int d1])
    have y2 := y1.same kp
    have hp' : upd J1 p (.lst [.int 0, .int 30, .int d1]) p = some (.lst [.int 0, .int 30, .int d1]) := upd_same
    walk_at "w"
    refine ⟨b, 3, rfl, y2, by decide, by decide, fun d2 J2 x2 y3 z2 z2' => ?_⟩
    have hp2 := x2 _ _ np hp'
    obtain ⟨fl, hat2, hfl⟩ : ∃ fl : Nat, atI [V.int 0, .int 30, .int d1] d2 = some (.int fl) ∧ fl ≤ 1000 := by
      obtain ⟨k, rfl⟩ := Int.eq_ofNat_of_zero_le z2
      obtain ⟨k1, rfl⟩ := Int.eq_ofNat_of_zero_le z1
      match k, z2' with
      | 0, _ => exact ⟨0, rfl, by decide⟩
      | 1, _ => exact ⟨30, rfl, by decide⟩
      | 2, _ => exact ⟨k1, rfl, by omega⟩
      | k + 3, h => exact absurd h (by omega)
    refine ⟨_, _, _, _, rfl, rfl, sqL_of hp2, hat2, .now ?_⟩
    have t2 : SB b H J2 := ((s10.trans x1).trans (SB.of kp)).trans x2
    walk_at "w"
    refine ⟨sz, fun p2 hp2 => ?_⟩
    have np2 := ne_bag hp2 y3
    have kp2 := same_new hp2 (o := .lst [.int 3, .int 100])
    have y4 := y3.same kp2
    have hp2' : upd J2 p2 (.lst [.int 3, .int 100]) p2 = some (.lst [.int 3, .int 100]) := upd_same
    walk_at "w"
    refine ⟨b, 2, rfl, y4, by decide, by decide, fun d3 J3 x3 y5 z3 z3' => ?_⟩
    have hp3 := x3 _ _ np2 hp2'
    obtain ⟨mj, hat3, hmj0, hmj⟩ : ∃ mj : Nat, atI [V.int 3, .int 100] d3 = some (.int mj) ∧ 0 < mj ∧ mj ≤ 100 := by
      obtain ⟨k, rfl⟩ := Int.eq_ofNat_of_zero_le z3
      match k, z3' with
      | 0, _ => exact ⟨3, rfl, by decide, by decide⟩
      | 1, _ => exact ⟨100, rfl, by decide, by decide⟩
      | k + 2, h => exact absurd h (by omega)
    refine ⟨_, _, _, _, rfl, rfl, sqL_of hp3, hat3, ?_⟩
    walk_at "w"
    refine ⟨b, mj, rfl, y5, by omega, by omega, fun d4 J4 x4 y6 z4 z4' => ?_⟩
    refine ⟨_, _, rfl, rfl, Gh.now ?_⟩
    walk_at "w"
    refine ⟨b, 5, rfl, y6, by decide, by decide, fun d5 J5 x5 y7 z5 z5' => ?_⟩
    refine ⟨_, _, rfl, rfl, Gh.now ?_⟩
    walk_at "w"
    refine ⟨b, 5, rfl, y7, by decide, by decide, fun d6 J6 x6 y8 z6 z6' => ?_⟩
    walk_at "w"
    refine ⟨sz, fun p9 hp9 => ?_⟩
    obtain ⟨c4, rfl⟩ := Int.eq_ofNat_of_zero_le z4
    obtain ⟨c5, rfl⟩ := Int.eq_ofNat_of_zero_le z5
    obtain ⟨c6, rfl⟩ := Int.eq_ofNat_of_zero_le z6
    refine Gh.now ?_
    have np9 := ne_bag hp9 y8
    have t6 : SB b H7 J6 := (((((x1.trans (SB.of kp)).trans x2).trans (SB.of kp2)).trans x3).trans x4).trans (x5.trans x6)
    have g6 := same_new hp9 (o := .tup [.int (1 + (c5 : Int)), .int (1 + (c6 : Int)), .ref D, .ref L, .int fl, .int (1 + (c4 : Int))])
    have px6 := SB.px b10 t6
    refine q _ f (1 + c5) (1 + c6) fl (1 + c4) _ (fun u o nu h => g6 _ _ ((s10.trans t6) _ _ nu h)) (y8.same g6) ⟨⟨p9, D, a0, rest.map V.ref, .ref L, rfl, ?_, Ls.px (.of _ _ g6) (hD7.px px6), Ls.px (.of _ _ g6) (Ls.px px6 hT)⟩, hf, by omega, by omega, hfl, by omega⟩
    rw [upd_same]
    simp only [Int.natCast_add, Int.natCast_one]
end Cab
set_option Elab.async false
set_option linter.all false
set_option maxRecDepth 100000
set_option maxHeartbeats 2000000
set_option pp.maxSteps 1500
namespace Cab
open PySem PySem.Spec PyProof.Rows L2

local macro_rules | `(tactic| walk_at "w") => `(tactic| repeat (first | refine Gh.now ?_ | refine ⟨_, rfl, ?_⟩ | refine ⟨_, _, rfl, rfl, ?_⟩ | refine ⟨rfl, ?_⟩))
local macro_rules | `(tactic| walk_at "g") => `(tactic| repeat (first | refine ⟨_, _, rfl, rfl, ?_⟩ | refine ⟨_, _, rfl, ?_⟩ | refine ⟨rfl, ?_⟩ | refine Gh.now ?_ | refine ⟨_, rfl, ?_⟩))
local macro_rules | `(tactic| walk_at "len") => `(tactic| first | (intro hh; obtain ⟨e, _⟩ := hh; exact congrArg List.length e) | (intro hh; obtain ⟨_, e, _⟩ := hh; exact congrArg List.length e) | (intro hh; obtain ⟨_, _, e, _⟩ := hh; exact congrArg List.length e) | (intro hh; obtain ⟨_, _, _, e, _⟩ := hh; exact congrArg List.length e) | (intro hh; obtain ⟨_, _, _, _, e, _⟩ := hh; exact congrArg List.length e) | (intro hh; obtain ⟨_, _, _, _, _, e, _⟩ := hh; exact congrArg List.length e) | (intro hh; obtain ⟨_, _, _, _, _, _, e, _⟩ := hh; exact congrArg List.length e) | (intro hh; obtain ⟨_, _, _, _, _, _, _, e, _⟩ := hh; exact congrArg List.length e) | (intro hh; obtain ⟨_, _, _, _, _, _, _, _, e, _⟩ := hh; exact congrArg List.length e) | (intro hh; obtain ⟨_, _, _, _, _, _, _, _, _, e, _⟩ := hh; exact congrArg List.length e) | (intro hh; obtain ⟨_, _, _, _, _, _, _, _, _, _, e, _⟩ := hh; exact congrArg List.length e) | (intro hh; obtain ⟨_, _, _, _, _, _, _, _, _, _, _, e, _⟩ := hh; exact congrArg List.length e) | (intro hh; obtain ⟨_, _, _, _, _, _, _, _, _, _, _, _, e, _⟩ := hh; exact congrArg List.length e))
variable {P : Program} {w : World} {K : PySem.W.Frag} {mg : Str → Option Value} {base : Heap}

/-- a meter's plain form with one table and no turns -/
structure PlanB (H : Hp) (v : V) (f : Nat → Nat) (first drop fl ju : Nat) : Prop where
  ex : ∃ p D a0 R, v = .ref p ∧ H p = some (.tup [.int first, .int drop, .ref D, .ref R, .int fl, .int ju]) ∧ Ls H D [V.ref a0] ∧ Ten H a0 f ∧ Ls H R []
def Dearer (f f' : Nat → Nat) (first first' fl fl' ju ju' : Nat) : Prop :=
  (∃ s d, s < 10 ∧ 1 ≤ d ∧ d ≤ 3 ∧ (∀ i, f' i = if i = s then f i + d else f i) ∧ first' = first ∧ fl' = fl ∧ ju' = ju) ∨
  (f' = f ∧ first' = max 1 (first - 1) ∧ fl' = fl ∧ ju' = ju) ∨
  (∃ d, 1 ≤ d ∧ d ≤ 30 ∧ f' = f ∧ first' = first ∧ fl' = min 1000 (fl + d) ∧ ju' = ju) ∨
  (f' = f ∧ first' = first ∧ fl' = fl ∧ ju' = min 100 (ju + 1))
theorem upd_none {H : Hp} {a b : Addr} {o : HO} (h : upd H a o b = none) : H b = none ∧ b ≠ a := by
  have n : b ≠ a := fun z => by rw [z, upd_same] at h; cases h
  exact ⟨by rw [upd_ne n] at h; exact h, n⟩
abbrev Tn (f : Nat → Nat) : List V := (List.range 10).map fun i => V.int (f i : Nat)
theorem Tn_set {f : Nat → Nat} {k x : Nat} (hk : k < 10) : (Tn f).set k (V.int (x : Nat)) = Tn (fun i => if i = k then x else f i) := by
  refine List.ext_getElem? fun i => ?_
  rw [List.getElem?_set]
  by_cases e : k = i
  · subst e
    simp [hk]
  · rw [if_neg e]
    by_cases h : i < 10
    · rw [List.getElem?_map, List.getElem?_map, List.getElem?_range h]
      show some (V.int (f i : Nat)) = some (V.int ((if i = k then x else f i : Nat) : Nat))
      rw [if_neg (fun z => e z.symm)]
    · rw [List.getElem?_eq_none (by simp; omega), List.getElem?_eq_none (by simp; omega)]
/-- the new plain form, laid and frozen -/
theorem fin_plan {Q : VK} {b L D R p : Addr} {H Hc : Hp} {f' : Nat → Nat} {first' drop fl' ju' : Nat} {F G J : Int} (q : ∀ v' H', SB b H H' → BagAt H' b → PlanB H' v' f' first' drop fl' ju' → Q v' H')
    (sc : SB b H Hc) (bc : BagAt Hc b) (hL0 : H L = none) (nLb : L ≠ b) (lc : Hc L = some (.lst (Tn f'))) (hD : Hc D = none) (hR : upd Hc D (.lst [.ref L]) R = none) (hp : upd (upd Hc D (.lst [.ref L])) R (.lst []) p = none)
    (eF : F = first') (eG : G = fl') (eJ : J = ju') : Gh (upd (upd (upd Hc D (.lst [.ref L])) R (.lst [])) p (.tup [.int F, .int drop, .ref D, .ref R, .int G, .int J])) (Q (.ref p)) := by
  subst eF eG eJ
  obtain ⟨hR0, nRD⟩ := upd_none hR
  obtain ⟨hp1, npR⟩ := upd_none hp
  obtain ⟨hp0, npD⟩ := upd_none hp1
  have nLD : L ≠ D := fun z => by rw [z, hD] at lc; cases lc
  have nLR : L ≠ R := fun z => by rw [z, hR0] at lc; cases lc
  have nLp : L ≠ p := fun z => by rw [z, hp0] at lc; cases lc
  have nDb := ne_bag hD bc
  have nRb := ne_bag hR0 bc
  have npb := ne_bag hp0 bc
  have b1 := bc.same (same_new (o := .lst [.ref L]) hD)
  have b2 := b1.same (same_new (o := .lst []) hR)
  have b3 := b2.same (same_new (o := .tup [.int (first' : Int), .int drop, .ref D, .ref R, .int (fl' : Int), .int (ju' : Int)]) hp)
  have l3 : upd (upd (upd Hc D (.lst [.ref L])) R (.lst [])) p (.tup [.int (first' : Int), .int drop, .ref D, .ref R, .int (fl' : Int), .int (ju' : Int)]) L = some (.lst (Tn f')) := by rw [upd_ne nLp, upd_ne nLR, upd_ne nLD]; exact lc
  refine .frz l3 True.intro fun o1 => ?_
  have b4 := b3.upl (o := .frz o1 (.lst (Tn f'))) l3 nLb
  have d4 : upd (upd (upd (upd Hc D (.lst [.ref L])) R (.lst [])) p (.tup [.int (first' : Int), .int drop, .ref D, .ref R, .int (fl' : Int), .int (ju' : Int)])) L (.frz o1 (.lst (Tn f'))) D = some (.lst [.ref L]) := by rw [upd_ne nLD.symm, upd_ne npD.symm, upd_ne nRD.symm, upd_same]
  refine .frz d4 True.intro fun o2 => ?_
  have b5 := b4.upl (o := .frz o2 (.lst [.ref L])) d4 nDb
  have r5 : upd (upd (upd (upd (upd Hc D (.lst [.ref L])) R (.lst [])) p (.tup [.int (first' : Int), .int drop, .ref D, .ref R, .int (fl' : Int), .int (ju' : Int)])) L (.frz o1 (.lst (Tn f')))) D (.frz o2 (.lst [.ref L])) R = some (.lst []) := by rw [upd_ne nRD, upd_ne nLR.symm, upd_ne npR.symm, upd_same]
  refine .frz r5 True.intro fun o3 => .now ?_
  have b6 := b5.upl (o := .frz o3 (.lst [])) r5 nRb
  refine q _ _ (fun u o nu h => ?_) b6 ⟨p, D, L, R, rfl, ?_, ⟨o2, ?_⟩, ⟨o1, ?_⟩, ⟨o3, upd_same⟩⟩
  · have hu := sc _ _ nu h
    have n1 : u ≠ L := fun z => by rw [z, hL0] at h; cases h
    have n2 : u ≠ D := fun z => by rw [z, hD] at hu; cases hu
    have n3 : u ≠ R := fun z => by rw [z, hR0] at hu; cases hu
    have n4 : u ≠ p := fun z => by rw [z, hp0] at hu; cases hu
    rw [upd_ne n3, upd_ne n2, upd_ne n1, upd_ne n4, upd_ne n3, upd_ne n2]
    exact hu
  · rw [upd_ne npR, upd_ne npD, upd_ne nLp.symm, upd_same]
  · rw [upd_ne nRD.symm, upd_same]
  · rw [upd_ne nLR, upd_ne nLD, upd_same]
def pr_law_dearer (P : Program) (w : World) (K : PySem.W.Frag) : Pr := fun vs H Q => ∃ (b : Addr) (v : V) (f : Nat → Nat) (first drop fl ju : Nat), vs = [.ref b, v] ∧ BagAt H b ∧ PlanB H v f first drop fl ju ∧ (∀ j, j < 10 → f j ≤ 30) ∧ first ≤ 5 ∧ drop ≤ 5 ∧ fl ≤ 1000 ∧ ju ≤ 100 ∧ ∀ v' f' first' fl' ju' H', SB b H H' → BagAt H' b → PlanB H' v' f' first' drop fl' ju' → Dearer f f' first first' fl fl' ju ju' → Q v' H'
theorem ok_law_dearer (T : Wd K mg base) : Fn P w K mg base 2 (He.ga K "_law_dearer") (pr_law_dearer P w K) := by
  obtain ⟨fd, F0⟩ := T.fdef 43 (d := d_law_dearer)
  have F : FunD K "_law_dearer" "_law_dearer" (defArgs s_law_dearer) (defBody s_law_dearer) (defScope s_law_dearer) [] [] (He.ga K "_law_dearer") fd := F0
  refine fn_mk (N := N_law_dearer) (ps := ["_law_bag_here", "_law_plain"]) F sc_law_dearer (fun kV doc pm an cdv ct us hl => match us, hl with | [u0, u1], _ => rfl) (fun vs H Q => by walk_at "len") fun cdv A outer s H vs Q E hr h => ?_
  refine ⟨_, (pss_gcons (ps_asg (pv 1) (pg_tupK (n := 6) rfl (pgs_cons (pg_name (i := 2) sc_law_dearer.nd rfl (Or.inl rfl)) (pgs_cons (pg_name (i := 3) sc_law_dearer.nd rfl (Or.inl rfl)) (pgs_cons (pg_name (i := 4) sc_law_dearer.nd rfl (Or.inl rfl)) (pgs_cons (pg_name (i := 5) sc_law_dearer.nd rfl (Or.inl rfl)) (pgs_cons (pg_name (i := 6) sc_law_dearer.nd rfl (Or.inl rfl)) (pgs_cons (pg_name (i := 7) sc_law_dearer.nd rfl (Or.inl rfl)) pgs_nil)))))))) (pss_gcons (ps_set (i := 8) sc_law_dearer.nd rfl (Or.inl rfl) (pe_callTy call_list_of (by rfl) T.f_list (by decide +kernel) (pa_cons (pe_ix (ix_list : IxR _ (rIxL K)) (pv 4) pe_int (fun _ _ => rfl)) pa_nil))) (pss_gcons (ps_set (i := 9) sc_law_dearer.nd rfl (Or.inl rfl) (pe_R (ok_law_draw T) (hr.mono (by decide)) T.g__law_draw T.k_law_draw (pa_cons (pv 0) (pa_cons pe_int pa_nil)))) (pss_cons (ps_if (pt_cmpR op_eq (pv 9) pe_int (nomark _)) (pss_gcons (ps_set (i := 10) sc_law_dearer.nd rfl (Or.inl rfl) (pe_R (ok_law_draw T) (hr.mono (by decide)) T.g__law_draw T.k_law_draw (pa_cons (pv 0) (pa_cons pe_int pa_nil)))) (pss_one (ps_asg (pe_op op_add (pe_op op_add (pe_ix (ix_list : IxR _ (rIxL K)) (pv 8) (pv 10) (fun _ _ => rfl)) pe_int) (pe_R (ok_law_draw T) (hr.mono (by decide)) T.g__law_draw T.k_law_draw (pa_cons (pv 0) (pa_cons pe_int pa_nil)))) (pg_sub (pv 8) (pv 10) set_list)))) pss_nil) (pss_cons (ps_if (pt_cmpR op_eq (pv 9) pe_int (nomark _)) (pss_one (ps_set (i := 2) sc_law_dearer.nd rfl (Or.inl rfl) (pe_callB (call_max2 rfl) (by rfl) T.f_max (by decide +kernel) (pa_cons pe_int (pa_cons (pe_op op_sub (pv 2) pe_int) pa_nil))))) pss_nil) (pss_cons (ps_if (pt_cmpR op_eq (pv 9) pe_int (nomark _)) (pss_one (ps_set (i := 6) sc_law_dearer.nd rfl (Or.inl rfl) (pe_callB (call_min2 rfl) (by rfl) T.f_min (by decide +kernel) (pa_cons pe_int (pa_cons (pe_op op_add (pe_op op_add (pv 6) pe_int) (pe_R (ok_law_draw T) (hr.mono (by decide)) T.g__law_draw T.k_law_draw (pa_cons (pv 0) (pa_cons pe_int pa_nil)))) pa_nil))))) pss_nil) (pss_cons (ps_if (pt_cmpR op_eq (pv 9) pe_int (nomark _)) (pss_one (ps_set (i := 7) sc_law_dearer.nd rfl (Or.inl rfl) (pe_callB (call_min2 rfl) (by rfl) T.f_min (by decide +kernel) (pa_cons pe_int (pa_cons (pe_op op_add (pv 7) pe_int) pa_nil))))) pss_nil) (pss_one (ps_ret (pe_gh (pe_tup (pa_cons (pv 2) (pa_cons (pv 3) (pa_cons (pe_lst (pa_cons (pv 8) pa_nil)) (pa_cons (pe_lst pa_nil) (pa_cons (pv 6) (pa_cons (pv 7) pa_nil))))))))))))))))), ?_⟩
  obtain ⟨b, v, f, first, drop, fl, ju, rfl, hb, ⟨p, D, a0, R, rfl, hp, hD, hT, hR⟩, hf, h1, h2, h3, h4, q⟩ := h
  walk_at "w"
  refine ⟨_, _, rfl, sqT_of hp, rfl, ?_⟩
  walk_at "g"
  refine ⟨_, [V.ref a0], 0, _, rfl, rfl, hD.sq, rfl, ?_⟩
  walk_at "w"
  refine ⟨_, _, rfl, .inl (Ls.sq hT), fun L hL => .now ?_⟩
  have nL := ne_bag hL hb
  have kL := same_new hL (o := .lst ((List.range 10).map fun i => V.int (f i : Nat)))
  have b1 := hb.same kL
  have lL : upd H L (.lst ((List.range 10).map fun i => V.int (f i : Nat))) L = some (.lst ((List.range 10).map fun i => V.int (f i : Nat))) := upd_same
  walk_at "w"
  refine ⟨b, 4, rfl, b1, by decide, by decide, fun ch H1 e1 b2 hc0 hc1 => .now ?_⟩
  have lL := e1 _ _ nL lL
  walk_at "w"
  have hL0 : H L = none := hL
  have s2 : SB b H H1 := (SB.of kL).trans e1
  obtain rfl | rfl | rfl | rfl : ch = 0 ∨ ch = 1 ∨ ch = 2 ∨ ch = 3 := by omega
  · refine iT rfl ?_
    walk_at "w"
    refine ⟨b, 10, rfl, b2, by decide, by decide, fun sp H2 e2 b3 hs0 hs1 => ?_⟩
    have lL := e2 _ _ nL lL
    have s3 := s2.trans e2
    obtain ⟨k, rfl⟩ := Int.eq_ofNat_of_zero_le hs0
    have hk : k < 10 := by omega
    walk_at "w"
    refine ⟨_, _, _, _, rfl, rfl, sqL_of lL, atI_nat (by rw [List.getElem?_map, List.getElem?_range hk]; rfl), ?_⟩
    walk_at "w"
    refine ⟨b, 3, rfl, b3, by decide, by decide, fun d H3 e3 b4 hd0 hd1 => ?_⟩
    have lL := e3 _ _ nL lL
    have s4 := s3.trans e3
    obtain ⟨d, rfl⟩ := Int.eq_ofNat_of_zero_le hd0
    walk_at "w"
    refine ⟨L, _, k, k, rfl, rfl, lL, (by unfold ixN; rw [if_pos (by omega), if_pos (by simp; omega)]; simp), ?_⟩
    have eq1 : ((f k : Nat) : Int) + 1 + (d : Int) = ((f k + (1 + d) : Nat) : Int) := by omega
    have lN : upd H3 L (.lst ((Tn f).set k (V.int (((f k : Nat) : Int) + 1 + (d : Int))))) L = some (.lst (Tn (fun i => if i = k then f k + (1 + d) else f i))) := by rw [upd_same, eq1, Tn_set hk]
    have sN : SB b H (upd H3 L (.lst ((Tn f).set k (V.int (((f k : Nat) : Int) + 1 + (d : Int)))))) := fun u o nu h => by
      rw [upd_ne fun z => by rw [z, hL0] at h; cases h]
      exact s4 _ _ nu h
    have bN : BagAt (upd H3 L (.lst ((Tn f).set k (V.int (((f k : Nat) : Int) + 1 + (d : Int)))))) b := b4.upl lL nL
    show tSeq _ _ _ _ (upd H3 L (.lst ((Tn f).set k (V.int (((f k : Nat) : Int) + 1 + (d : Int))))))
    generalize upd H3 L (.lst ((Tn f).set k (V.int (((f k : Nat) : Int) + 1 + (d : Int))))) = H4 at lN sN bN ⊢
    have lL := lN
    walk_at "w"
    refine ⟨sz, fun D2 hD2 => ?_⟩
    walk_at "w"
    refine ⟨sz, fun R2 hR2 => ?_⟩
    walk_at "w"
    refine ⟨sz, fun p2 hp2 => ?_⟩
    exact fin_plan (fun v' H' x1 x2 x3 => q v' _ _ _ _ H' x1 x2 x3 (.inl ⟨k, 1 + d, hk, by omega, by omega, (fun i => by by_cases e : i = k <;> simp [e]), rfl, rfl, rfl⟩)) sN bN hL0 nL lL hD2 hR2 hp2 rfl rfl rfl
  · refine iF rfl ?_
    walk_at "w"
    refine ⟨_, _, rfl, ?_⟩
    walk_at "w"
    refine ⟨sz, fun D2 hD2 => ?_⟩
    walk_at "w"
    refine ⟨sz, fun R2 hR2 => ?_⟩
    walk_at "w"
    refine ⟨sz, fun p2 hp2 => ?_⟩
    exact fin_plan (fun v' H' x1 x2 x3 => q v' _ _ _ _ H' x1 x2 x3 (.inr (.inl ⟨rfl, rfl, rfl, rfl⟩))) s2 b2 hL0 nL lL hD2 hR2 hp2 (by show (if (first : Int) - 1 > 1 then (first : Int) - 1 else 1) = _; split <;> omega) rfl rfl
  · refine iF rfl ?_
    walk_at "w"
    refine ⟨b, 30, rfl, b2, by decide, by decide, fun d H3 e3 b4 hd0 hd1 => ?_⟩
    have lL := e3 _ _ nL lL
    have s4 := s2.trans e3
    obtain ⟨d, rfl⟩ := Int.eq_ofNat_of_zero_le hd0
    walk_at "w"
    refine ⟨_, _, rfl, ?_⟩
    walk_at "w"
    refine ⟨sz, fun D2 hD2 => ?_⟩
    walk_at "w"
    refine ⟨sz, fun R2 hR2 => ?_⟩
    walk_at "w"
    refine ⟨sz, fun p2 hp2 => ?_⟩
    exact fin_plan (fun v' H' x1 x2 x3 => q v' _ _ _ _ H' x1 x2 x3 (.inr (.inr (.inl ⟨1 + d, by omega, by omega, rfl, rfl, rfl, rfl⟩)))) s4 b4 hL0 nL lL hD2 hR2 hp2 rfl (by show (if (fl : Int) + 1 + (d : Int) < 1000 then (fl : Int) + 1 + (d : Int) else 1000) = _; split <;> omega) rfl
  · refine iF rfl ?_
    walk_at "w"
    refine ⟨_, _, rfl, ?_⟩
    walk_at "w"
    refine ⟨sz, fun D2 hD2 => ?_⟩
    walk_at "w"
    refine ⟨sz, fun R2 hR2 => ?_⟩
    walk_at "w"
    refine ⟨sz, fun p2 hp2 => ?_⟩
    exact fin_plan (fun v' H' x1 x2 x3 => q v' _ _ _ _ H' x1 x2 x3 (.inr (.inr (.inr ⟨rfl, rfl, rfl, rfl⟩)))) s2 b2 hL0 nL lL hD2 hR2 hp2 rfl rfl (by show (if (ju : Int) + 1 < 100 then (ju : Int) + 1 else 100) = _; split <;> omega)
end Cab
set_option Elab.async false
set_option linter.all false
set_option maxRecDepth 100000
set_option maxHeartbeats 2000000
set_option pp.maxSteps 1500
namespace Cab
open PySem PySem.Spec PyProof.Rows L2

local macro_rules | `(tactic| walk_at "w") => `(tactic| repeat (first | refine Gh.now ?_ | refine ⟨_, rfl, ?_⟩ | refine ⟨_, _, rfl, rfl, ?_⟩ | refine ⟨rfl, ?_⟩))
local macro_rules | `(tactic| walk_at "g") => `(tactic| repeat (first | refine ⟨_, _, rfl, rfl, ?_⟩ | refine ⟨_, _, rfl, ?_⟩ | refine ⟨rfl, ?_⟩ | refine Gh.now ?_ | refine ⟨_, rfl, ?_⟩))
local macro_rules | `(tactic| walk_at "len") => `(tactic| first | (intro hh; obtain ⟨e, _⟩ := hh; exact congrArg List.length e) | (intro hh; obtain ⟨_, e, _⟩ := hh; exact congrArg List.length e) | (intro hh; obtain ⟨_, _, e, _⟩ := hh; exact congrArg List.length e) | (intro hh; obtain ⟨_, _, _, e, _⟩ := hh; exact congrArg List.length e) | (intro hh; obtain ⟨_, _, _, _, e, _⟩ := hh; exact congrArg List.length e) | (intro hh; obtain ⟨_, _, _, _, _, e, _⟩ := hh; exact congrArg List.length e) | (intro hh; obtain ⟨_, _, _, _, _, _, e, _⟩ := hh; exact congrArg List.length e) | (intro hh; obtain ⟨_, _, _, _, _, _, _, e, _⟩ := hh; exact congrArg List.length e) | (intro hh; obtain ⟨_, _, _, _, _, _, _, _, e, _⟩ := hh; exact congrArg List.length e) | (intro hh; obtain ⟨_, _, _, _, _, _, _, _, _, e, _⟩ := hh; exact congrArg List.length e) | (intro hh; obtain ⟨_, _, _, _, _, _, _, _, _, _, e, _⟩ := hh; exact congrArg List.length e) | (intro hh; obtain ⟨_, _, _, _, _, _, _, _, _, _, _, e, _⟩ := hh; exact congrArg List.length e) | (intro hh; obtain ⟨_, _, _, _, _, _, _, _, _, _, _, _, e, _⟩ := hh; exact congrArg List.length e))
variable {P : Program} {w : World} {K : PySem.W.Frag} {mg : Str → Option Value} {base : Heap}

abbrev Wn (f : Nat → Nat) : List Int := (List.range 10).map fun i => ((f i : Nat) : Int)
theorem Ten.wn {K : PySem.W.Frag} {H : Hp} {a : Addr} {f : Nat → Nat} (h : Ten H a f) : SqL K H a ((Wn f).map V.int) := by
  rw [List.map_map]
  exact Ls.sq h
theorem Ten.px {H H' : Hp} {a : Addr} {f : Nat → Nat} (e : Px H H') (h : Ten H a f) : Ten H' a f := Ls.px e h
theorem Wn_b {f : Nat → Nat} (hf : ∀ j, j < 10 → f j ≤ 60) : ∀ n ∈ Wn f, 0 ≤ n ∧ n ≤ 60 := fun n hn => by
  obtain ⟨i, hi, rfl⟩ := List.mem_map.mp hn
  have := hf i (List.mem_range.mp hi)
  omega
theorem Wn_len {f : Nat → Nat} : (Wn f).length = 10 := by simp
theorem Wn_get {f : Nat → Nat} {i : Nat} (h : i < 10) : (Wn f)[i]? = some ((f i : Nat) : Int) := by simp [h]
theorem shaped_ints (ns : List Int) : SeqAt.shaped (.list (ns.map PyData.int)) = true := by
  have h1 : ∀ ns : List Int, PyData.depthAll (ns.map PyData.int) ≤ 1 := by
    intro ns
    induction ns with
    | nil => simp [PyData.depthAll]
    | cons n r ih => simp only [List.map_cons, PyData.depthAll, PyData.depth]; omega
  have h3 : ∀ ns : List Int, PyData.canLayAll0 (ns.map PyData.int) = true := by
    intro ns
    induction ns with
    | nil => simp [PyData.canLayAll0]
    | cons n r ih => simp [PyData.canLayAll0, PyData.canLay0, ih]
  have h2 : PyData.depth (.list (ns.map PyData.int)) ≤ 64 := by have := h1 ns; simp only [PyData.depth]; omega
  show (PyData.canLay0 (.list (ns.map PyData.int)) && decide (PyData.depth (.list (ns.map PyData.int)) ≤ 64)) = true
  rw [Bool.and_eq_true]
  exact ⟨by simp only [PyData.canLay0]; exact h3 ns, decide_eq_true h2⟩
theorem eqv_ints : ∀ ns ms : List Int, PyData.eqv (.list (ns.map PyData.int)) (.list (ms.map PyData.int)) = true → ns = ms := by
  have h : ∀ ns ms : List Int, PyData.eqvAll (ns.map PyData.int) (ms.map PyData.int) = true → ns = ms := by
    intro ns
    induction ns with
    | nil => intro ms h; cases ms with
      | nil => rfl
      | cons m r => simp [PyData.eqvAll] at h
    | cons n r ih => intro ms h; cases ms with
      | nil => simp [PyData.eqvAll] at h
      | cons m r2 =>
        simp only [List.map_cons, PyData.eqvAll, PyData.eqv, Bool.and_eq_true, beq_iff_eq] at h
        rw [h.1, ih r2 h.2]
  intro ns ms hh
  exact h ns ms (by simpa [PyData.eqv] using hh)
theorem wn_ext {f : Nat → Nat} {g : Nat → Int} (h : Wn f = (List.range 10).map g) : ∀ i, i < 10 → ((f i : Nat) : Int) = g i := fun i hi => by
  have := congrArg (·[i]?) h
  simpa [hi] using this
def pr_law_made_table (P : Program) (w : World) (K : PySem.W.Frag) : Pr := fun vs H Q => ∃ (a : Addr) (f : Nat → Nat), vs = [.ref a, .int 0] ∧ Ten H a f ∧ (∀ j, j < 10 → f j ≤ 60) ∧ ∀ x H', Same H H' → TabAt K H' x (Wn f) → Q (.ref x) H'
theorem ok_law_made_table (T : Wd K mg base) : Fn P w K mg base 7 (He.ga K "_law_made_table") (pr_law_made_table P w K) := by
  obtain ⟨fd, F0⟩ := T.fdef 38 (d := d_law_made_table)
  have F : FunD K "_law_made_table" "_law_made_table" (defArgs s_law_made_table) (defBody s_law_made_table) (defScope s_law_made_table) [] [] (He.ga K "_law_made_table") fd := F0
  refine fn_mk (N := N_law_made_table) (ps := ["_law_worths", "_law_place"]) F sc_law_made_table (fun kV doc pm an cdv ct us hl => match us, hl with | [u0, u1], _ => rfl) (fun vs H Q => by walk_at "len") fun cdv A outer s H vs Q E hr h => ?_
  refine ⟨_, (pss_gcons (ps_set (i := 2) sc_law_made_table.nd rfl (Or.inl rfl) (pe_op op_mod (pe_callTy call_int1 (by rfl) T.f_int (by decide +kernel) (pa_cons (pe_op op_add (pe_callB (cr_sum rfl) (by rfl) T.f_sum (by decide +kernel) (pa_cons (pv 0) pa_nil)) (pv 1)) pa_nil)) pe_int)) (pss_cons (ps_if (pt_cmpR op_eq (pv 2) pe_int (nomark _)) (pss_one (ps_ret (pe_gh (pe_Mk (ok_Table_init T) (hr.mono (by decide)) T.mk_Table T.g_Table (pa_cons (pe_callTy call_list_of (by rfl) T.f_list (by decide +kernel) (pa_cons (pv 0) pa_nil)) pa_nil))))) pss_nil) (pss_cons (ps_if (pt_cmpR op_eq (pv 2) pe_int (nomark _)) (pss_one (ps_ret (pe_gh (pe_Cm (ok_Table_read T) (hr.mono (by decide)) T.crd_Table T.cm_Table_read (C8.pe_gc (v := .ref (He.ga K "Table")) rfl ⟨_, T.g_Table, rfl⟩) (pa_cons (pe_join pe_str (pe_lc (own := [("_law_worth", 5)]) rfl sc_law_made_table.nd (pi_listK (K := K) (pv 0)) (blkOk_by (own := [("_law_worth", 5)]) (N := N_law_made_table) (sc := defScope s_law_made_table) (by decide +kernel)) (fun _ _ _ _ _ => (pg_name (i := 5) sc_law_made_table.nd rfl (Or.inl rfl))) (fun _ _ _ _ _ => pts_nil) (fun _ _ _ _ _ => (pe_callTy call_str_int (by rfl) T.f_str (by decide +kernel) (pa_cons (pv 5) pa_nil))))) pa_nil))))) pss_nil) (pss_cons (ps_for PassesOwn.never rfl (pi_range1 rfl T.f_range (pa_cons pe_int pa_nil)) (pg_name (i := 3) sc_law_made_table.nd rfl (Or.inr rfl)) (pss_cons (ps_if (pt_cmpR (op_eqD (hu64 hr)) (pv 0) (pe_lc (own := [("_law_speed", 4)]) rfl sc_law_made_table.nd (pi_range1 rfl T.f_range (pa_cons pe_int pa_nil)) (blkOk_by (own := [("_law_speed", 4)]) (N := N_law_made_table) (sc := defScope s_law_made_table) (by decide +kernel)) (fun _ _ _ _ _ => (pg_name (i := 4) sc_law_made_table.nd rfl (Or.inl rfl))) (fun _ _ _ _ _ => pts_nil) (fun _ _ _ _ _ => (pe_callB (call_max2 rfl) (by rfl) T.f_max (by decide +kernel) (pa_cons (pe_ix (ix_list : IxR _ (rIxL K)) (pv 0) pe_int (fun _ _ => rfl)) (pa_cons (pe_op op_mul (pv 3) (pv 4)) pa_nil))))) (nomark _)) (pss_cons (ps_if (PW.pt (pw_and (pt_cmpR op_eq (pv 2) pe_int (nomark _)) (pw_and (pt_cmpR op_gt (pv 3) pe_int (nomark _)) (pw_and1 (pt_cmpR op_lt (pe_op op_fdiv (pe_ix (ix_list : IxR _ (rIxL K)) (pv 0) pe_int (fun _ _ => rfl)) (pv 3)) pe_int (nomark _)))))) (pss_one (ps_ret (pe_gh (pe_Cm (ok_Table_changing T) (hr.mono (by decide)) T.crd_Table T.cm_Table_changing (C8.pe_gc (v := .ref (He.ga K "Table")) rfl ⟨_, T.g_Table, rfl⟩) (pa_cons (pe_ix (ix_list : IxR _ (rIxL K)) (pv 0) pe_int (fun _ _ => rfl)) (pa_cons (pv 3) (pa_cons (pe_op op_add (pe_op op_fdiv (pe_ix (ix_list : IxR _ (rIxL K)) (pv 0) pe_int (fun _ _ => rfl)) (pv 3)) pe_int) pa_nil))))))) pss_nil) (pss_one (ps_ret (pe_gh (pe_Cm (ok_Table_either T) (hr.mono (by decide)) T.crd_Table T.cm_Table_either (C8.pe_gc (v := .ref (He.ga K "Table")) rfl ⟨_, T.g_Table, rfl⟩) (pa_cons (pe_ix (ix_list : IxR _ (rIxL K)) (pv 0) pe_int (fun _ _ => rfl)) (pa_cons (pv 3) pa_nil))))))) pss_nil) (pss_one (ps_if (pt_cmpR (op_eqD (hu64 hr)) (pv 0) (pe_lc (own := [("_law_speed", 4)]) rfl sc_law_made_table.nd (pi_range1 rfl T.f_range (pa_cons pe_int pa_nil)) (blkOk_by (own := [("_law_speed", 4)]) (N := N_law_made_table) (sc := defScope s_law_made_table) (by decide +kernel)) (fun _ _ _ _ _ => (pg_name (i := 4) sc_law_made_table.nd rfl (Or.inl rfl))) (fun _ _ _ _ _ => pts_nil) (fun _ _ _ _ _ => (pe_op op_add (pe_ix (ix_list : IxR _ (rIxL K)) (pv 0) pe_int (fun _ _ => rfl)) (pe_op op_mul (pv 3) (pv 4))))) (nomark _)) (pss_one (ps_ret (pe_gh (pe_Cm (ok_Table_both T) (hr.mono (by decide)) T.crd_Table T.cm_Table_both (C8.pe_gc (v := .ref (He.ga K "Table")) rfl ⟨_, T.g_Table, rfl⟩) (pa_cons (pe_ix (ix_list : IxR _ (rIxL K)) (pv 0) pe_int (fun _ _ => rfl)) (pa_cons (pv 3) pa_nil)))))) pss_nil)))) (pss_one (ps_ret (pe_gh (pe_Mk (ok_Table_init T) (hr.mono (by decide)) T.mk_Table T.g_Table (pa_cons (pe_callTy call_list_of (by rfl) T.f_list (by decide +kernel) (pa_cons (pv 0) pa_nil)) pa_nil))))))))), ?_⟩
  obtain ⟨a, f, rfl, hT, hf, q⟩ := h
  have hb := Wn_b hf
  walk_at "w"
  refine ⟨_, Wn f, rfl, hT.wn, ?_⟩
  walk_at "w"
  refine .inl ⟨_, rfl, ?_⟩
  walk_at "w"
  refine ⟨show (0 : Int) < 4 by decide, .now ?_⟩
  generalize hcc : (fun i j => V.int (i % j)) _ _ = cv
  obtain ⟨c, rfl⟩ : ∃ c : Int, cv = .int c := ⟨_, hcc.symm⟩
  clear hcc
  have mk : ∀ {H1 : Hp}, Same H H1 → ∀ C, H1 C = none → ∀ x dx, upd H1 C (.lst ((Wn f).map V.int)) x = none → upd H1 C (.lst ((Wn f).map V.int)) dx = none → dx ≠ x → pr_Table_init P w K (.ref x :: [.ref C]) (upd (upd (upd H1 C (.lst ((Wn f).map V.int))) dx (.own x)) x (.ins (He.ga K "Table") dx [])) (fun v H3 => v = .non ∧ Gh H3 (Q (.ref x))) :=
    fun e C hC x dx hx hdx hne => mk_tab (Q := fun v H => Gh H (Q v)) upd_same Wn_len hb (fun x H' hx e2 ht => .now (q x H' ((e.trans (same_new hC)).trans e2) ht)) x dx hx hdx hne
  walk_at "w"
  refine iB (fun h0 => ?_) fun h0 => ?_
  · walk_at "w"
    refine ⟨_, _, rfl, .inl hT.wn, fun C hC => ?_⟩
    exact mk (Same.refl _) C hC
  walk_at "w"
  refine iB (fun h1 => ?_) fun h1 => ?_
  · walk_at "w"
    refine ⟨⟨_, rfl⟩, ?_⟩
    walk_at "w"
    refine ⟨⟨_, Ls.sq hT⟩, fun C hC => ?_⟩
    refine lc_map (((List.range 10).map fun i => txt (f i)).map V.str) hC (fun i H' hi c => ?_) fun H1 e1 hq => ⟨⟨_, Ls.sq (hT.px (Px.of _ _ e1)), by simp⟩, ?_⟩
    · have hi' : i < 10 := by simpa using hi
      refine ⟨itl_go (Ls.sq (hT.px c.px)) (by simpa using hi'), fun x H'' hx => ?_⟩
      obtain ⟨rfl, hx⟩ := hx
      have hx := hx _ (Ls.sq (hT.px c.px))
      rw [List.getElem?_map, List.getElem?_range hi'] at hx
      obtain rfl : V.int (f i : Nat) = x := Option.some.inj hx
      refine ⟨rfl, ?_⟩
      refine ⟨_, rfl, _, rfl, log_small (hf i hi'), ?_⟩
      refine CR.fin Rz.mono c (by omega) (Same.refl _) ?_
      show (((List.range 10).map fun i => txt (f i)).map V.str)[i]? = some (V.str (txt (f i)))
      rw [List.getElem?_map, List.getElem?_map, List.getElem?_range hi']
      rfl
    have hsum := sum_two ((List.range 10).map f) fun n hn => by
      obtain ⟨i, hi, rfl⟩ := List.mem_map.mp hn
      exact hf i (List.mem_range.mp hi)
    have emap : ((List.range 10).map f).map txt = (List.range 10).map fun i => txt (f i) := by rw [List.map_map]; rfl
    refine ⟨_, _, _, rfl, rfl, .inl (sqL_of hq), ?_, ?_⟩
    · rw [← emap]
      have h1 : (" " : Str).length = 1 := by decide
      rw [h1]
      simp at hsum ⊢
      omega
    refine ⟨(List.range 10).map f, by rw [emap]; rfl, by simp, fun n hn => ?_, fun x H' hx e2 ht => .now (q x H' (e1.trans e2) ?_)⟩
    · obtain ⟨i, hi, rfl⟩ := List.mem_map.mp hn
      exact hf i (List.mem_range.mp hi)
    · rw [List.map_map] at ht
      exact ht
  walk_at "w"
  refine ⟨by decide, by decide, ?_⟩
  refine for_go 7 (fun i σ H' => ∃ s3, σ = [some (.ref a), some (.int 0), some (.int c), s3, none, none] ∧ Same H H') ⟨_, rfl, Same.refl _⟩ ?_ ?_
  · rintro i σ H1 hi ⟨s3, rfl, e1⟩
    refine ⟨hi, fun x H'' hx => ?_⟩
    obtain ⟨rfl, rfl⟩ := hx
    rw [Int.zero_add]
    have hT1 := hT.px (Px.of _ _ e1)
    have hf0 := hf 0 (by decide)
    have ix0 : atI ((List.range 10).map fun i => V.int (f i : Nat)) 0 = some (.int (f 0 : Nat)) := rfl
    walk_at "w"
    refine ⟨by decide, by decide, fun D hD => ?_⟩
    refine lc_map ((wEither (f 0 : Nat) (i : Nat)).map V.int) hD (fun v H' hv c => ?_) fun H2 e2 hq => ⟨by simp [Itr, wEither], ?_⟩
    · have hv' : v < 10 := by simpa [wEither] using hv
      refine ⟨hv', fun x H3 hx => ?_⟩
      obtain ⟨rfl, rfl⟩ := hx
      rw [Int.zero_add]
      refine ⟨rfl, ?_⟩
      walk_at "w"
      refine ⟨_, _, _, _, rfl, rfl, (Ls.sq (hT1.px c.px)), rfl, ?_⟩
      walk_at "w"
      refine ⟨.inl (by omega), ?_⟩
      refine ⟨_, _, rfl, ?_⟩
      refine CR.fin Rz.mono c (by omega) (Same.refl _) ?_
      simp [Rz, wEither, hv']
    have e12 := e1.trans e2
    have hT2 := hT1.px (Px.of _ _ e2)
    refine ⟨.list ((Wn f).map PyData.int), .list ((wEither (f 0 : Nat) (i : Nat)).map PyData.int), .lst hT2.wn (dpAll_ints _), .lst (sqL_of hq) (dpAll_ints _), shaped_ints _, shaped_ints _, ?_⟩
    walk_at "w"
    refine iB (fun he => ?_) fun he => ?_
    · have he := eqv_ints _ _ he
      walk_at "w"
      refine iB (fun hc2 => ?_) fun hc2 => iF rfl ?_
      · walk_at "w"
        refine iB (fun hw0 => ?_) fun hw0 => iF rfl ?_
        · have hw0 : (0 : Int) < (i : Int) := of_decide_eq_true hw0
          walk_at "w"
          refine ⟨_, _, _, _, rfl, rfl, Ls.sq hT2, rfl, ?_⟩
          walk_at "w"
          refine ⟨⟨by omega, by omega⟩, ?_⟩
          walk_at "w"
          refine iB (fun h9 => ?_) fun h9 => ?_
          · have h9 : ((f 0 : Nat) : Int) / (i : Int) < 9 := of_decide_eq_true h9
            have h90 : 0 ≤ ((f 0 : Nat) : Int) / (i : Int) := Int.ediv_nonneg (by omega) (by omega)
            have hch : Wn f = wChanging (f 0 : Nat) (i : Nat) (((f 0 : Nat) : Int) / (i : Int) + 1) := by
              rw [he]
              refine List.map_congr_left fun v hv => ?_
              have h1 := Int.ediv_mul_le ((f 0 : Nat) : Int) (show (i : Int) ≠ 0 by omega)
              have h2 := Int.lt_ediv_add_one_mul_self ((f 0 : Nat) : Int) hw0
              generalize hqq : ((f 0 : Nat) : Int) / (i : Int) = qq at h1 h2 ⊢
              by_cases hvq : (v : Int) < qq + 1
              · rw [if_pos hvq, if_neg]
                have h3 : (i : Int) * (v : Int) ≤ (i : Int) * qq := Int.mul_le_mul_of_nonneg_left (by omega) (by omega)
                rw [Int.mul_comm (i : Int) qq] at h3
                omega
              · rw [if_neg hvq, if_pos]
                have h3 : (i : Int) * (qq + 1) ≤ (i : Int) * (v : Int) := Int.mul_le_mul_of_nonneg_left (by omega) (by omega)
                rw [Int.mul_comm (i : Int) (qq + 1)] at h3
                omega
            walk_at "w"
            refine ⟨_, _, _, _, rfl, rfl, Ls.sq hT2, rfl, ?_⟩
            walk_at "w"
            refine ⟨_, _, _, _, rfl, rfl, Ls.sq hT2, rfl, ?_⟩
            walk_at "w"
            refine ⟨⟨by omega, by omega⟩, ?_⟩
            walk_at "w"
            refine ⟨((f 0 : Nat) : Int), (i : Int), ((f 0 : Nat) : Int) / (i : Int) + 1, rfl, by omega, by omega, by omega, by omega, by omega, by omega, by rw [← hch]; exact hb, fun x H' hx e3 ht => .now (q x H' (e12.trans e3) (by rw [hch]; exact ht))⟩
          · walk_at "w"
            refine ⟨_, _, _, _, rfl, rfl, Ls.sq hT2, rfl, ?_⟩
            walk_at "w"
            refine ⟨((f 0 : Nat) : Int), (i : Int), rfl, by omega, by omega, by omega, by omega, by rw [← he]; exact hb, fun x H' hx e3 ht => .now (q x H' (e12.trans e3) (by rw [he]; exact ht))⟩
        · walk_at "w"
          refine ⟨_, _, _, _, rfl, rfl, Ls.sq hT2, rfl, ?_⟩
          walk_at "w"
          refine ⟨((f 0 : Nat) : Int), (i : Int), rfl, by omega, by omega, by omega, by omega, by rw [← he]; exact hb, fun x H' hx e3 ht => .now (q x H' (e12.trans e3) (by rw [he]; exact ht))⟩
      · walk_at "w"
        refine ⟨_, _, _, _, rfl, rfl, Ls.sq hT2, rfl, ?_⟩
        walk_at "w"
        refine ⟨((f 0 : Nat) : Int), (i : Int), rfl, by omega, by omega, by omega, by omega, by rw [← he]; exact hb, fun x H' hx e3 ht => .now (q x H' (e12.trans e3) (by rw [he]; exact ht))⟩
    · walk_at "w"
      refine ⟨by decide, by decide, fun D3 hD3 => ?_⟩
      refine lc_map ((wBoth (f 0 : Nat) (i : Nat)).map V.int) hD3 (fun v H' hv c => ?_) fun H3 e3 hq3 => ⟨by simp [Itr, wBoth], ?_⟩
      · have hv' : v < 10 := by simpa [wBoth] using hv
        refine ⟨hv', fun x H3 hx => ?_⟩
        obtain ⟨rfl, rfl⟩ := hx
        rw [Int.zero_add]
        refine ⟨rfl, ?_⟩
        walk_at "w"
        refine ⟨_, _, _, _, rfl, rfl, (Ls.sq (hT2.px c.px)), rfl, ?_⟩
        walk_at "w"
        refine ⟨.inl (by omega), ?_⟩
        walk_at "w"
        refine CR.fin Rz.mono c (by omega) (Same.refl _) ?_
        simp [Rz, wBoth, hv']
      have e13 := e12.trans e3
      have hT3 := hT2.px (Px.of _ _ e3)
      refine ⟨.list ((Wn f).map PyData.int), .list ((wBoth (f 0 : Nat) (i : Nat)).map PyData.int), .lst hT3.wn (dpAll_ints _), .lst (sqL_of hq3) (dpAll_ints _), shaped_ints _, shaped_ints _, ?_⟩
      walk_at "w"
      refine iB (fun he => ?_) fun he => ?_
      · have he := eqv_ints _ _ he
        walk_at "w"
        refine ⟨_, _, _, _, rfl, rfl, Ls.sq hT3, rfl, ?_⟩
        walk_at "w"
        refine ⟨((f 0 : Nat) : Int), (i : Int), rfl, by omega, by omega, by omega, by omega, by rw [← he]; exact hb, fun x H' hx e4 ht => .now (q x H' (e13.trans e4) (by rw [he]; exact ht))⟩
      · exact ⟨_, rfl, e13⟩
  · rintro σ H1 ⟨s3, rfl, e1⟩
    refine ⟨Nat.le_refl _, ?_⟩
    walk_at "w"
    refine ⟨_, _, rfl, .inl (hT.px (Px.of _ _ e1)).wn, fun C hC => ?_⟩
    exact mk e1 C hC
end Cab
set_option Elab.async false
set_option linter.all false
set_option maxRecDepth 100000
set_option maxHeartbeats 2000000
set_option pp.maxSteps 1500
namespace Cab
open PySem PySem.Spec PyProof.Rows L2

local macro_rules | `(tactic| walk_at "w") => `(tactic| repeat (first | refine Gh.now ?_ | refine ⟨_, rfl, ?_⟩ | refine ⟨_, _, rfl, rfl, ?_⟩ | refine ⟨rfl, ?_⟩))
local macro_rules | `(tactic| walk_at "g") => `(tactic| repeat (first | refine ⟨_, _, rfl, rfl, ?_⟩ | refine ⟨_, _, rfl, ?_⟩ | refine ⟨rfl, ?_⟩ | refine Gh.now ?_ | refine ⟨_, rfl, ?_⟩))
local macro_rules | `(tactic| walk_at "len") => `(tactic| first | (intro hh; obtain ⟨e, _⟩ := hh; exact congrArg List.length e) | (intro hh; obtain ⟨_, e, _⟩ := hh; exact congrArg List.length e) | (intro hh; obtain ⟨_, _, e, _⟩ := hh; exact congrArg List.length e) | (intro hh; obtain ⟨_, _, _, e, _⟩ := hh; exact congrArg List.length e) | (intro hh; obtain ⟨_, _, _, _, e, _⟩ := hh; exact congrArg List.length e) | (intro hh; obtain ⟨_, _, _, _, _, e, _⟩ := hh; exact congrArg List.length e) | (intro hh; obtain ⟨_, _, _, _, _, _, e, _⟩ := hh; exact congrArg List.length e) | (intro hh; obtain ⟨_, _, _, _, _, _, _, e, _⟩ := hh; exact congrArg List.length e) | (intro hh; obtain ⟨_, _, _, _, _, _, _, _, e, _⟩ := hh; exact congrArg List.length e) | (intro hh; obtain ⟨_, _, _, _, _, _, _, _, _, e, _⟩ := hh; exact congrArg List.length e) | (intro hh; obtain ⟨_, _, _, _, _, _, _, _, _, _, e, _⟩ := hh; exact congrArg List.length e) | (intro hh; obtain ⟨_, _, _, _, _, _, _, _, _, _, _, e, _⟩ := hh; exact congrArg List.length e) | (intro hh; obtain ⟨_, _, _, _, _, _, _, _, _, _, _, _, e, _⟩ := hh; exact congrArg List.length e))
variable {P : Program} {w : World} {K : PySem.W.Frag} {mg : Str → Option Value} {base : Heap}

def tMkM (P : Program) (w : World) (K : PySem.W.Frag) (t tk : TA) : TE := fun σ H Q => t σ H fun vs H1 => tk σ H1 fun zs H2 => vs.length = 4 ∧ zs.length = 2 ∧
  ∀ x dx, H2 x = none → H2 dx = none → dx ≠ x → pr_Meter_init P w K ((.ref x :: vs) ++ zs) (upd (upd H2 dx (.own x)) x (.ins (CM K) dx [])) (fun v H3 => v = .non ∧ Q (.ref x) H3)
theorem pe_MkM {X : Cx} {t tk : TA} {np pos p1 p2 : Pos} {e e1 e2 : Expr} {es : List Expr} (T : Wd X.K X.mg X.base) (hr : Room 8 X.A) (ha : PA X (e :: es) t) (hkw : L2.PK X [⟨some "flag", e1, p1⟩, ⟨some "each", e2, p2⟩] tk) (hg : Gl X "Meter" := by rfl)
    (he : starEach (e :: es) X.env = (false, eval e X.env) :: starEach es X.env := by rfl)
    (hall : (backToKw pos (keywordEach [⟨some "flag", e1, p1⟩, ⟨some "each", e2, p2⟩] X.env)).all (·.1.isSome) = true := by rfl) (hks : (backToKw pos (keywordEach [⟨some "flag", e1, p1⟩, ⟨some "each", e2, p2⟩] X.env)).filterMap (·.1) = (["flag", "each"] : List Str) := by rfl)
    (hpl : ((backTo pos (starEach (e :: es) X.env)).any (·.1) || (backToKw pos (keywordEach [⟨some "flag", e1, p1⟩, ⟨some "each", e2, p2⟩] X.env)).any (·.1.isNone)) = false := by rfl) :
    PE X (.Call (.Name "Meter" np) (e :: es) [⟨some "flag", e1, p1⟩, ⟨some "each", e2, p2⟩] pos) (tMkM X.prog X.w X.K t tk) := by
  obtain ⟨fd, F, G⟩ := ok_Meter_init (P := X.prog) (w := X.w) T
  obtain ⟨its, hb⟩ := F.kbindsD (ps := ["self", "first", "drop", "tables", "turns", "flag", "each"]) 5 ["flag", "each"] (fun us _ ws => us ++ ws) (fun z => by cases z) (fun r1 _ r3 => r1.append r3)
    (fun Tt kV doc pm an cdv ct us its ws l1 l2 l3 => match us, its, ws, l1, l2, l3 with | [u0, u1, u2, u3, u4], [d0], [w0, w1], _, _, _ => ⟨_, rfl, rfl⟩)
  exact pe_makeN (n := 4) (E := E0) T.mk_Meter G hr hg T.g_Meter hb (fun _ _ _ _ _ _ _ z => z.elim) ha hkw hall hks (by decide) he hpl
abbrev mtOf (f : Nat → Nat) (first drop fl ju : Nat) : Mt := ⟨first, drop, fl, ju, Wn f⟩
theorem ob_made {H2 H' : Hp} {x dx : Addr} {u : HO} (hx : H2 x = none) (hdx : H2 dx = none) (e : Ob x (upd (upd H2 dx (.own x)) x u) H') : Same H2 H' := fun b o h => by
  have n1 : b ≠ x := fun z => by rw [z, hx] at h; cases h
  have n2 : b ≠ dx := fun z => by rw [z, hdx] at h; cases h
  exact e b o n1 (by rw [upd_ne n1, upd_ne n2]; exact h)
theorem upd2_ne {H2 : Hp} {x dx b : Addr} {u v o : HO} (hx : H2 x = none) (hdx : H2 dx = none) (h : H2 b = some o) : upd (upd H2 dx v) x u b = some o := by
  have n1 : b ≠ x := fun z => by rw [z, hx] at h; cases h
  have n2 : b ≠ dx := fun z => by rw [z, hdx] at h; cases h
  rw [upd_ne n1, upd_ne n2]
  exact h
def pr_law_made (P : Program) (w : World) (K : PySem.W.Frag) : Pr := fun vs H Q => ∃ (v : V) (f : Nat → Nat) (first drop fl ju : Nat), vs = [v] ∧ PlanB H v f first drop fl ju ∧ (∀ j, j < 10 → f j ≤ 60) ∧ (mtOf f first drop fl ju).Ok ∧ ∀ m H', Same H H' → MetAt P w K H' m (mtOf f first drop fl ju) → Q (.ref m) H'
theorem ok_law_made (T : Wd K mg base) : Fn P w K mg base 9 (He.ga K "_law_made") (pr_law_made P w K) := by
  obtain ⟨fd, F0⟩ := T.fdef 39 (d := d_law_made)
  have F : FunD K "_law_made" "_law_made" (defArgs s_law_made) (defBody s_law_made) (defScope s_law_made) [] [] (He.ga K "_law_made") fd := F0
  refine fn_mk (N := N_law_made) (ps := ["_law_plain"]) F sc_law_made (fun kV doc pm an cdv ct us hl => match us, hl with | [u0], _ => rfl) (fun vs H Q => by walk_at "len") fun cdv A outer s H vs Q E hr h => ?_
  refine ⟨_, (pss_gcons (ps_setLc (i := 1) (own := [("_law_place", 3)]) rfl sc_law_made.nd rfl rfl (sw_true rfl rfl rfl (by decide +kernel)) (pi_range1 rfl T.f_range (pa_cons (pe_callB (call_lenK (K := K)) (by rfl) T.f_len (by decide +kernel) (pa_cons (pe_ix (ix_tup : IxR _ (rIxT K)) (pv 0) pe_int (fun _ _ => rfl)) pa_nil)) pa_nil)) (blkOk_by (own := [("_law_place", 3)]) (N := N_law_made) (sc := defScope s_law_made) (by decide +kernel)) (fun _ _ _ _ _ => (pg_name (i := 3) sc_law_made.nd rfl (Or.inl rfl))) (fun _ _ _ _ _ => pts_nil) (fun _ _ _ _ _ => (pe_R (ok_law_made_table T) (hr.mono (by decide)) T.g__law_made_table T.k_law_made_table (pa_cons (pe_ix (ix_list : IxR _ (rIxL K)) (pe_ix (ix_tup : IxR _ (rIxT K)) (pv 0) pe_int (fun _ _ => rfl)) (pv 3) (fun _ _ => rfl)) (pa_cons (pv 3) pa_nil))))) (pss_gcons (ps_set (i := 2) sc_law_made.nd rfl (Or.inl rfl) (pe_callTy call_list_of (by rfl) T.f_list (by decide +kernel) (pa_cons (pe_ix (ix_tup : IxR _ (rIxT K)) (pv 0) pe_int (fun _ _ => rfl)) pa_nil))) (pss_cons (ps_if (pt_cmpR op_eq (pe_callB (call_lenK (K := K)) (by rfl) T.f_len (by decide +kernel) (pa_cons (pv 2) pa_nil)) pe_int (nomark _)) (pss_one (ps_ret (pe_gh (pe_MkM T (hr.mono (by decide)) (pa_cons (pe_ix (ix_tup : IxR _ (rIxT K)) (pv 0) pe_int (fun _ _ => rfl)) (pa_cons (pe_ix (ix_tup : IxR _ (rIxT K)) (pv 0) pe_int (fun _ _ => rfl)) (pa_cons (pv 1) (pa_cons (pe_callTy call_tuple_of (by rfl) T.f_tuple (by decide +kernel) (pa_cons (pv 2) pa_nil)) pa_nil)))) (pk_cons (pe_ix (ix_tup : IxR _ (rIxT K)) (pv 0) pe_int (fun _ _ => rfl)) (pk_cons (pe_ix (ix_tup : IxR _ (rIxT K)) (pv 0) pe_int (fun _ _ => rfl)) pk_nil)))))) pss_nil) (pss_one (ps_ret (pe_gh (pe_MkM T (hr.mono (by decide)) (pa_cons (pe_ix (ix_tup : IxR _ (rIxT K)) (pv 0) pe_int (fun _ _ => rfl)) (pa_cons (pe_ix (ix_tup : IxR _ (rIxT K)) (pv 0) pe_int (fun _ _ => rfl)) (pa_cons (pv 1) (pa_cons (pv 2) pa_nil)))) (pk_cons (pe_ix (ix_tup : IxR _ (rIxT K)) (pv 0) pe_int (fun _ _ => rfl)) (pk_cons (pe_ix (ix_tup : IxR _ (rIxT K)) (pv 0) pe_int (fun _ _ => rfl)) pk_nil))))))))), ?_⟩
  obtain ⟨v, f, first, drop, fl, ju, rfl, ⟨p, D, a0, R, rfl, hp, hD, hT, hR⟩, hf, ok, q⟩ := h
  walk_at "w"
  refine ⟨_, _, _, _, rfl, rfl, sqT_of hp, rfl, ?_⟩
  walk_at "w"
  refine ⟨_, _, rfl, .inl hD.sq, ?_⟩
  walk_at "w"
  refine ⟨show -(2 : Int) ^ 62 ≤ 1 by decide, show (1 : Int) < 2 ^ 62 by decide, fun C hC => ?_⟩
  refine lc_go 1 (fun i H' => (i = 0 ∧ H' = upd H C (.lst [])) ∨ (i = 1 ∧ ∃ tb, Same H H' ∧ H' C = some (.lst [.ref tb]) ∧ TabAt K H' tb (Wn f))) (.inl ⟨rfl, rfl⟩) (fun i H' hi hN => ?_) fun H1 hN => ⟨Nat.le_refl _, ?_⟩
  · obtain ⟨rfl, rfl⟩ : i = 0 ∧ H' = upd H C (.lst []) := by
      rcases hN with h | ⟨h, _⟩
      · exact h
      · omega
    have e1 : Same H (upd H C (.lst [])) := same_new hC
    have c1 : upd H C (.lst []) C = some (.lst []) := upd_same
    generalize upd H C (.lst []) = H1 at e1 c1
    refine ⟨hi, fun x H'' hx => ?_⟩
    obtain ⟨rfl, rfl⟩ := hx
    refine ⟨rfl, ?_⟩
    walk_at "w"
    refine ⟨_, _, _, _, rfl, rfl, sqT_of (e1 _ _ hp), rfl, ?_⟩
    walk_at "w"
    refine ⟨_, _, _, _, rfl, rfl, (hD.px (.of _ _ e1)).sq, rfl, ?_⟩
    walk_at "w"
    refine ⟨a0, f, rfl, hT.px (.of _ _ e1), hf, fun tb H2 e2 htb => ?_⟩
    have c2 := e2 _ _ c1
    refine ⟨_, c2, szL (by decide), .inr ⟨rfl, tb, same_mut (e1.trans e2) hC, upd_same, htb.px (Px.mut c2 (fun z => z))⟩⟩
  obtain ⟨tb, e1, c1, htb⟩ : ∃ tb, Same H H1 ∧ H1 C = some (.lst [.ref tb]) ∧ TabAt K H1 tb (Wn f) := by
    rcases hN with ⟨h, _⟩ | ⟨_, h⟩
    · omega
    · exact h
  walk_at "w"
  refine ⟨_, _, _, _, rfl, rfl, sqT_of (e1 _ _ hp), rfl, ?_⟩
  refine ⟨_, _, rfl, .inl (hR.px (.of _ _ e1)).sq, fun R2 hR2 => .now ?_⟩
  have e2 : Same H1 (upd H1 R2 (.lst [])) := same_new hR2
  have r2 : upd H1 R2 (.lst []) R2 = some (.lst []) := upd_same
  have e12 := e1.trans e2
  have c2 := e2 _ _ c1
  have htb2 := htb.px (Px.of _ _ e2)
  have hp2 := e12 _ _ hp
  show tSeq _ _ _ _ (upd H1 R2 (.lst []))
  generalize upd H1 R2 (.lst []) = H2 at r2 e12 c2 htb2 hp2 ⊢
  clear e2
  walk_at "w"
  refine ⟨_, _, rfl, .inl (sqL_of r2), ?_⟩
  walk_at "w"
  refine ⟨_, _, _, _, rfl, rfl, sqT_of hp2, rfl, ?_⟩
  walk_at "w"
  refine ⟨_, _, _, _, rfl, rfl, sqT_of hp2, rfl, ?_⟩
  walk_at "w"
  refine ⟨_, _, _, _, rfl, rfl, sqT_of hp2, rfl, ?_⟩
  walk_at "w"
  refine ⟨_, _, _, _, rfl, rfl, sqT_of hp2, rfl, ?_⟩
  walk_at "w"
  intro x dx hx hdx hne
  refine ⟨x, C, R2, tb, dx, mtOf f first drop fl ju, rfl, ok, upd_same, upd2_ne hx hdx c2, ?_, upd2_ne hx hdx r2, fun H' e hm => ⟨rfl, .now (q x H' (e12.trans (ob_made hx hdx e)) hm)⟩⟩
  obtain ⟨⟨dx3, r3, t1, t2⟩, t3⟩ := htb2
  exact ⟨⟨dx3, r3, upd2_ne hx hdx t1, upd2_ne hx hdx t2⟩, t3⟩
end Cab
set_option Elab.async false
set_option linter.all false
set_option maxRecDepth 100000
set_option maxHeartbeats 2000000
set_option pp.maxSteps 1500
namespace Cab
open PySem PySem.Spec PyProof.Rows L2

local macro_rules | `(tactic| walk_at "w") => `(tactic| repeat (first | refine Gh.now ?_ | refine ⟨_, rfl, ?_⟩ | refine ⟨_, _, rfl, rfl, ?_⟩ | refine ⟨rfl, ?_⟩))
local macro_rules | `(tactic| walk_at "g") => `(tactic| repeat (first | refine ⟨_, _, rfl, rfl, ?_⟩ | refine ⟨_, _, rfl, ?_⟩ | refine ⟨rfl, ?_⟩ | refine Gh.now ?_ | refine ⟨_, rfl, ?_⟩))
local macro_rules | `(tactic| walk_at "len") => `(tactic| first | (intro hh; obtain ⟨e, _⟩ := hh; exact congrArg List.length e) | (intro hh; obtain ⟨_, e, _⟩ := hh; exact congrArg List.length e) | (intro hh; obtain ⟨_, _, e, _⟩ := hh; exact congrArg List.length e) | (intro hh; obtain ⟨_, _, _, e, _⟩ := hh; exact congrArg List.length e) | (intro hh; obtain ⟨_, _, _, _, e, _⟩ := hh; exact congrArg List.length e) | (intro hh; obtain ⟨_, _, _, _, _, e, _⟩ := hh; exact congrArg List.length e) | (intro hh; obtain ⟨_, _, _, _, _, _, e, _⟩ := hh; exact congrArg List.length e) | (intro hh; obtain ⟨_, _, _, _, _, _, _, e, _⟩ := hh; exact congrArg List.length e) | (intro hh; obtain ⟨_, _, _, _, _, _, _, _, e, _⟩ := hh; exact congrArg List.length e) | (intro hh; obtain ⟨_, _, _, _, _, _, _, _, _, e, _⟩ := hh; exact congrArg List.length e) | (intro hh; obtain ⟨_, _, _, _, _, _, _, _, _, _, e, _⟩ := hh; exact congrArg List.length e) | (intro hh; obtain ⟨_, _, _, _, _, _, _, _, _, _, _, e, _⟩ := hh; exact congrArg List.length e) | (intro hh; obtain ⟨_, _, _, _, _, _, _, _, _, _, _, _, e, _⟩ := hh; exact congrArg List.length e))
variable {P : Program} {w : World} {K : PySem.W.Frag} {mg : Str → Option Value} {base : Heap}

theorem Tz.nil' : Tz "" [] := Tz.nil
/-- trips along a road -/
def RoadZ (n top : Nat) (zs : List Str) : Prop := 0 < zs.length ∧ zs.length ≤ 2 ^ n ∧ ∀ z ∈ zs, ∃ ds, Tz z ds ∧ fit1 (.road n top) ds
theorem RoadZ.zero (top : Nat) : RoadZ 0 top [""] := ⟨Nat.one_pos, Nat.le_refl _, fun z hz => ⟨[], by rw [List.mem_singleton.mp hz]; exact Tz.nil, rfl, fun v hv => by cases hv⟩⟩
/-- the lists of trips of 0 .. i steps -/
structure RF (F : Addr) (top i : Nat) (H : Hp) (da : List Addr) : Prop where
  len : da.length = i + 1
  f : H F = some (.lst (da.map V.ref))
  at_ : ∀ j a, da[j]? = some a → a ≠ F ∧ ∃ zs : List Str, H a = some (.lst (zs.map V.str)) ∧ RoadZ j top zs
theorem RF.same {F : Addr} {top i : Nat} {H H' : Hp} {da : List Addr} (e : Same H H') (k : RF F top i H da) : RF F top i H' da :=
  ⟨k.len, e _ _ k.f, fun j a h => by obtain ⟨h1, zs, h2, h3⟩ := k.at_ j a h; exact ⟨h1, zs, e _ _ h2, h3⟩⟩
theorem RF.snoc {F N : Addr} {top i : Nat} {H : Hp} {da : List Addr} {zs : List Str} (k : RF F top i H da) (hN : H N = some (.lst (zs.map V.str))) (nF : N ≠ F) (hz : RoadZ (i + 1) top zs) : RF F top (i + 1) (upd H F (.lst (da.map V.ref ++ [.ref N]))) (da ++ [N]) := by
  refine ⟨by simp [k.len], by rw [upd_same, List.map_append]; rfl, fun j a h => ?_⟩
  by_cases hj : j < da.length
  · rw [List.getElem?_append_left hj] at h
    obtain ⟨h1, zs, h2, h3⟩ := k.at_ j a h
    exact ⟨h1, zs, by rw [upd_ne h1]; exact h2, h3⟩
  · have hl := (List.getElem?_eq_some_iff.mp h).1
    rw [List.length_append, List.length_singleton] at hl
    have e : j = da.length := by omega
    subst e
    rw [List.getElem?_append_right (Nat.le_refl _), Nat.sub_self] at h
    cases h
    refine ⟨nF, zs, by rw [upd_ne nF]; exact hN, ?_⟩
    rw [k.len]
    exact hz
def pr_law_road_trips (P : Program) (w : World) (K : PySem.W.Frag) : Pr := fun vs H Q => ∃ (n top : Nat), vs = [.int n, .int top] ∧ n ≤ 4 ∧ 1 ≤ top ∧ top ≤ 9 ∧ ∀ L zs H', Same H H' → H' L = some (.lst (zs.map V.str)) → RoadZ n top zs → Q (.ref L) H'
theorem ok_law_road_trips (T : Wd K mg base) : Fn P w K mg base 1 (He.ga K "_law_road_trips") (pr_law_road_trips P w K) := by
  obtain ⟨fd, F0⟩ := T.fdef 40 (d := d_law_road_trips)
  have F : FunD K "_law_road_trips" "_law_road_trips" (defArgs s_law_road_trips) (defBody s_law_road_trips) (defScope s_law_road_trips) [] [] (He.ga K "_law_road_trips") fd := F0
  refine fn_mk (N := N_law_road_trips) (ps := ["_law_steps", "_law_most"]) F sc_law_road_trips (fun kV doc pm an cdv ct us hl => match us, hl with | [u0, u1], _ => rfl) (fun vs H Q => by walk_at "len") fun cdv A outer s H vs Q E hr h => ?_
  refine ⟨_, (pss_gcons (ps_set (i := 2) sc_law_road_trips.nd rfl (Or.inl rfl) (pe_lst (pa_cons (pe_lst (pa_cons pe_str pa_nil)) pa_nil))) (pss_cons (ps_for PassesOwn.never rfl (pi_range2 rfl T.f_range (pa_cons pe_int (pa_cons (pe_op op_add (pv 0) pe_int) pa_nil))) (pg_name (i := 3) sc_law_road_trips.nd rfl (Or.inl rfl)) (pss_gcons (ps_set (i := 4) sc_law_road_trips.nd rfl (Or.inl rfl) (pe_lst pa_nil)) (pss_cons (ps_for PassesOwn.never rfl (pi_range2 rfl T.f_range (pa_cons pe_int (pa_cons (pe_op op_add (pe_callB (call_min2 rfl) (by rfl) T.f_min (by decide +kernel) (pa_cons (pv 1) (pa_cons (pv 3) pa_nil))) pe_int) pa_nil))) (pg_name (i := 5) sc_law_road_trips.nd rfl (Or.inr rfl)) (pss_one (ps_set (i := 4) sc_law_road_trips.nd rfl (Or.inl rfl) (pe_op op_cat (pv 4) (pe_lc (own := [("_law_trip", 6)]) rfl sc_law_road_trips.nd (pi_listK (K := K) (pe_ix (ix_list : IxR _ (rIxL K)) (pv 2) (pe_op op_sub (pv 3) (pv 5)) (fun _ _ => rfl))) (blkOk_by (own := [("_law_trip", 6)]) (N := N_law_road_trips) (sc := defScope s_law_road_trips) (by decide +kernel)) (fun _ _ _ _ _ => (pg_name (i := 6) sc_law_road_trips.nd rfl (Or.inl rfl))) (fun _ _ _ _ _ => pts_nil) (fun _ _ _ _ _ => (pe_op op_add_str (pv 6) (pe_callTy call_str_int (by rfl) T.f_str (by decide +kernel) (pa_cons (pv 5) pa_nil))))))))) (pss_one (ps_expr (pe_bm PySem.F.plainAttrs_list PySem.F.slot_list_append PySem.F.type_list_append mt_append (pv 2) (pa_cons (pv 4) pa_nil))))))) (pss_one (ps_ret (pe_gh (pe_ix (ix_list : IxR _ (rIxL K)) (pv 2) (pv 0) (fun _ _ => rfl))))))), ?_⟩
  obtain ⟨n, top, rfl, hn, ht1, ht9, q⟩ := h
  have e62 : (2 : Int) ^ 62 = 4611686018427387904 := by decide
  refine ⟨sz, fun l0 hl0 => ?_⟩
  refine ⟨sz, fun F hF => .now ?_⟩
  have e1 : Same H (upd (upd H l0 (.lst [.str ""])) F (.lst [.ref l0])) := (same_new hl0).trans (same_new hF)
  have nl0 : l0 ≠ F := fun z => by rw [← z, upd_same] at hF; cases hF
  have hF0 : H F = none := fresh_of (same_new hl0) hF
  have k1 : RF F top 0 (upd (upd H l0 (.lst [.str ""])) F (.lst [.ref l0])) [l0] := ⟨rfl, upd_same, fun j a h => by
    have hj : j = 0 := by have := (List.getElem?_eq_some_iff.mp h).1; simp at this; exact this
    subst hj
    cases h
    exact ⟨nl0, [""], by rw [upd_ne nl0, upd_same]; rfl, RoadZ.zero top⟩⟩
  show tSeq _ _ _ _ (upd (upd H l0 (.lst [.str ""])) F (.lst [.ref l0]))
  generalize upd (upd H l0 (.lst [.str ""])) F (.lst [.ref l0]) = H1 at e1 k1 ⊢
  walk_at "w"
  refine ⟨_, _, rfl, ⟨by decide, by decide, by rw [e62]; omega, by rw [e62]; omega⟩, ?_⟩
  rw [show ((n : Int) + 1 - 1).toNat = n by omega]
  refine for_go n (fun i σ H' => ∃ (s3 s4 s5 : Option V) (da : List Addr), σ = [some (.int n), some (.int top), some (.ref F), s3, s4, s5, none] ∧ Same H H' ∧ RF F top i H' da) ⟨_, _, _, _, rfl, e1, k1⟩ ?_ ?_
  · rintro i σ H2 hi ⟨s3, s4, s5, da, rfl, e2, k2⟩
    refine ⟨hi, fun x H'' hx => ?_⟩
    obtain ⟨rfl, rfl⟩ := hx
    refine ⟨sz, fun n0 hn0 => .now ?_⟩
    have e3 : Same H'' (upd H'' n0 (.lst [])) := same_new hn0
    have d3 : upd H'' n0 (.lst []) n0 = some (.lst (([] : List Str).map V.str)) := upd_same
    have nn0 : n0 ≠ F := fun z => by rw [z, k2.f] at hn0; cases hn0
    show tSeq _ _ _ _ (upd H'' n0 (.lst []))
    have k3 := k2.same e3
    have e13 := e2.trans e3
    generalize upd H'' n0 (.lst []) = H3 at e13 d3 k3 ⊢
    clear e3
    have hmn : (if (1 : Int) + (i : Int) < (top : Int) then (1 : Int) + (i : Int) else (top : Int)) = ((min top (i + 1) : Nat) : Int) := by split <;> omega
    walk_at "w"
    refine ⟨_, _, rfl, ?_⟩
    walk_at "w"
    show ∃ i_1 j, [V.int 1, V.int ((if (1 : Int) + (i : Int) < (top : Int) then (1 : Int) + (i : Int) else (top : Int)) + 1)] = [V.int i_1, V.int j] ∧ _
    rw [hmn]
    refine ⟨_, _, rfl, ⟨by decide, by decide, by rw [e62]; omega, by rw [e62]; omega⟩, ?_⟩
    rw [show (((min top (i + 1) : Nat) : Int) + 1 - 1).toNat = min top (i + 1) by omega]
    refine for_go (min top (i + 1)) (fun v σ H' => ∃ (nl : Addr) (zs : List Str) (s5 : Option V), σ = [some (.int n), some (.int top), some (.ref F), some (.int (1 + (i : Int))), some (.ref nl), s5, none] ∧ Same H H' ∧ RF F top i H' da ∧ nl ≠ F ∧ H' nl = some (.lst (zs.map V.str)) ∧ (0 < v → 0 < zs.length) ∧ zs.length + 2 ^ (i + 1 - v) ≤ 2 ^ (i + 1) ∧ ∀ z ∈ zs, ∃ ds, Tz z ds ∧ fit1 (.road (i + 1) top) ds)
      ⟨n0, [], _, rfl, e13, k3, nn0, d3, fun h => absurd h (Nat.lt_irrefl _), by simp, fun _ z => nomatch z⟩ ?_ ?_
    · rintro v σ H4 hv ⟨nl, zs, s5, rfl, e4, k4, nnl, d4, hpos, hcnt, hzs⟩
      refine ⟨hv, fun x H5 hx => ?_⟩
      obtain ⟨rfl, rfl⟩ := hx
      have hvi : v ≤ i := by omega
      have hda : i - v < da.length := by rw [k4.len]; omega
      obtain ⟨nf, ys, hy1, hy2, hy3, hy4⟩ := k4.at_ (i - v) _ (List.getElem?_eq_getElem hda)
      rw [show (1 : Int) + (v : Int) = ((v + 1 : Nat) : Int) by omega]
      have ix : atI (da.map V.ref) ((1 : Int) + (i : Int) - ((v + 1 : Nat) : Int)) = some (.ref da[i - v]) := by
        rw [show (1 : Int) + (i : Int) - ((v + 1 : Nat) : Int) = ((i - v : Nat) : Int) by omega]
        exact atI_nat (by rw [List.getElem?_map, List.getElem?_eq_getElem hda]; rfl)
      have hp2 : 2 ^ (i + 1 - v) = 2 * 2 ^ (i - v) := by rw [show i + 1 - v = (i - v) + 1 by omega, Nat.pow_succ]; omega
      have hp3 : i + 1 - (v + 1) = i - v := by omega
      have hpi : 2 ^ (i + 1) ≤ 16 := by
        have : 2 ^ (i + 1) ≤ 2 ^ 4 := Nat.pow_le_pow_right (by decide) (by omega)
        exact this
      walk_at "w"
      refine ⟨_, _, _, _, rfl, rfl, sqL_of k4.f, ix, ?_⟩
      refine ⟨_, rfl, ⟨_, sqL_of hy1⟩, fun D hD => ?_⟩
      refine lc_map ((ys.map fun z => z ++ txt (v + 1)).map V.str) hD (fun j H' hj c => ?_) fun H6 e6 hq => ⟨⟨_, sqL_of (e6 _ _ hy1), by simp⟩, ?_⟩
      · have hj' : j < ys.length := by simpa using hj
        refine ⟨itl_go (sqL_of (c.same _ _ hy1)) (by simpa using hj'), fun x H6 hx => ?_⟩
        obtain ⟨rfl, hx⟩ := hx
        have hx := hx _ (sqL_of (c.same _ _ hy1))
        rw [List.getElem?_map, List.getElem?_eq_getElem hj'] at hx
        obtain rfl : V.str ys[j] = x := Option.some.inj hx
        obtain ⟨ds, tz, hds⟩ := hy4 _ (List.getElem_mem hj')
        have hdl := fit1_len hds
        refine ⟨rfl, ?_⟩
        refine yT (iT rfl ?_)
        refine ⟨_, rfl, _, rfl, _, rfl, log_small (show v + 1 ≤ 60 by omega), ?_⟩
        have hzl : ys[j].length + (txt (v + 1)).length ≤ 100 := by rw [tz.len, (Tz.one (show v + 1 ≤ 9 by omega)).len]; simp; omega
        refine ⟨_, _, rfl, rfl, szl (Nat.le_trans hzl (by decide)), ?_⟩
        refine CR.fin Rz.mono c (by omega) (Same.refl _) ?_
        show ((ys.map fun z => z ++ txt (v + 1)).map V.str)[j]? = some (V.str (ys[j] ++ txt (v + 1)))
        rw [List.getElem?_map, List.getElem?_map, List.getElem?_eq_getElem hj']
        rfl
      refine ⟨nl, D, _, _, rfl, rfl, e6 _ _ d4, hq, szl (by simp; omega), fun p hp => ?_⟩
      have e7 := same_new (o := .lst (zs.map V.str ++ (ys.map fun z => z ++ txt (v + 1)).map V.str)) hp
      refine ⟨p, zs ++ ys.map fun z => z ++ txt (v + 1), _, rfl, (e4.trans e6).trans e7, (k4.same e6).same e7, (fun z => by rw [z, e6 _ _ k4.f] at hp; cases hp), by rw [upd_same, List.map_append], fun _ => by simp; omega, by rw [List.length_append, List.length_map, hp3]; omega, fun z hz => ?_⟩
      rcases List.mem_append.mp hz with h | h
      · exact hzs z h
      · obtain ⟨y, hy, rfl⟩ := List.mem_map.mp h
        obtain ⟨ds, tz, hds1, hds2⟩ := hy4 y hy
        refine ⟨ds ++ [v + 1], tz.app (Tz.one (by omega)), by rw [List.sum_append, hds1]; simp; omega, fun u hu => ?_⟩
        rcases List.mem_append.mp hu with h | h
        · exact hds2 u h
        · rw [List.mem_singleton.mp h]; omega
    · rintro σ H4 ⟨nl, zs, s5, rfl, e4, k4, nnl, d4, hpos, hcnt, hzs⟩
      refine ⟨Nat.le_refl _, ?_⟩
      walk_at "w"
      have hpi : 2 ^ (i + 1) ≤ 16 := by
        have : 2 ^ (i + 1) ≤ 2 ^ 4 := Nat.pow_le_pow_right (by decide) (by omega)
        exact this
      refine ⟨.inl ⟨rfl, _, sqL_of k4.f⟩, ?_⟩
      refine ⟨_, rfl, ?_⟩
      refine ⟨F, _, _, rfl, rfl, k4.f, szL (by rw [List.length_map, k4.len]; omega), ?_⟩
      exact ⟨_, _, _, da ++ [nl], rfl, same_mut e4 hF0, k4.snoc d4 nnl ⟨hpos (by omega), Nat.le_trans (Nat.le_add_right _ _) hcnt, hzs⟩⟩
  · rintro σ H2 ⟨s3, s4, s5, da, rfl, e2, k2⟩
    refine ⟨Nat.le_refl _, ?_⟩
    have hda : n < da.length := by rw [k2.len]; omega
    obtain ⟨nf, ys, hy1, hy2⟩ := k2.at_ n _ (List.getElem?_eq_getElem hda)
    walk_at "w"
    refine ⟨_, _, _, _, rfl, rfl, sqL_of k2.f, atI_nat (by rw [List.getElem?_map, List.getElem?_eq_getElem hda]; rfl), .now ?_⟩
    exact q _ ys _ e2 hy1 hy2
end Cab
set_option Elab.async false
set_option linter.all false
set_option maxRecDepth 100000
set_option maxHeartbeats 2000000
set_option pp.maxSteps 1500
namespace Cab
open PySem PySem.Spec PyProof.Rows L2

local macro_rules | `(tactic| walk_at "w") => `(tactic| repeat (first | refine Gh.now ?_ | refine ⟨_, rfl, ?_⟩ | refine ⟨_, _, rfl, rfl, ?_⟩ | refine ⟨rfl, ?_⟩))
local macro_rules | `(tactic| walk_at "g") => `(tactic| repeat (first | refine ⟨_, _, rfl, rfl, ?_⟩ | refine ⟨_, _, rfl, ?_⟩ | refine ⟨rfl, ?_⟩ | refine Gh.now ?_ | refine ⟨_, rfl, ?_⟩))
local macro_rules | `(tactic| walk_at "len") => `(tactic| first | (intro hh; obtain ⟨e, _⟩ := hh; exact congrArg List.length e) | (intro hh; obtain ⟨_, e, _⟩ := hh; exact congrArg List.length e) | (intro hh; obtain ⟨_, _, e, _⟩ := hh; exact congrArg List.length e) | (intro hh; obtain ⟨_, _, _, e, _⟩ := hh; exact congrArg List.length e) | (intro hh; obtain ⟨_, _, _, _, e, _⟩ := hh; exact congrArg List.length e) | (intro hh; obtain ⟨_, _, _, _, _, e, _⟩ := hh; exact congrArg List.length e) | (intro hh; obtain ⟨_, _, _, _, _, _, e, _⟩ := hh; exact congrArg List.length e) | (intro hh; obtain ⟨_, _, _, _, _, _, _, e, _⟩ := hh; exact congrArg List.length e) | (intro hh; obtain ⟨_, _, _, _, _, _, _, _, e, _⟩ := hh; exact congrArg List.length e) | (intro hh; obtain ⟨_, _, _, _, _, _, _, _, _, e, _⟩ := hh; exact congrArg List.length e) | (intro hh; obtain ⟨_, _, _, _, _, _, _, _, _, _, e, _⟩ := hh; exact congrArg List.length e) | (intro hh; obtain ⟨_, _, _, _, _, _, _, _, _, _, _, e, _⟩ := hh; exact congrArg List.length e) | (intro hh; obtain ⟨_, _, _, _, _, _, _, _, _, _, _, _, e, _⟩ := hh; exact congrArg List.length e))
variable {P : Program} {w : World} {K : PySem.W.Frag} {mg : Str → Option Value} {base : Heap}

theorem SL.snoc {H : Hp} {as : List Addr} {l : List Sx} {a : Addr} {s : Sx} (h : SL H as l) (hs : SxA H a s) : SL H (as ++ [a]) (l ++ [s]) := by
  refine ⟨by simp [h.1], fun i b t h1 h2 => ?_⟩
  by_cases hi : i < as.length
  · rw [List.getElem?_append_left hi] at h1
    rw [List.getElem?_append_left (by rw [← h.1]; exact hi)] at h2
    exact h.2 i b t h1 h2
  · have hl := (List.getElem?_eq_some_iff.mp h1).1
    rw [List.length_append, List.length_singleton] at hl
    have e : i = as.length := by omega
    have e2 := h.1
    rw [List.getElem?_append_right (by omega), e, Nat.sub_self] at h1
    rw [List.getElem?_append_right (by omega), show i - l.length = 0 by omega] at h2
    cases h1
    cases h2
    exact hs
/-- one more stretch -/
theorem route_put {b L p : Addr} {H H5 : Hp} {as : List Addr} {l : List Sx} {s : Sx} {t : HO} (hL0 : H L = none) (nLb : L ≠ b) (sc : SB b H H5) (bc : BagAt H5 b) (lc : H5 L = some (.lst (as.map V.ref))) (sl : SL H5 as l) (hp : H5 p = none)
    (ht : ∀ H' : Hp, H' p = some t → SxA H' p s) : SB b H (upd (upd H5 p t) L (.lst (as.map V.ref ++ [.ref p]))) ∧ BagAt (upd (upd H5 p t) L (.lst (as.map V.ref ++ [.ref p]))) b ∧
      upd (upd H5 p t) L (.lst (as.map V.ref ++ [.ref p])) L = some (.lst ((as ++ [p]).map V.ref)) ∧ SL (upd (upd H5 p t) L (.lst (as.map V.ref ++ [.ref p]))) (as ++ [p]) (l ++ [s]) := by
  have nLp : L ≠ p := fun z => by rw [z, hp] at lc; cases lc
  have l6 : upd H5 p t L = some (.lst (as.map V.ref)) := by rw [upd_ne nLp]; exact lc
  refine ⟨fun u o nu h => ?_, (bc.same (same_new hp)).upl l6 nLb, by rw [upd_same, List.map_append]; rfl, (sl.px ((Px.new hp).trans (Px.mut l6 fun z => z))).snoc (ht _ (by rw [upd_ne nLp.symm, upd_same]))⟩
  have hu := sc _ _ nu h
  rw [upd_ne (fun z => by rw [z, hL0] at h; cases h), upd_ne (fun z => by rw [z, hp] at hu; cases hu)]
  exact hu
def pr_law_route (P : Program) (w : World) (K : PySem.W.Frag) : Pr := fun vs H Q => ∃ (b : Addr), vs = [.ref b, .int 3, .int 4] ∧ BagAt H b ∧ ∀ L as l H', SB b H H' → BagAt H' b → H L = none → L ≠ b → H' L = some (.lst (as.map V.ref)) → SL H' as l → (∀ s ∈ l, s.ok ∧ s.wt ≤ 4) → 1 ≤ l.length → l.length ≤ 3 → Q (.ref L) H'
theorem ok_law_route (T : Wd K mg base) : Fn P w K mg base 2 (He.ga K "_law_route") (pr_law_route P w K) := by
  obtain ⟨fd, F0⟩ := T.fdef 41 (d := d_law_route)
  have F : FunD K "_law_route" "_law_route" (defArgs s_law_route) (defBody s_law_route) (defScope s_law_route) [] [] (He.ga K "_law_route") fd := F0
  refine fn_mk (N := N_law_route) (ps := ["_law_bag_here", "_law_many", "_law_most_steps"]) F sc_law_route (fun kV doc pm an cdv ct us hl => match us, hl with | [u0, u1, u2], _ => rfl) (fun vs H Q => by walk_at "len") fun cdv A outer s H vs Q E hr h => ?_
  refine ⟨_, (pss_gcons (ps_set (i := 3) sc_law_route.nd rfl (Or.inl rfl) (pe_lst pa_nil)) (pss_cons (ps_for PassesOwn.never rfl (pi_range1 rfl T.f_range (pa_cons (pe_op op_add pe_int (pe_R (ok_law_draw T) (hr.mono (by decide)) T.g__law_draw T.k_law_draw (pa_cons (pv 0) (pa_cons (pv 1) pa_nil)))) pa_nil)) (pg_name (i := 4) sc_law_route.nd rfl (Or.inl rfl)) (pss_one (ps_if (pt_cmpR op_eq (pe_R (ok_law_draw T) (hr.mono (by decide)) T.g__law_draw T.k_law_draw (pa_cons (pv 0) (pa_cons pe_int pa_nil))) pe_int (nomark _)) (pss_one (ps_expr (pe_bm PySem.F.plainAttrs_list PySem.F.slot_list_append PySem.F.type_list_append mt_append (pv 3) (pa_cons (pe_tup (pa_cons pe_str (pa_cons (pe_R (ok_law_draw T) (hr.mono (by decide)) T.g__law_draw T.k_law_draw (pa_cons (pv 0) (pa_cons pe_int pa_nil))) pa_nil))) pa_nil)))) (pss_gcons (ps_set (i := 5) sc_law_route.nd rfl (Or.inl rfl) (pe_ix (ix_list : IxR _ (rIxL K)) (pe_lst (pa_cons (pe_op op_add pe_int (pe_R (ok_law_draw T) (hr.mono (by decide)) T.g__law_draw T.k_law_draw (pa_cons (pv 0) (pa_cons pe_int pa_nil)))) (pa_cons pe_int pa_nil))) (pe_op op_fdiv (pe_R (ok_law_draw T) (hr.mono (by decide)) T.g__law_draw T.k_law_draw (pa_cons (pv 0) (pa_cons pe_int pa_nil))) pe_int) (fun _ _ => rfl))) (pss_one (ps_expr (pe_bm PySem.F.plainAttrs_list PySem.F.slot_list_append PySem.F.type_list_append mt_append (pv 3) (pa_cons (pe_tup (pa_cons pe_str (pa_cons (pe_op op_add pe_int (pe_R (ok_law_draw T) (hr.mono (by decide)) T.g__law_draw T.k_law_draw (pa_cons (pv 0) (pa_cons (pv 2) pa_nil)))) (pa_cons (pv 5) pa_nil)))) pa_nil)))))))) (pss_one (ps_ret (pe_gh (pv 3)))))), ?_⟩
  obtain ⟨b, rfl, hb, q⟩ := h
  have e62 : (2 : Int) ^ 62 = 4611686018427387904 := by decide
  refine ⟨sz, fun L hL => .now ?_⟩
  have nLb := ne_bag hL hb
  have kL := same_new hL (o := .lst [])
  have b1 := hb.same kL
  have s1 : SB b H (upd H L (.lst [])) := SB.of kL
  have l1 : upd H L (.lst []) L = some (.lst (([] : List Addr).map V.ref)) := upd_same
  show tSeq _ _ _ _ (upd H L (.lst []))
  generalize upd H L (.lst []) = H1 at b1 s1 l1 ⊢
  clear kL
  walk_at "w"
  refine ⟨b, 3, rfl, b1, by decide, by decide, fun d H2 e2 b2 hd0 hd1 => ?_⟩
  have l2 := e2 _ _ nLb l1
  have s2 := s1.trans e2
  obtain ⟨d, rfl⟩ := Int.eq_ofNat_of_zero_le hd0
  walk_at "w"
  refine ⟨by rw [e62]; omega, by rw [e62]; omega, ?_⟩
  rw [show ((1 : Int) + (d : Int)).toNat = d + 1 by omega]
  refine for_go (d + 1) (fun i σ H' => ∃ (s4 s5 : Option V) (as : List Addr) (l : List Sx), σ = [some (.ref b), some (.int 3), some (.int 4), some (.ref L), s4, s5] ∧ SB b H H' ∧ BagAt H' b ∧ H' L = some (.lst (as.map V.ref)) ∧ SL H' as l ∧ l.length = i ∧ ∀ s ∈ l, s.ok ∧ s.wt ≤ 4)
    ⟨_, _, [], [], rfl, s2, b2, l2, ⟨rfl, fun i a s h => by simp at h⟩, rfl, fun _ z => nomatch z⟩ ?_ ?_
  · rintro i σ H3 hi ⟨s4, s5, as, l, rfl, s3, b3, l3, sl3, hln, hok⟩
    refine ⟨hi, fun x H'' hx => ?_⟩
    obtain ⟨rfl, rfl⟩ := hx
    walk_at "w"
    refine ⟨b, 3, rfl, b3, by decide, by decide, fun c H4 e4 b4 hc0 hc1 => ?_⟩
    have l4 := e4 _ _ nLb l3
    have s4' := s3.trans e4
    have sl4 := sl3.px (SB.px b3 e4)
    have has := sl3.1
    walk_at "w"
    refine iB (fun hc => ?_) fun hc => ?_
    · walk_at "w"
      refine ⟨.inl ⟨rfl, _, sqL_of l4⟩, ?_⟩
      walk_at "w"
      refine ⟨b, 3, rfl, b4, by decide, by decide, fun v H5 e5 b5 hv0 hv1 => ?_⟩
      obtain ⟨v, rfl⟩ := Int.eq_ofNat_of_zero_le hv0
      walk_at "w"
      refine ⟨sz, fun p hp => ?_⟩
      have l5 := e5 _ _ nLb l4
      have nLp : L ≠ p := fun z => by rw [z, hp] at l5; cases l5
      obtain ⟨x1, x2, x3, x4⟩ := route_put (s := .light v) (t := .tup [.str "light", .int v]) hL nLb (s4'.trans e5) b5 l5 (sl4.px (SB.px b4 e5)) hp (fun H' h => h)
      refine ⟨L, _, _, rfl, rfl, (by rw [upd_ne nLp]; exact l5), szL (by rw [List.length_map]; omega), ?_⟩
      refine ⟨_, _, as ++ [p], l ++ [.light v], rfl, x1, x2, x3, x4, by simp [hln], fun s hs => ?_⟩
      rcases List.mem_append.mp hs with h | h
      · exact hok s h
      · rw [List.mem_singleton.mp h]
        exact ⟨by show v ≤ 9; omega, by show v ≤ 4; omega⟩
    · walk_at "w"
      refine ⟨b, 4, rfl, b4, by decide, by decide, fun c1 H5 e5 b5 hm0 hm1 => ?_⟩
      have l5 := e5 _ _ nLb l4
      have s5' := s4'.trans e5
      have sl5 := sl4.px (SB.px b4 e5)
      walk_at "w"
      refine ⟨sz, fun t ht => ?_⟩
      have nt := ne_bag ht b5
      have kt := same_new ht (o := .lst [.int (1 + c1), .int 9])
      have b6 := b5.same kt
      have l6 := kt _ _ l5
      have s6 := s5'.trans (SB.of kt)
      have sl6 := sl5.px (Px.of _ _ kt)
      have t6 : upd H5 t (.lst [.int (1 + c1), .int 9]) t = some (.lst [.int (1 + c1), .int 9]) := upd_same
      walk_at "w"
      refine ⟨b, 4, rfl, b6, by decide, by decide, fun c2 H7 e7 b7 hn0 hn1 => ?_⟩
      have l7 := e7 _ _ nLb l6
      have s7 := s6.trans e7
      have sl7 := sl6.px (SB.px b6 e7)
      have t7 := e7 _ _ nt t6
      walk_at "w"
      refine ⟨⟨by decide, by decide⟩, ?_⟩
      obtain ⟨mo, hat, hmo1, hmo9⟩ : ∃ mo : Nat, atI [V.int (1 + c1), .int 9] (c2 / 3) = some (.int mo) ∧ 1 ≤ mo ∧ mo ≤ 9 := by
        obtain ⟨k1, rfl⟩ := Int.eq_ofNat_of_zero_le hm0
        have : c2 / 3 = 0 ∨ c2 / 3 = 1 := by omega
        rcases this with h | h
        · rw [h]
          refine ⟨1 + k1, ?_, by omega, by omega⟩
          rw [show ((1 + k1 : Nat) : Int) = 1 + (k1 : Int) by omega]
          rfl
        · rw [h]
          exact ⟨9, rfl, by decide, by decide⟩
      refine ⟨_, _, _, _, rfl, rfl, sqL_of t7, hat, .now ?_⟩
      walk_at "w"
      refine ⟨.inl ⟨rfl, _, sqL_of l7⟩, ?_⟩
      walk_at "w"
      refine ⟨b, 4, rfl, b7, by decide, by decide, fun v H8 e8 b8 hv0 hv1 => ?_⟩
      obtain ⟨v, rfl⟩ := Int.eq_ofNat_of_zero_le hv0
      walk_at "w"
      refine ⟨sz, fun p hp => ?_⟩
      have l8 := e8 _ _ nLb l7
      have nLp : L ≠ p := fun z => by rw [z, hp] at l8; cases l8
      obtain ⟨x1, x2, x3, x4⟩ := route_put (s := .road (1 + v) mo) (t := .tup [.str "road", .int (1 + (v : Int)), .int mo]) hL nLb (s7.trans e8) b8 l8 (sl7.px (SB.px b7 e8)) hp (fun H' h => by
        show H' p = some (.tup [.str "road", .int ((1 + v : Nat) : Int), .int mo])
        rw [show ((1 + v : Nat) : Int) = 1 + (v : Int) by omega]
        exact h)
      refine ⟨L, _, _, rfl, rfl, (by rw [upd_ne nLp]; exact l8), szL (by rw [List.length_map]; omega), ?_⟩
      refine ⟨_, _, as ++ [p], l ++ [.road (1 + v) mo], rfl, x1, x2, x3, x4, by simp [hln], fun s hs => ?_⟩
      rcases List.mem_append.mp hs with h | h
      · exact hok s h
      · rw [List.mem_singleton.mp h]
        exact ⟨⟨by omega, by omega, hmo1, hmo9⟩, by show 1 + v ≤ 4; omega⟩
  · rintro σ H3 ⟨s4, s5, as, l, rfl, s3, b3, l3, sl3, hln, hok⟩
    refine ⟨Nat.le_refl _, ?_⟩
    walk_at "w"
    exact q L as l _ s3 b3 hL nLb l3 sl3 hok (by omega) (by omega)
end Cab
set_option Elab.async false
set_option linter.all false
set_option maxRecDepth 100000
set_option maxHeartbeats 2000000
set_option pp.maxSteps 1500
namespace Cab
open PySem PySem.Spec PyProof.Rows L2

local macro_rules | `(tactic| walk_at "w") => `(tactic| repeat (first | refine Gh.now ?_ | refine ⟨_, rfl, ?_⟩ | refine ⟨_, _, rfl, rfl, ?_⟩ | refine ⟨rfl, ?_⟩))
local macro_rules | `(tactic| walk_at "g") => `(tactic| repeat (first | refine ⟨_, _, rfl, rfl, ?_⟩ | refine ⟨_, _, rfl, ?_⟩ | refine ⟨rfl, ?_⟩ | refine Gh.now ?_ | refine ⟨_, rfl, ?_⟩))
local macro_rules | `(tactic| walk_at "len") => `(tactic| first | (intro hh; obtain ⟨e, _⟩ := hh; exact congrArg List.length e) | (intro hh; obtain ⟨_, e, _⟩ := hh; exact congrArg List.length e) | (intro hh; obtain ⟨_, _, e, _⟩ := hh; exact congrArg List.length e) | (intro hh; obtain ⟨_, _, _, e, _⟩ := hh; exact congrArg List.length e) | (intro hh; obtain ⟨_, _, _, _, e, _⟩ := hh; exact congrArg List.length e) | (intro hh; obtain ⟨_, _, _, _, _, e, _⟩ := hh; exact congrArg List.length e) | (intro hh; obtain ⟨_, _, _, _, _, _, e, _⟩ := hh; exact congrArg List.length e) | (intro hh; obtain ⟨_, _, _, _, _, _, _, e, _⟩ := hh; exact congrArg List.length e) | (intro hh; obtain ⟨_, _, _, _, _, _, _, _, e, _⟩ := hh; exact congrArg List.length e) | (intro hh; obtain ⟨_, _, _, _, _, _, _, _, _, e, _⟩ := hh; exact congrArg List.length e) | (intro hh; obtain ⟨_, _, _, _, _, _, _, _, _, _, e, _⟩ := hh; exact congrArg List.length e) | (intro hh; obtain ⟨_, _, _, _, _, _, _, _, _, _, _, e, _⟩ := hh; exact congrArg List.length e) | (intro hh; obtain ⟨_, _, _, _, _, _, _, _, _, _, _, _, e, _⟩ := hh; exact congrArg List.length e))
variable {P : Program} {w : World} {K : PySem.W.Frag} {mg : Str → Option Value} {base : Heap}

theorem Tz.zeros (k : Nat) : Tz ⟨(List.replicate k 48).toArray⟩ (List.replicate k 0) := by
  refine ⟨?_, fun v hv => ?_⟩
  · show (List.replicate k 48).toArray.toList = _
    rw [List.toList_toArray, List.map_replicate]
  · rw [(List.mem_replicate.mp hv).2]
    exact Nat.zero_le _
/-- a trip with its waits -/
def TW (Pd : List Nat → Prop) (n : Nat) (H : Hp) (t : Addr) : Prop := ∃ wl xs z ds, H t = some (.tup [.ref wl, .str z]) ∧ H wl = some (.lst xs) ∧ xs.length ≤ n ∧ Tz z ds ∧ Pd ds
theorem TW.same {Pd : List Nat → Prop} {n : Nat} {H H' : Hp} {t : Addr} (e : Same H H') (h : TW Pd n H t) : TW Pd n H' t := by
  obtain ⟨wl, xs, z, ds, h1, h2, h3⟩ := h
  exact ⟨wl, xs, z, ds, e _ _ h1, e _ _ h2, h3⟩
def TWD (D : Addr) (Pd : List Nat → Prop) (n : Nat) (H : Hp) (t : Addr) : Prop := ∃ wl xs z ds, H t = some (.tup [.ref wl, .str z]) ∧ H wl = some (.lst xs) ∧ wl ≠ D ∧ xs.length ≤ n ∧ Tz z ds ∧ Pd ds
theorem TWD.same {D : Addr} {Pd : List Nat → Prop} {n : Nat} {H H' : Hp} {t : Addr} (e : Same H H') (h : TWD D Pd n H t) : TWD D Pd n H' t := by
  obtain ⟨wl, xs, z, ds, h1, h2, h3⟩ := h
  exact ⟨wl, xs, z, ds, e _ _ h1, e _ _ h2, h3⟩
theorem TWD.tw {D : Addr} {Pd : List Nat → Prop} {n : Nat} {H : Hp} {t : Addr} (h : TWD D Pd n H t) : TW Pd n H t := by
  obtain ⟨wl, xs, z, ds, h1, h2, _, h3⟩ := h
  exact ⟨wl, xs, z, ds, h1, h2, h3⟩
theorem TWD.upd {D : Addr} {Pd : List Nat → Prop} {n : Nat} {H : Hp} {t : Addr} {xs ys : List V} (hD : H D = some (.lst xs)) (h : TWD D Pd n H t) : TWD D Pd n (upd H D (.lst ys)) t := by
  obtain ⟨wl, zs, z, ds, h1, h2, h3, h4⟩ := h
  exact ⟨wl, zs, z, ds, by rw [upd_ne (fun z => by rw [z, hD] at h1; cases h1)]; exact h1, by rw [upd_ne h3]; exact h2, h3, h4⟩
def CT (D : Addr) (H1 : Hp) (Pd : List Nat → Prop) (n i : Nat) (H' : Hp) : Prop := ∃ ts : List Addr, ts.length = i ∧ Same H1 H' ∧ H1 D = none ∧ H' D = some (.lst (ts.map V.ref)) ∧ ∀ t ∈ ts, TWD D Pd n H' t
theorem CT.zero {D : Addr} {H1 : Hp} {Pd : List Nat → Prop} {n : Nat} (h : H1 D = none) : CT D H1 Pd n 0 (upd H1 D (.lst [])) := ⟨[], rfl, same_new h, h, upd_same, fun _ z => nomatch z⟩
theorem CT.fin {D : Addr} {H1 : Hp} {Pd : List Nat → Prop} {n i : Nat} {H' H4 : Hp} {t : Addr} (c : CT D H1 Pd n i H') (hi : i < 1000) (e : Same H' H4) (ht : TWD D Pd n H4 t) :
    ∃ acc, H4 D = some (.lst acc) ∧ acc.length < sizeLine ∧ CT D H1 Pd n (i + 1) (upd H4 D (.lst (acc ++ [.ref t]))) := by
  obtain ⟨ts, hl, s, h0, hD, hR⟩ := c
  have h4 := e D _ hD
  refine ⟨_, h4, szL (by rw [List.length_map]; omega), ts ++ [t], by simp [hl], same_mut (s.trans e) h0, h0, by rw [upd_same, List.map_append]; rfl, fun u hu => ?_⟩
  rcases List.mem_append.mp hu with h | h
  · exact ((hR u h).same e).upd h4
  · rw [List.mem_singleton.mp h]
    exact ht.upd h4
theorem Wt_le4 : ∀ {l : List Sx}, (∀ s ∈ l, s.wt ≤ 4) → Wt l ≤ 4 * l.length
  | [], _ => Nat.le_refl _
  | s :: r, h => by
    have h1 := Wt_le4 fun t ht => h t (List.mem_cons_of_mem s ht)
    have h2 := h s List.mem_cons_self
    unfold Wt at *
    simp only [List.map_cons, List.sum_cons, List.length_cons]
    omega
theorem pow16 {i : Nat} (h : i ≤ 3) : 16 ^ i ≤ 4096 := by
  match i, h with
  | 0, _ => decide
  | 1, _ => decide
  | 2, _ => decide
  | 3, _ => decide
  | i + 4, h => exact absurd h (by omega)
def pr_law_trips_by_waits (P : Program) (w : World) (K : PySem.W.Frag) : Pr := fun vs H Q => ∃ (La : Addr) (as : List Addr) (l : List Sx), vs = [.ref La] ∧ H La = some (.lst (as.map V.ref)) ∧ SL H as l ∧ (∀ s ∈ l, s.ok ∧ s.wt ≤ 4) ∧ l.length ≤ 3 ∧
  ∀ (L' : Addr) (ts : List Addr) (H' : Hp), Same H H' → H' L' = some (.lst (ts.map V.ref)) → 0 < ts.length → ts.length ≤ 4096 → (∀ t ∈ ts, TW (Fit l) 10 H' t) → Q (.ref L') H'
theorem ok_law_trips_by_waits (T : Wd K mg base) : Fn P w K mg base 2 (He.ga K "_law_trips_by_waits") (pr_law_trips_by_waits P w K) := by
  obtain ⟨fd, F0⟩ := T.fdef 42 (d := d_law_trips_by_waits)
  have F : FunD K "_law_trips_by_waits" "_law_trips_by_waits" (defArgs s_law_trips_by_waits) (defBody s_law_trips_by_waits) (defScope s_law_trips_by_waits) [] [] (He.ga K "_law_trips_by_waits") fd := F0
  refine fn_mk (N := N_law_trips_by_waits) (ps := ["_law_stretches"]) F sc_law_trips_by_waits (fun kV doc pm an cdv ct us hl => match us, hl with | [u0], _ => rfl) (fun vs H Q => by walk_at "len") fun cdv A outer s H vs Q E hr h => ?_
  refine ⟨_, (pss_gcons (ps_set (i := 1) sc_law_trips_by_waits.nd rfl (Or.inl rfl) (pe_lst (pa_cons (pe_tup (pa_cons (pe_lst pa_nil) (pa_cons pe_str pa_nil))) pa_nil))) (pss_cons (ps_for PassesOwn.never rfl (pi_listK (K := K) (pv 0)) (pg_name (i := 2) sc_law_trips_by_waits.nd rfl (Or.inl rfl)) (pss_gcons (ps_set (i := 3) sc_law_trips_by_waits.nd rfl (Or.inl rfl) (pe_lst pa_nil)) (pss_cons (ps_for PassesOwn.never rfl (pi_listK (K := K) (pv 1)) (pg_tupK (n := 2) rfl (pgs_cons (pg_name (i := 4) sc_law_trips_by_waits.nd rfl (Or.inr rfl)) (pgs_cons (pg_name (i := 5) sc_law_trips_by_waits.nd rfl (Or.inr rfl)) pgs_nil))) (pss_one (ps_if (pt_cmpR op_eq (pe_ix (ix_tup : IxR _ (rIxT K)) (pv 2) pe_int (fun _ _ => rfl)) pe_str (nomark _)) (pss_one (ps_set (i := 3) sc_law_trips_by_waits.nd rfl (Or.inl rfl) (pe_op op_cat (pv 3) (pe_lc (own := [("_law_wait", 6)]) rfl sc_law_trips_by_waits.nd (pi_range1 rfl T.f_range (pa_cons (pe_op op_add (pe_ix (ix_tup : IxR _ (rIxT K)) (pv 2) pe_int (fun _ _ => rfl)) pe_int) pa_nil)) (blkOk_by (own := [("_law_wait", 6)]) (N := N_law_trips_by_waits) (sc := defScope s_law_trips_by_waits) (by decide +kernel)) (fun _ _ _ _ _ => (pg_name (i := 6) sc_law_trips_by_waits.nd rfl (Or.inl rfl))) (fun _ _ _ _ _ => pts_nil) (fun _ _ _ _ _ => (pe_tup (pa_cons (pe_op op_cat (pv 4) (pe_lst (pa_cons (pv 6) pa_nil))) (pa_cons (pe_op op_add_str (pv 5) (pe_op op_mulS pe_str (pv 6))) pa_nil)))))))) (pss_one (ps_set (i := 3) sc_law_trips_by_waits.nd rfl (Or.inl rfl) (pe_op op_cat (pv 3) (pe_lc (own := [("_law_part", 7)]) rfl sc_law_trips_by_waits.nd (pi_listK (K := K) (pe_R (ok_law_road_trips T) (hr.mono (by decide)) T.g__law_road_trips T.k_law_road_trips (pa_cons (pe_ix (ix_tup : IxR _ (rIxT K)) (pv 2) pe_int (fun _ _ => rfl)) (pa_cons (pe_ix (ix_tup : IxR _ (rIxT K)) (pv 2) pe_int (fun _ _ => rfl)) pa_nil)))) (blkOk_by (own := [("_law_part", 7)]) (N := N_law_trips_by_waits) (sc := defScope s_law_trips_by_waits) (by decide +kernel)) (fun _ _ _ _ _ => (pg_name (i := 7) sc_law_trips_by_waits.nd rfl (Or.inl rfl))) (fun _ _ _ _ _ => pts_nil) (fun _ _ _ _ _ => (pe_tup (pa_cons (pv 4) (pa_cons (pe_op op_add_str (pv 5) (pv 7)) pa_nil))))))))))) (pss_one (ps_set (i := 1) sc_law_trips_by_waits.nd rfl (Or.inl rfl) (pv 3)))))) (pss_one (ps_ret (pe_gh (pv 1)))))), ?_⟩
  obtain ⟨La, as, l, rfl, hLa, hsl, hok, hl3, q⟩ := h
  have e62 : (2 : Int) ^ 62 = 4611686018427387904 := by decide
  have hln := hsl.1
  walk_at "w"
  refine ⟨sz, fun w0 hw0 => ?_⟩
  walk_at "w"
  refine ⟨sz, fun t0 ht0 => ?_⟩
  refine ⟨sz, fun f0 hf0 => .now ?_⟩
  have e1 : Same H (upd (upd (upd H w0 (.lst [])) t0 (.tup [.ref w0, .str ""])) f0 (.lst [.ref t0])) := ((same_new hw0).trans (same_new ht0)).trans (same_new hf0)
  have d1 : upd (upd (upd H w0 (.lst [])) t0 (.tup [.ref w0, .str ""])) f0 (.lst [.ref t0]) f0 = some (.lst ([t0].map V.ref)) := upd_same
  have nt : TW (Fit (l.take 0)) 0 (upd (upd (upd H w0 (.lst [])) t0 (.tup [.ref w0, .str ""])) f0 (.lst [.ref t0])) t0 := TW.same (same_new hf0) ⟨w0, [], "", [], upd_same, same_new ht0 _ _ upd_same, Nat.le_refl _, Tz.nil, by rw [List.take_zero]; exact .nil⟩
  show tSeq _ _ _ _ (upd (upd (upd H w0 (.lst [])) t0 (.tup [.ref w0, .str ""])) f0 (.lst [.ref t0]))
  generalize upd (upd (upd H w0 (.lst [])) t0 (.tup [.ref w0, .str ""])) f0 (.lst [.ref t0]) = H1 at e1 d1 nt ⊢
  refine ⟨_, rfl, La, rfl, ⟨_, sqL_of (e1 _ _ hLa)⟩, ?_⟩
  refine for_go as.length (fun i σ H' => ∃ (fl : Addr) (ts : List Addr) (s2 s3 s4 s5 : Option V), σ = [some (.ref La), some (.ref fl), s2, s3, s4, s5, none, none] ∧ Same H H' ∧ H' fl = some (.lst (ts.map V.ref)) ∧ 0 < ts.length ∧ ts.length ≤ 16 ^ i ∧ ∀ t ∈ ts, TW (Fit (l.take i)) i H' t)
    ⟨f0, [t0], _, _, _, _, rfl, e1, d1, Nat.one_pos, Nat.le_refl _, fun t ht => by rw [List.mem_singleton.mp ht]; exact nt⟩ ?_ ?_
  · rintro i σ H2 hi ⟨fl, ts, s2, s3, s4, s5, rfl, e2, d2, hp2, hq2, htw⟩
    refine ⟨itl_go (sqL_of (e2 _ _ hLa)) (by simpa using hi), fun y H'' hy => ?_⟩
    obtain ⟨rfl, hy⟩ := hy
    have hy := hy _ (sqL_of (e2 _ _ hLa))
    rw [List.getElem?_map, List.getElem?_eq_getElem hi] at hy
    obtain rfl : V.ref as[i] = y := Option.some.inj hy
    have hil : i < l.length := by omega
    have htk := take_snoc hil
    have hs := (hsl.2 i _ _ (List.getElem?_eq_getElem hi) (List.getElem?_eq_getElem hil)).px (.of _ _ e2)
    obtain ⟨hso, hwt⟩ := hok _ (List.getElem_mem hil)
    refine ⟨sz, fun n0 hn0 => .now ?_⟩
    have e3 : Same H'' (upd H'' n0 (.lst [])) := same_new hn0
    have d3 : upd H'' n0 (.lst []) n0 = some (.lst (([] : List Addr).map V.ref)) := upd_same
    show tSeq _ _ _ _ (upd H'' n0 (.lst []))
    generalize upd H'' n0 (.lst []) = H3 at e3 d3 ⊢
    refine ⟨_, rfl, fl, rfl, ⟨_, sqL_of (e3 _ _ d2)⟩, ?_⟩
    refine for_go ts.length (fun j σ H' => ∃ (nl : Addr) (us : List Addr) (s4 s5 : Option V), σ = [some (.ref La), some (.ref fl), some (.ref as[i]), some (.ref nl), s4, s5, none, none] ∧ Same H'' H' ∧ H' nl = some (.lst (us.map V.ref)) ∧ (0 < j → 0 < us.length) ∧ us.length ≤ j * 16 ∧ ∀ t ∈ us, TW (Fit (l.take (i + 1))) (i + 1) H' t)
      ⟨n0, [], _, _, rfl, e3, d3, fun h => absurd h (Nat.lt_irrefl _), Nat.le_refl _, fun _ z => nomatch z⟩ ?_ ?_
    · rintro j σ H4 hj ⟨nl, us, s4, s5, rfl, e4, d4, hp4, hq4, hu4⟩
      refine ⟨itl_go (sqL_of (e4 _ _ d2)) (by simpa using hj), fun y H5 hy => ?_⟩
      obtain ⟨rfl, hy⟩ := hy
      have hy := hy _ (sqL_of (e4 _ _ d2))
      rw [List.getElem?_map, List.getElem?_eq_getElem hj] at hy
      obtain rfl : V.ref ts[j] = y := Option.some.inj hy
      obtain ⟨wl, xs, z, ds, g1, g2, g3, g4, g5⟩ := (htw _ (List.getElem_mem hj)).same e4
      have hdl : ds.length ≤ 12 := by
        have h1 := g5.len
        have h2 := Wt_take l i
        have h3 := Wt_le4 fun s hs => (hok s hs).2
        omega
      have hz := g4.len
      have hs5 := hs.px (Px.of _ _ e4)
      refine ⟨_, _, rfl, sqT_of g1, rfl, ?_⟩
      walk_at "g"
      have h16 := pow16 (show i ≤ 3 by omega)
      generalize hsx : l[i] = sx at hs5 hso hwt
      cases sx with
      | light v =>
        have ho : v ≤ 9 := hso
        have hwt : v ≤ 4 := hwt
        have hs5 : H5 as[i] = some (.tup [.str "light", .int v]) := hs5
        walk_at "w"
        refine ⟨_, _, _, _, rfl, rfl, sqT_of hs5, rfl, ?_⟩
        walk_at "w"
        refine ⟨_, _, _, _, rfl, rfl, sqT_of hs5, rfl, ?_⟩
        walk_at "w"
        refine ⟨by rw [e62]; omega, by rw [e62]; omega, fun D hD => ?_⟩
        rw [show ((v : Int) + 1).toNat = v + 1 by omega]
        refine lc_go (v + 1) (CT D H5 (Fit (l.take (i + 1))) (i + 1)) (CT.zero hD) (fun k H' hk c => ?_) fun H6 c => ⟨by simp [Itr], ?_⟩
        · refine ⟨hk, fun x H6 hx => ?_⟩
          obtain ⟨rfl, rfl⟩ := hx
          rw [Int.zero_add]
          obtain ⟨ts', hl', e6, hD0, hD6, _⟩ := id c
          have g16 := e6 _ _ g1
          have g26 := e6 _ _ g2
          refine ⟨rfl, yT (iT rfl ?_)⟩
          refine ⟨_, rfl, _, rfl, sz, fun p1 hp1 => ?_⟩
          have e7 := same_new hp1 (o := .lst [.int (k : Nat)])
          refine ⟨wl, p1, _, _, rfl, rfl, e7 _ _ g26, upd_same, szl (by simp; omega), fun p2 hp2 => ?_⟩
          have e8 := e7.trans (same_new hp2 (o := .lst (xs ++ [.int (k : Nat)])))
          refine ⟨_, rfl, _, rfl, k, rfl, rfl, by omega, ?_⟩
          refine ⟨_, _, rfl, rfl, szl (by show z.length + (List.replicate k 48).toArray.size ≤ _; simp; omega), ?_⟩
          refine ⟨sz, fun p3 hp3 => ?_⟩
          have e9 := same_new hp3 (o := .tup [.ref p2, .str (z ++ ⟨(List.replicate k 48).toArray⟩)])
          refine c.fin (by omega) (e8.trans e9) ⟨p2, xs ++ [.int (k : Nat)], z ++ ⟨(List.replicate k 48).toArray⟩, ds ++ List.replicate k 0, upd_same, e9 _ _ upd_same, (fun zz => by rw [zz, e7 _ _ hD6] at hp2; cases hp2), by simp; omega, g4.app (Tz.zeros k), ?_⟩
          rw [htk, hsx]
          exact .snoc g5 ⟨k, by omega, rfl⟩
        · obtain ⟨ts', hl', e6, hD0, hD6, htw'⟩ := c
          refine ⟨nl, D, _, _, rfl, rfl, e6 _ _ d4, hD6, szl (by rw [List.length_map, List.length_map]; omega), fun p hp => ?_⟩
          have e7 := same_new hp (o := .lst (us.map V.ref ++ ts'.map V.ref))
          refine ⟨p, us ++ ts', _, _, rfl, (e4.trans e6).trans e7, by rw [upd_same, List.map_append], fun _ => by rw [List.length_append]; omega, by rw [List.length_append]; omega, fun t ht => ?_⟩
          rcases List.mem_append.mp ht with h | h
          · exact (hu4 t h).same (e6.trans e7)
          · exact ((htw' t h).tw).same e7
      | road n top =>
        obtain ⟨x1, x2, x3, x4⟩ := hso
        have hwt : n ≤ 4 := hwt
        have hs5 : H5 as[i] = some (.tup [.str "road", .int n, .int top]) := hs5
        walk_at "w"
        refine ⟨_, _, _, _, rfl, rfl, sqT_of hs5, rfl, ?_⟩
        walk_at "w"
        refine ⟨_, _, _, _, rfl, rfl, sqT_of hs5, rfl, ?_⟩
        walk_at "w"
        refine ⟨_, _, _, _, rfl, rfl, sqT_of hs5, rfl, ?_⟩
        walk_at "w"
        refine ⟨n, top, rfl, hwt, x3, x4, fun Lr zs H6 e6 hLr hR => ?_⟩
        refine ⟨Lr, rfl, ⟨_, sqL_of hLr⟩, fun D hD => ?_⟩
        have hzl : zs.length ≤ 16 := by
          have h1 := hR.2.1
          have h2 : 2 ^ n ≤ 2 ^ 4 := Nat.pow_le_pow_right (by decide) hwt
          have h3 : (2 : Nat) ^ 4 = 16 := by decide
          omega
        have hz0 := hR.1
        have g26 := e6 _ _ g2
        refine lc_go zs.length (CT D H6 (Fit (l.take (i + 1))) (i + 1)) (CT.zero hD) (fun k H' hk c => ?_) fun H7 c => ?_
        · obtain ⟨ts', hl', e7, hD0, hD7, _⟩ := id c
          refine ⟨itl_go (sqL_of (e7 _ _ hLr)) (by simpa using hk), fun x H8 hx => ?_⟩
          obtain ⟨rfl, hx⟩ := hx
          have hx := hx _ (sqL_of (e7 _ _ hLr))
          rw [List.getElem?_map, List.getElem?_eq_getElem hk] at hx
          obtain rfl : V.str zs[k] = x := Option.some.inj hx
          obtain ⟨dk, tzk, hdk⟩ := hR.2.2 _ (List.getElem_mem hk)
          have hdkl := fit1_len hdk
          have hzk := tzk.len
          refine ⟨rfl, yT (iT rfl ?_)⟩
          refine ⟨_, rfl, _, rfl, _, rfl, _, _, rfl, rfl, szl (by omega), ?_⟩
          refine ⟨sz, fun p3 hp3 => ?_⟩
          have e9 := same_new hp3 (o := .tup [.ref wl, .str (z ++ zs[k])])
          refine c.fin (by omega) e9 ⟨wl, xs, z ++ zs[k], ds ++ dk, upd_same, e9 _ _ (e7 _ _ g26), (fun zz => by rw [zz, hD] at g26; cases g26), by omega, g4.app tzk, ?_⟩
          rw [htk, hsx]
          exact .snoc g5 hdk
        · obtain ⟨ts', hl', e7, hD0, hD6, htw'⟩ := c
          refine ⟨⟨_, sqL_of (e7 _ _ hLr), by simp⟩, ?_⟩
          refine ⟨nl, D, _, _, rfl, rfl, e7 _ _ (e6 _ _ d4), hD6, szl (by rw [List.length_map, List.length_map]; omega), fun p hp => ?_⟩
          have e8 := same_new hp (o := .lst (us.map V.ref ++ ts'.map V.ref))
          refine ⟨p, us ++ ts', _, _, rfl, ((e4.trans e6).trans e7).trans e8, by rw [upd_same, List.map_append], fun _ => by rw [List.length_append]; omega, by rw [List.length_append]; omega, fun t ht => ?_⟩
          rcases List.mem_append.mp ht with h | h
          · exact (hu4 t h).same ((e6.trans e7).trans e8)
          · exact ((htw' t h).tw).same e8
    · rintro σ H4 ⟨nl, us, s4, s5, rfl, e4, d4, hp4, hq4, hu4⟩
      refine ⟨⟨_, sqL_of (e4 _ _ d2), by simp⟩, ?_⟩
      walk_at "w"
      refine ⟨nl, us, _, _, _, _, rfl, e2.trans e4, d4, hp4 hp2, ?_, hu4⟩
      rw [Nat.pow_succ]
      exact Nat.le_trans hq4 (Nat.mul_le_mul_right 16 hq2)
  · rintro σ H2 ⟨fl, ts, s2, s3, s4, s5, rfl, e2, d2, hp2, hq2, htw⟩
    refine ⟨⟨_, sqL_of (e2 _ _ hLa), by simp⟩, ?_⟩
    walk_at "w"
    refine q fl ts _ e2 d2 hp2 (Nat.le_trans hq2 (pow16 (by omega))) fun t ht => ?_
    obtain ⟨wl, xs, z, ds, g1, g2, g3, g4, g5⟩ := htw t ht
    rw [hln, List.take_length] at g5
    exact ⟨wl, xs, z, ds, g1, g2, by omega, g4, g5⟩
end Cab
set_option Elab.async false
set_option linter.all false
set_option maxRecDepth 100000
set_option maxHeartbeats 2000000
set_option pp.maxSteps 1500
namespace Cab
open PySem PySem.Spec PyProof.Rows L2

local macro_rules | `(tactic| walk_at "w") => `(tactic| repeat (first | refine Gh.now ?_ | refine ⟨_, rfl, ?_⟩ | refine ⟨_, _, rfl, rfl, ?_⟩ | refine ⟨rfl, ?_⟩))
local macro_rules | `(tactic| walk_at "g") => `(tactic| repeat (first | refine ⟨_, _, rfl, rfl, ?_⟩ | refine ⟨_, _, rfl, ?_⟩ | refine ⟨rfl, ?_⟩ | refine Gh.now ?_ | refine ⟨_, rfl, ?_⟩))
local macro_rules | `(tactic| walk_at "len") => `(tactic| first | (intro hh; obtain ⟨e, _⟩ := hh; exact congrArg List.length e) | (intro hh; obtain ⟨_, e, _⟩ := hh; exact congrArg List.length e) | (intro hh; obtain ⟨_, _, e, _⟩ := hh; exact congrArg List.length e) | (intro hh; obtain ⟨_, _, _, e, _⟩ := hh; exact congrArg List.length e) | (intro hh; obtain ⟨_, _, _, _, e, _⟩ := hh; exact congrArg List.length e) | (intro hh; obtain ⟨_, _, _, _, _, e, _⟩ := hh; exact congrArg List.length e) | (intro hh; obtain ⟨_, _, _, _, _, _, e, _⟩ := hh; exact congrArg List.length e) | (intro hh; obtain ⟨_, _, _, _, _, _, _, e, _⟩ := hh; exact congrArg List.length e) | (intro hh; obtain ⟨_, _, _, _, _, _, _, _, e, _⟩ := hh; exact congrArg List.length e) | (intro hh; obtain ⟨_, _, _, _, _, _, _, _, _, e, _⟩ := hh; exact congrArg List.length e) | (intro hh; obtain ⟨_, _, _, _, _, _, _, _, _, _, e, _⟩ := hh; exact congrArg List.length e) | (intro hh; obtain ⟨_, _, _, _, _, _, _, _, _, _, _, e, _⟩ := hh; exact congrArg List.length e) | (intro hh; obtain ⟨_, _, _, _, _, _, _, _, _, _, _, _, e, _⟩ := hh; exact congrArg List.length e))
variable {P : Program} {w : World} {K : PySem.W.Frag} {mg : Str → Option Value} {base : Heap}

/-- two made meters in a list that stands -/
structure Mm (P : Program) (w : World) (K : PySem.W.Frag) (H : Hp) (a : Addr) (M1 M2 : Mt) : Prop where
  ex : ∃ m1 m2, Ls H a [.ref m1, .ref m2] ∧ MetAt P w K H m1 M1 ∧ MetAt P w K H m2 M2
theorem Mm.px {P : Program} {w : World} {K : PySem.W.Frag} {H H' : Hp} {a : Addr} {M1 M2 : Mt} (e : Px H H') (h : Mm P w K H a M1 M2) : Mm P w K H' a M1 M2 := by
  obtain ⟨m1, m2, h1, h2, h3⟩ := h
  exact ⟨m1, m2, h1.px e, h2.px e, h3.px e⟩
theorem made_same {H2 : Hp} {x dx : Addr} {u v : HO} (hx : H2 x = none) (hdx : H2 dx = none) : Same H2 (upd (upd H2 dx v) x u) := fun _ _ h => upd2_ne hx hdx h
theorem strs_of : ∀ (gs : List V) (R : Str → Prop), (∀ (j : Nat) y, gs[j]? = some y → ∃ z, y = V.str z ∧ R z) → ∃ zs : List Str, gs = zs.map V.str ∧ ∀ z ∈ zs, R z
  | [], _, _ => ⟨[], rfl, fun _ h => nomatch h⟩
  | y :: r, R, h => by
    obtain ⟨z, rfl, hz⟩ := h 0 y rfl
    obtain ⟨zs, rfl, hr⟩ := strs_of r R fun j y hy => h (j + 1) y (by simpa using hy)
    refine ⟨z :: zs, rfl, fun u hu => ?_⟩
    rcases List.mem_cons.mp hu with e | e
    · rw [e]; exact hz
    · exact hr u e
theorem flat_ints (ns : List Int) : (ns.map V.int).all flatV = true := by
  rw [List.all_map, List.all_eq_true]
  exact fun _ _ => rfl
theorem inV_int {ns : List Int} {k : Int} (h : k ∈ ns) : (!inV (V.int k) (ns.map V.int)) = false := by
  have : inV (V.int k) (ns.map V.int) = true := by
    unfold inV
    refine List.any_eq_true.mpr ⟨V.int k, List.mem_map.mpr ⟨k, h, rfl⟩, ?_⟩
    simp [eqV]
  rw [this]
  rfl
/-- the list of prices that a meter's turn gives -/
def PrT2 (l : List Sx) (M1 M2 : Mt) (i : Nat) (y : V) (H : Hp) : Prop := ∃ p ns, y = .ref p ∧ Ls H p (ns.map V.int) ∧ PrcL (if i = 0 then M1 else M2) l ns
theorem PrT2.mono {l : List Sx} {M1 M2 : Mt} : ∀ i y H H', Px H H' → PrT2 l M1 M2 i y H → PrT2 l M1 M2 i y H' := fun _ _ _ _ e ⟨p, ns, h1, h2, h3⟩ => ⟨p, ns, h1, h2.px e, h3⟩
def pr_law_routes_right (P : Program) (w : World) (K : PySem.W.Frag) : Pr := fun vs H Q => ∃ (b ma : Addr) (M1 M2 : Mt), vs = [.ref b, .ref ma] ∧ BagAt H b ∧ Mm P w K H ma M1 M2 ∧ M1.Ok ∧ M2.Ok ∧ Dear M1 M2 ∧ ∀ H', SB b H H' → BagAt H' b → Q (.bl true) H'
theorem ok_law_routes_right (T : Wd K mg base) : Fn P w K mg base 10 (He.ga K "_law_routes_right") (pr_law_routes_right P w K) := by
  obtain ⟨fd, F0⟩ := T.fdef 44 (d := d_law_routes_right)
  have F : FunD K "_law_routes_right" "_law_routes_right" (defArgs s_law_routes_right) (defBody s_law_routes_right) (defScope s_law_routes_right) [] [] (He.ga K "_law_routes_right") fd := F0
  refine fn_mk (N := N_law_routes_right) (ps := ["_law_bag_here", "_law_made_here"]) F sc_law_routes_right (fun kV doc pm an cdv ct us hl => match us, hl with | [u0, u1], _ => rfl) (fun vs H Q => by walk_at "len") fun cdv A outer s H vs Q E hr h => ?_
  refine ⟨_, (pss_gcons (ps_set (i := 2) sc_law_routes_right.nd rfl (Or.inl rfl) (pe_R (ok_law_route T) (hr.mono (by decide)) T.g__law_route T.k_law_route (pa_cons (pv 0) (pa_cons pe_int (pa_cons pe_int pa_nil))))) (pss_gcons (ps_set (i := 3) sc_law_routes_right.nd rfl (Or.inr rfl) (pe_Mk (ok_Route_init T) (hr.mono (by decide)) T.mk_Route T.g_Route (pa_cons (pe_callTy call_list_of (by rfl) T.f_list (by decide +kernel) (pa_cons (pv 2) pa_nil)) pa_nil))) (pss_gcons (ps_setLc (i := 4) (own := [("_law_meter_here", 8)]) rfl sc_law_routes_right.nd rfl rfl (sw_true rfl rfl rfl (by decide +kernel)) (pi_listK (K := K) (pv 1)) (blkOk_by (own := [("_law_meter_here", 8)]) (N := N_law_routes_right) (sc := defScope s_law_routes_right) (by decide +kernel)) (fun _ _ _ _ _ => (pg_name (i := 8) sc_law_routes_right.nd rfl (Or.inl rfl))) (fun _ _ _ _ _ => pts_nil) (fun _ _ _ _ _ => (pe_M (ok_Route_prices T) (hr.mono (by decide)) T.cls_Route T.m_Route_prices (pv 3) (pa_cons (pv 8) pa_nil)))) (pss_cons (ps_if (PW.pt (pw_or (pt_cmpR op_gt (pe_ix (ix_list : IxR _ (rIxL K)) (pe_ix (ix_list : IxR _ (rIxL K)) (pv 4) pe_int (fun _ _ => rfl)) pe_int (fun _ _ => rfl)) (pe_ix (ix_list : IxR _ (rIxL K)) (pe_ix (ix_list : IxR _ (rIxL K)) (pv 4) pe_int (fun _ _ => rfl)) pe_int (fun _ _ => rfl)) (nomark _)) (pw_or1 (pt_cmpR op_gt (pe_ix (ix_list : IxR _ (rIxL K)) (pe_ix (ix_list : IxR _ (rIxL K)) (pv 4) pe_int (fun _ _ => rfl)) (pe_un un_neg pe_int) (fun _ _ => rfl)) (pe_ix (ix_list : IxR _ (rIxL K)) (pe_ix (ix_list : IxR _ (rIxL K)) (pv 4) pe_int (fun _ _ => rfl)) (pe_un un_neg pe_int) (fun _ _ => rfl)) (nomark _))))) (pss_one (ps_ret (pe_gh pe_bl))) pss_nil) (pss_gcons (ps_set (i := 5) sc_law_routes_right.nd rfl (Or.inl rfl) (pe_Mk (ok_Route_init T) (hr.mono (by decide)) T.mk_Route T.g_Route (pa_cons (pe_op op_cat (pv 2) (pe_lst (pa_cons (pe_tup (pa_cons pe_str (pa_cons (pe_op op_add pe_int (pe_R (ok_law_draw T) (hr.mono (by decide)) T.g__law_draw T.k_law_draw (pa_cons (pv 0) (pa_cons pe_int pa_nil)))) (pa_cons pe_int pa_nil)))) pa_nil))) pa_nil))) (pss_cons (ps_if (PW.pt (pw_or (pt_cmpR op_lt (pe_ix (ix_list : IxR _ (rIxL K)) (pe_M (ok_Route_prices T) (hr.mono (by decide)) T.cls_Route T.m_Route_prices (pv 5) (pa_cons (pe_ix (ix_list : IxR _ (rIxL K)) (pv 1) pe_int (fun _ _ => rfl)) pa_nil)) pe_int (fun _ _ => rfl)) (pe_ix (ix_list : IxR _ (rIxL K)) (pe_ix (ix_list : IxR _ (rIxL K)) (pv 4) pe_int (fun _ _ => rfl)) pe_int (fun _ _ => rfl)) (nomark _)) (pw_or1 (pt_cmpR op_le (pe_P (ok_Route_steps T) (hr.mono (by decide)) T.cls_Route T.p_Route_steps (pv 5)) (pe_P (ok_Route_steps T) (hr.mono (by decide)) T.cls_Route T.p_Route_steps (pv 3)) (nomark _))))) (pss_one (ps_ret (pe_gh pe_bl))) pss_nil) (pss_gcons (ps_setLc (i := 6) (own := [("_law_waits", 9), ("_law_trip", 7)]) rfl sc_law_routes_right.nd rfl rfl (sw_true rfl rfl rfl (by decide +kernel)) (pi_listK (K := K) (pe_R (ok_law_trips_by_waits T) (hr.mono (by decide)) T.g__law_trips_by_waits T.k_law_trips_by_waits (pa_cons (pv 2) pa_nil))) (blkOk_by (own := [("_law_waits", 9), ("_law_trip", 7)]) (N := N_law_routes_right) (sc := defScope s_law_routes_right) (by decide +kernel)) (fun _ _ _ _ _ => (pg_tupK (n := 2) rfl (pgs_cons (pg_name (i := 9) sc_law_routes_right.nd rfl (Or.inl rfl)) (pgs_cons (pg_name (i := 7) sc_law_routes_right.nd rfl (Or.inl rfl)) pgs_nil)))) (fun _ _ _ _ _ => pts_nil) (fun _ _ _ _ _ => (pv 7))) (pss_gcons (ps_set (i := 7) sc_law_routes_right.nd rfl (Or.inl rfl) (pe_R (ok_law_pick T) (hr.mono (by decide)) T.g__law_pick T.k_law_pick (pa_cons (pv 0) (pa_cons (pv 6) pa_nil)))) (pss_cons (ps_if (PW.pt (pw_or (pt_not (pt_val (pe_M (ok_Route_has T) (hr.mono (by decide)) T.cls_Route T.m_Route_has (pv 3) (pa_cons (pv 7) pa_nil)))) (pw_or (pt_cmpR op_notIn_seq (pe_CoK (ok_Meter_call T) (hr.mono (by decide)) T.co_Meter (pe_ix (ix_list : IxR _ (rIxL K)) (pv 1) pe_int (fun _ _ => rfl)) (pa_cons (pv 7) pa_nil)) (pe_ix (ix_list : IxR _ (rIxL K)) (pv 4) pe_int (fun _ _ => rfl)) (by rfl)) (pw_or1 (pt_cmpR op_notIn_seq (pe_CoK (ok_Meter_call T) (hr.mono (by decide)) T.co_Meter (pe_ix (ix_list : IxR _ (rIxL K)) (pv 1) pe_int (fun _ _ => rfl)) (pa_cons (pv 7) pa_nil)) (pe_ix (ix_list : IxR _ (rIxL K)) (pv 4) pe_int (fun _ _ => rfl)) (by rfl)))))) (pss_one (ps_ret (pe_gh pe_bl))) pss_nil) (pss_one (ps_ret (pe_gh (pe_cmpR op_le (pe_CoK (ok_Meter_call T) (hr.mono (by decide)) T.co_Meter (pe_ix (ix_list : IxR _ (rIxL K)) (pv 1) pe_int (fun _ _ => rfl)) (pa_cons (pv 7) pa_nil)) (pe_CoK (ok_Meter_call T) (hr.mono (by decide)) T.co_Meter (pe_ix (ix_list : IxR _ (rIxL K)) (pv 1) pe_int (fun _ _ => rfl)) (pa_cons (pv 7) pa_nil)) (nomark _)))))))))))))), ?_⟩
  obtain ⟨b, ma, M1, M2, rfl, hb, hm, o1, o2, D, q⟩ := h
  walk_at "w"
  refine ⟨hb, fun L as l H1 s1 b1 hL0 nLb hL sl hok hl1 hl3 => .now ?_⟩
  have ho : ∀ s ∈ l, s.ok := fun s hs => (hok s hs).1
  have hW : Wt l ≤ 12 := by have := Wt_le4 fun s hs => (hok s hs).2; omega
  walk_at "w"
  refine ⟨_, _, rfl, .inl (sqL_of hL), fun L2 hL2 => ?_⟩
  intro x dx hx hdx hne
  have k1 := same_new hL2 (o := .lst (as.map V.ref))
  refine ⟨x, L2, dx, as, l, rfl, upd_same, upd2_ne hx hdx upd_same, (sl.px (Px.of _ _ k1)).px (Px.of _ _ (made_same hx hdx)), ho, hl1, by omega, fun H2 e2 rt => ⟨rfl, .now ?_⟩⟩
  have e12 : Same H1 H2 := k1.trans (ob_made hx hdx e2)
  have s2 := s1.trans (SB.of e12)
  have b2 := b1.same e12
  have hL := e12 _ _ hL
  have sl := sl.px (Px.of _ _ e12)
  clear e2 k1 e12 b1 s1
  have hm := hm.px (SB.px hb s2)
  obtain ⟨m1, m2, hma, hm1, hm2⟩ := hm
  obtain ⟨ad1, mi1, _⟩ := hm1
  obtain ⟨ad2, mi2, _⟩ := hm2
  walk_at "w"
  refine ⟨⟨_, hma.sq⟩, fun D1 hD1 => ?_⟩
  refine lc_rel 2 (PrT2 l M1 M2) hD1 (fun i H' hi c => ?_) fun acc H3 hac e3 hq hR => ⟨⟨_, (hma.px (.of _ _ e3)).sq, by simp⟩, ?_⟩
  · have pc := c.px
    refine ⟨itl_go (hma.px pc).sq hi, fun y H'' hy => ?_⟩
    obtain ⟨rfl, hy⟩ := hy
    have hy := hy _ (hma.px pc).sq
    obtain ⟨ho2, dxr, rtt, asr, r1, _⟩ := id (rt.px pc)
    refine ⟨rfl, ?_⟩
    obtain rfl | rfl : i = 0 ∨ i = 1 := by omega
    · obtain rfl : V.ref m1 = y := Option.some.inj hy
      refine ⟨_, rfl, x, _, _, rfl, r1, rfl, ?_⟩
      walk_at "w"
      exact ⟨x, m1, ad1, M1, l, rfl, rt.px pc, mi1.px pc, by omega, by omega, fun p H4 ns e4 hp hns => CR.fin PrT2.mono c (by omega) e4 ⟨p, ns, rfl, hp, hns⟩⟩
    · obtain rfl : V.ref m2 = y := Option.some.inj hy
      refine ⟨_, rfl, x, _, _, rfl, r1, rfl, ?_⟩
      walk_at "w"
      exact ⟨x, m2, ad2, M2, l, rfl, rt.px pc, mi2.px pc, by omega, by omega, fun p H4 ns e4 hp hns => CR.fin PrT2.mono c (by omega) e4 ⟨p, ns, rfl, hp, hns⟩⟩
  obtain ⟨y1, y2, rfl⟩ : ∃ y1 y2, acc = [y1, y2] := by
    match acc, hac with
    | [y1, y2], _ => exact ⟨y1, y2, rfl⟩
  obtain ⟨p1, ns1, rfl, hp1, hn1⟩ := hR 0 y1 rfl
  obtain ⟨p2, ns2, rfl, hp2, hn2⟩ := hR 1 y2 rfl
  have hn1 : PrcL M1 l ns1 := hn1
  have hn2 : PrcL M2 l ns2 := hn2
  refine .frz hq True.intro fun ob => .now ?_
  have px3 : Px H2 (upd H3 D1 (.frz ob (.lst [.ref p1, .ref p2]))) := (Px.of _ _ e3).trans (Px.mut hq fun z => z)
  have s4 : SB b H (upd H3 D1 (.frz ob (.lst [.ref p1, .ref p2]))) := s2.trans (SB.of (same_mut e3 hD1))
  have b4 : BagAt (upd H3 D1 (.frz ob (.lst [.ref p1, .ref p2]))) b := (b2.same e3).upl hq (ne_bag hD1 b2)
  have hL4 := same_mut (o := .frz ob (.lst [.ref p1, .ref p2])) e3 hD1 _ _ hL
  have hp1 := hp1.px (Px.mut (o := .frz ob (.lst [.ref p1, .ref p2])) hq fun z => z)
  have hp2 := hp2.px (Px.mut (o := .frz ob (.lst [.ref p1, .ref p2])) hq fun z => z)
  have hPD : Ls (upd H3 D1 (.frz ob (.lst [.ref p1, .ref p2]))) D1 [.ref p1, .ref p2] := Ls.mk'
  show tSeq _ _ _ _ (upd H3 D1 (.frz ob (.lst [.ref p1, .ref p2])))
  generalize upd H3 D1 (.frz ob (.lst [.ref p1, .ref p2])) = H4 at px3 s4 b4 hL4 hp1 hp2 hPD ⊢
  clear hR hq e3 hD1
  have rt := rt.px px3
  have hma := hma.px px3
  have mi1 := mi1.px px3
  have mi2 := mi2.px px3
  have sl := sl.px px3
  obtain ⟨x1, z1, hx1, hz1, ⟨a1, ha1, ex1⟩, ⟨c1, hc1, ez1⟩, hb1⟩ := hn1.ends ho
  obtain ⟨x2, z2, hx2, hz2, ⟨a2, ha2, ex2⟩, ⟨c2, hc2, ez2⟩, hb2⟩ := hn2.ends ho
  have q0 : x1 ≤ x2 := by
    have h1 := (hb1 a2 ha2).1
    have h2 := D.pr o1 o2 (D.cnt a2)
    omega
  have q1 : z1 ≤ z2 := by
    have h1 := (hb2 c1 hc1).2
    have h2 := D.pr o1 o2 (D.cnt c1)
    omega
  walk_at "w"
  refine ⟨_, _, _, _, rfl, rfl, hPD.sq, rfl, ?_⟩
  refine ⟨_, _, _, _, rfl, rfl, hp1.sq, atI_nat (i := 0) hx1, ?_⟩
  walk_at "w"
  refine ⟨_, _, _, _, rfl, rfl, hPD.sq, rfl, ?_⟩
  refine ⟨_, _, _, _, rfl, rfl, hp2.sq, atI_nat (i := 0) hx2, ?_⟩
  walk_at "w"
  refine iF (dF (by omega)) ?_
  walk_at "w"
  refine ⟨_, _, _, _, rfl, rfl, hPD.sq, rfl, ?_⟩
  walk_at "w"
  refine ⟨_, _, _, _, rfl, rfl, hp1.sq, atI_neg1 hz1, ?_⟩
  walk_at "w"
  refine ⟨_, _, _, _, rfl, rfl, hPD.sq, rfl, ?_⟩
  walk_at "w"
  refine ⟨_, _, _, _, rfl, rfl, hp2.sq, atI_neg1 hz2, ?_⟩
  walk_at "w"
  refine iF (dF (by omega)) ?_
  walk_at "w"
  refine ⟨b, 3, rfl, b4, by decide, by decide, fun d H5 s5 b5 hd0 hd1 => ?_⟩
  obtain ⟨d, rfl⟩ := Int.eq_ofNat_of_zero_le hd0
  have px5 := SB.px b4 s5
  have hL5 := s5 _ _ nLb hL4
  walk_at "w"
  refine ⟨sz, fun pt hpt => ?_⟩
  have k6 := same_new hpt (o := .tup [.str "road", .int (1 + (d : Int)), .int 3])
  have t6 : upd H5 pt (.tup [.str "road", .int (1 + (d : Int)), .int 3]) pt = some (.tup [.str "road", .int (1 + (d : Int)), .int 3]) := upd_same
  walk_at "w"
  refine ⟨sz, fun L3 hL3 => ?_⟩
  have k7 := same_new hL3 (o := .lst [.ref pt])
  have k67 := k6.trans k7
  refine ⟨L, L3, _, _, rfl, rfl, k67 _ _ hL5, upd_same, szl (by rw [List.length_map]; have := sl.1; simp; omega), fun L4 hL4' => ?_⟩
  intro x2 dx2 hxx hdx hne2
  have k8 := same_new hL4' (o := .lst (as.map V.ref ++ [.ref pt]))
  have k58 := k67.trans k8
  have sl5 := sl.px px5
  have hok2 : ∀ s ∈ l ++ [Sx.road (1 + d) 3], s.ok := fun s hs => by
    rcases List.mem_append.mp hs with h | h
    · exact ho s h
    · rw [List.mem_singleton.mp h]
      exact ⟨by omega, by omega, by decide, by decide⟩
  have sl8 := (SL.snoc (s := .road (1 + d) 3) (sl5.px (Px.of _ _ k58)) (a := pt) (by
    show _ = some (HO.tup [.str "road", .int ((1 + d : Nat) : Int), .int 3])
    rw [show ((1 + d : Nat) : Int) = 1 + (d : Int) by omega]
    exact k8 _ _ (k7 _ _ t6)))
  refine ⟨x2, L4, dx2, as ++ [pt], l ++ [.road (1 + d) 3], rfl, upd_same, upd2_ne hxx hdx (by rw [upd_same, List.map_append]; rfl), sl8.px (Px.of _ _ (made_same hxx hdx)), hok2, by simp, by simp; omega, fun H9 e9 rt2 => ⟨rfl, .now ?_⟩⟩
  have e59 : Same H5 H9 := k58.trans (ob_made hxx hdx e9)
  have s9 := (s4.trans s5).trans (SB.of e59)
  have b9 := b5.same e59
  have hL9 := e59 _ _ hL5
  have px9 := px5.trans (Px.of _ _ e59)
  clear k6 k7 k67 k8 k58 e9 sl8 sl5
  have rt := rt.px px9
  have hma := hma.px px9
  have mi1 := mi1.px px9
  have mi2 := mi2.px px9
  have sl := sl.px px9
  have hp1 := hp1.px px9
  have hp2 := hp2.px px9
  have hPD := hPD.px px9
  have hW2 : Wt (l ++ [Sx.road (1 + d) 3]) ≤ 66 := by rw [Wt_snoc]; show _ + (1 + d) ≤ 66; omega
  obtain ⟨ho2, dxr2, rtt2, asr2, r2, _⟩ := id rt2
  obtain ⟨_, dxr1, rtt1, asr1, r1, _⟩ := id rt
  walk_at "w"
  refine ⟨x2, _, _, rfl, r2, rfl, ?_⟩
  walk_at "w"
  refine ⟨_, _, _, _, rfl, rfl, hma.sq, rfl, ?_⟩
  walk_at "w"
  refine ⟨x2, m1, ad1, M1, l ++ [.road (1 + d) 3], rfl, rt2, mi1, by simp; omega, hW2, fun p3 H10 ns3 e10 hp3 hn3 => ?_⟩
  obtain ⟨x3, z3, hx3, _, ⟨a3, ha3, ex3⟩, _, _⟩ := hn3.ends hok2
  have q3 : x1 ≤ x3 := by
    obtain ⟨a, b2, rfl, ha, hb2⟩ := ha3.inv
    have h1 := (hb1 a ha).1
    have h2 := o1.pr_mono (cnt_le_app o1 a b2)
    omega
  refine ⟨_, _, _, _, rfl, rfl, hp3.sq, atI_nat (i := 0) hx3, ?_⟩
  have px10 := Px.of _ _ e10
  walk_at "w"
  refine ⟨_, _, _, _, rfl, rfl, (hPD.px px10).sq, rfl, ?_⟩
  walk_at "w"
  refine ⟨_, _, _, _, rfl, rfl, (hp1.px px10).sq, atI_nat (i := 0) hx1, ?_⟩
  walk_at "w"
  refine iF (dF (by omega)) ?_
  walk_at "w"
  refine ⟨x2, _, _, rfl, e10 _ _ r2, x2, l ++ [.road (1 + d) 3], rfl, rt2.px px10, by simp; omega, fun H11 e11 => ?_⟩
  have e911 := e10.trans e11
  walk_at "w"
  refine ⟨x, _, _, rfl, e911 _ _ r1, x, l, rfl, rt.px (Px.of _ _ e911), by omega, fun H12 e12 => ?_⟩
  have e912 := e911.trans e12
  walk_at "w"
  refine iF (dF ?_) ?_
  · rw [List.map_append, List.sum_append]
    show ¬ (_ + (((1 + d : Nat) : Int) + 0) ≤ _)
    omega
  walk_at "w"
  have s12 := s9.trans (SB.of e912)
  have b12 := b9.same e912
  have hL12 := e912 _ _ hL9
  have px12 := Px.of _ _ e912
  refine ⟨L, as, l, rfl, hL12, sl.px px12, hok, hl3, fun L5 ts H13 e13 hL5 ht0 ht1 htw => ?_⟩
  refine ⟨L5, rfl, ⟨_, sqL_of hL5⟩, fun D2 hD2 => ?_⟩
  refine lc_rel ts.length (fun i y H' => ∃ z, y = V.str z ∧ ∃ ds, Tz z ds ∧ Fit l ds) hD2 (fun i H' hi c => ?_) fun acc H14 hac e14 hq hR => ⟨⟨_, sqL_of (e14 _ _ hL5), by simp⟩, ?_⟩
  · refine ⟨itl_go (sqL_of (c.same _ _ hL5)) (by simpa using hi), fun y H'' hy => ?_⟩
    obtain ⟨rfl, hy⟩ := hy
    have hy := hy _ (sqL_of (c.same _ _ hL5))
    rw [List.getElem?_map, List.getElem?_eq_getElem hi] at hy
    obtain rfl : V.ref ts[i] = y := Option.some.inj hy
    obtain ⟨wl, xs, z, ds, g1, g2, g3, g4, g5⟩ := (htw _ (List.getElem_mem hi)).same c.same
    refine ⟨_, _, rfl, sqT_of g1, rfl, ?_⟩
    walk_at "g"
    exact CR.fin (fun _ _ _ _ _ h => h) c (by omega) (Same.refl _) ⟨z, rfl, ds, g4, g5⟩
  obtain ⟨zs, rfl, hzs⟩ := strs_of acc (fun z => ∃ ds, Tz z ds ∧ Fit l ds) fun j y hy => hR j y hy
  rw [List.length_map] at hac
  refine .frz hq True.intro fun ob2 => .now ?_
  have e1214 := e13.trans e14
  have s15 : SB b H (upd H14 D2 (.frz ob2 (.lst (zs.map V.str)))) := (s12.trans (SB.of e13)).trans (SB.of (same_mut e14 hD2))
  have b15 : BagAt (upd H14 D2 (.frz ob2 (.lst (zs.map V.str)))) b := (b12.same e1214).upl hq (ne_bag hD2 (b12.same e13))
  have px15 : Px H9 (upd H14 D2 (.frz ob2 (.lst (zs.map V.str)))) := (px12.trans (Px.of _ _ e1214)).trans (Px.mut hq fun z => z)
  have hzD : Ls (upd H14 D2 (.frz ob2 (.lst (zs.map V.str)))) D2 (zs.map V.str) := Ls.mk'
  show tSeqG _ _ _ _ (upd H14 D2 (.frz ob2 (.lst (zs.map V.str))))
  generalize upd H14 D2 (.frz ob2 (.lst (zs.map V.str))) = H15 at s15 b15 px15 hzD ⊢
  walk_at "w"
  refine ⟨b, D2, zs, rfl, b15, hzD, by omega, by omega, fun z H16 s16 b16 hz => .now ?_⟩
  obtain ⟨ds, tz, hds⟩ := hzs z hz
  have hdl : ds.length ≤ 12 := by have := hds.len; omega
  have px16 := px15.trans (SB.px b15 s16)
  have s16 := s15.trans s16
  walk_at "w"
  have rt := rt.px px16
  have hma := hma.px px16
  have mi1 := mi1.px px16
  have mi2 := mi2.px px16
  have hp1 := hp1.px px16
  have hp2 := hp2.px px16
  have hPD := hPD.px px16
  obtain ⟨_, dxr3, rtt3, asr3, r3, _⟩ := id rt
  obtain ⟨_, dm1, an1, a21, a31, tb1, i1, _⟩ := id mi1
  obtain ⟨_, dm2, an2, a22, a32, tb2, i2, _⟩ := id mi2
  refine ⟨x, _, _, rfl, r3, rfl, ?_⟩
  walk_at "w"
  refine ⟨x, z, ds, l, rfl, tz, by omega, rt, hds, fun H17 e17 => ?_⟩
  have p17 := Px.of _ _ e17
  walk_at "w"
  refine ⟨_, _, _, _, rfl, rfl, (hma.px p17).sq, rfl, ?_⟩
  walk_at "w"
  refine ⟨⟨_, _, e17 _ _ i1⟩, m1, ad1, M1, z, rfl, mi1.px p17, tz.dig (by omega), fun H18 e18 => ?_⟩
  have p18 := p17.trans (Px.of _ _ e18)
  rw [tz.dgs]
  walk_at "w"
  refine ⟨_, _, _, _, rfl, rfl, (hPD.px p18).sq, rfl, ?_⟩
  refine ⟨p1, _, rfl, .inl (hp1.px p18).sq, rfl, flat_ints _, ?_⟩
  walk_at "w"
  refine iF (inV_int ((hn1.mem _).mpr ⟨ds, hds, rfl⟩)) ?_
  walk_at "w"
  refine ⟨_, _, _, _, rfl, rfl, (hma.px p18).sq, rfl, ?_⟩
  walk_at "w"
  refine ⟨⟨_, _, p18 _ _ i2 True.intro⟩, m2, ad2, M2, z, rfl, mi2.px p18, tz.dig (by omega), fun H19 e19 => ?_⟩
  have p19 := p18.trans (Px.of _ _ e19)
  rw [tz.dgs]
  walk_at "w"
  refine ⟨_, _, _, _, rfl, rfl, (hPD.px p19).sq, rfl, ?_⟩
  refine ⟨p2, _, rfl, .inl (hp2.px p19).sq, rfl, flat_ints _, ?_⟩
  walk_at "w"
  refine iF (inV_int ((hn2.mem _).mpr ⟨ds, hds, rfl⟩)) ?_
  walk_at "w"
  refine ⟨_, _, _, _, rfl, rfl, (hma.px p19).sq, rfl, ?_⟩
  walk_at "w"
  refine ⟨⟨_, _, p19 _ _ i1 True.intro⟩, m1, ad1, M1, z, rfl, mi1.px p19, tz.dig (by omega), fun H20 e20 => ?_⟩
  have p20 := p19.trans (Px.of _ _ e20)
  rw [tz.dgs]
  walk_at "w"
  refine ⟨_, _, _, _, rfl, rfl, (hma.px p20).sq, rfl, ?_⟩
  walk_at "w"
  refine ⟨⟨_, _, p20 _ _ i2 True.intro⟩, m2, ad2, M2, z, rfl, mi2.px p20, tz.dig (by omega), fun H21 e21 => ?_⟩
  rw [tz.dgs]
  have e1621 := ((e17.trans e18).trans (e19.trans e20)).trans e21
  refine ⟨_, _, rfl, rfl, .now ?_⟩
  have hle := D.pr o1 o2 (D.cnt ds)
  refine qv_eq (congrArg V.bl (dT hle)) (q _ (s16.trans (SB.of e1621)) (b16.same e1621))
end Cab
set_option Elab.async false
set_option linter.all false
set_option maxRecDepth 100000
set_option maxHeartbeats 2000000
set_option pp.maxSteps 1500
namespace Cab
open PySem PySem.Spec PyProof.Rows L2

local macro_rules | `(tactic| walk_at "w") => `(tactic| repeat (first | refine Gh.now ?_ | refine ⟨_, rfl, ?_⟩ | refine ⟨_, _, rfl, rfl, ?_⟩ | refine ⟨rfl, ?_⟩))
local macro_rules | `(tactic| walk_at "g") => `(tactic| repeat (first | refine ⟨_, _, rfl, rfl, ?_⟩ | refine ⟨_, _, rfl, ?_⟩ | refine ⟨rfl, ?_⟩ | refine Gh.now ?_ | refine ⟨_, rfl, ?_⟩))
local macro_rules | `(tactic| walk_at "len") => `(tactic| first | (intro hh; obtain ⟨e, _⟩ := hh; exact congrArg List.length e) | (intro hh; obtain ⟨_, e, _⟩ := hh; exact congrArg List.length e) | (intro hh; obtain ⟨_, _, e, _⟩ := hh; exact congrArg List.length e) | (intro hh; obtain ⟨_, _, _, e, _⟩ := hh; exact congrArg List.length e) | (intro hh; obtain ⟨_, _, _, _, e, _⟩ := hh; exact congrArg List.length e) | (intro hh; obtain ⟨_, _, _, _, _, e, _⟩ := hh; exact congrArg List.length e) | (intro hh; obtain ⟨_, _, _, _, _, _, e, _⟩ := hh; exact congrArg List.length e) | (intro hh; obtain ⟨_, _, _, _, _, _, _, e, _⟩ := hh; exact congrArg List.length e) | (intro hh; obtain ⟨_, _, _, _, _, _, _, _, e, _⟩ := hh; exact congrArg List.length e) | (intro hh; obtain ⟨_, _, _, _, _, _, _, _, _, e, _⟩ := hh; exact congrArg List.length e) | (intro hh; obtain ⟨_, _, _, _, _, _, _, _, _, _, e, _⟩ := hh; exact congrArg List.length e) | (intro hh; obtain ⟨_, _, _, _, _, _, _, _, _, _, _, e, _⟩ := hh; exact congrArg List.length e) | (intro hh; obtain ⟨_, _, _, _, _, _, _, _, _, _, _, _, e, _⟩ := hh; exact congrArg List.length e))
variable {P : Program} {w : World} {K : PySem.W.Frag} {mg : Str → Option Value} {base : Heap}

def pr_law_hires_right (P : Program) (w : World) (K : PySem.W.Frag) : Pr := fun vs H Q => ∃ (b ma : Addr) (M1 M2 : Mt) (top : Nat), vs = [.ref b, .ref ma, .int top] ∧ BagAt H b ∧ Mm P w K H ma M1 M2 ∧ M1.Ok ∧ M2.Ok ∧ Dear M1 M2 ∧ top ≤ 9 ∧ ∀ H', SB b H H' → BagAt H' b → Q (.bl true) H'
/-- what best_split tells -/
def BsX (M : Mt) (ds : List Nat) (x : Int) : Prop := (ds = [] ∧ x = M.pr (M.cnt [])) ∨ (ds ≠ [] ∧ ∃ f, IsB M ds ds.length f ∧ x = f ds.length)
theorem BsX.le {M1 M2 : Mt} (D : Dear M1 M2) (o1 : M1.Ok) (o2 : M2.Ok) {ds : List Nat} {x y : Int} (h1 : BsX M1 ds x) (h2 : BsX M2 ds y) : x ≤ y := by
  rcases h1 with ⟨e, rfl⟩ | ⟨n, f, hf, rfl⟩
  · rcases h2 with ⟨_, rfl⟩ | ⟨n, _⟩
    · exact D.pr o1 o2 (D.cnt [])
    · exact absurd e n
  · rcases h2 with ⟨e, _⟩ | ⟨_, g, hg, rfl⟩
    · exact absurd e n
    · exact hf.mono D o1 o2 hg _ (Nat.le_refl _)
theorem BsX.sp {M : Mt} {ds ts : List Nat} {x : Int} (h : BsX M ds x) (ht : ∀ t ∈ ts, 1 ≤ t ∧ t < ds.length) (ha : ts.Pairwise (· < ·)) : x ≤ M.sp ds (0 :: ts ++ [ds.length]) := by
  rcases h with ⟨rfl, rfl⟩ | ⟨n, f, hf, rfl⟩
  · cases ts with
    | nil =>
      show M.pr (M.cnt []) ≤ M.co [] 0 0 + 0
      rw [Int.add_zero]
      exact Int.le_refl _
    | cons t r => exact absurd (ht t List.mem_cons_self).2 (Nat.not_lt_zero _)
  · have hn : 0 < ds.length := List.length_pos_iff.mpr n
    have h1 := hf.sp (ts ++ [ds.length]) 0 ds.length (List.pairwise_cons.mpr ⟨fun m hm => ?_, List.pairwise_append.mpr ⟨ha, List.pairwise_singleton _ _, fun a ha b hb => ?_⟩⟩) (fun m hm => ?_) (by rw [← List.cons_append, List.getLast?_append]; rfl)
    · rw [hf.z, Int.zero_add] at h1
      exact h1
    · rcases List.mem_append.mp hm with h | h
      · have := ht m h; omega
      · rw [List.mem_singleton.mp h]; exact hn
    · rw [List.mem_singleton.mp hb]; exact (ht a ha).2
    · rcases List.mem_cons.mp hm with h | h
      · omega
      · rcases List.mem_append.mp h with h | h
        · have := ht m h; omega
        · rw [List.mem_singleton.mp h]; exact Nat.le_refl _
theorem ok_law_hires_right (T : Wd K mg base) : Fn P w K mg base 11 (He.ga K "_law_hires_right") (pr_law_hires_right P w K) := by
  obtain ⟨fd, F0⟩ := T.fdef 45 (d := d_law_hires_right)
  have F : FunD K "_law_hires_right" "_law_hires_right" (defArgs s_law_hires_right) (defBody s_law_hires_right) (defScope s_law_hires_right) [] [] (He.ga K "_law_hires_right") fd := F0
  refine fn_mk (N := N_law_hires_right) (ps := ["_law_bag_here", "_law_made_here", "_law_top"]) F sc_law_hires_right (fun kV doc pm an cdv ct us hl => match us, hl with | [u0, u1, u2], _ => rfl) (fun vs H Q => by walk_at "len") fun cdv A outer s H vs Q E hr h => ?_
  refine ⟨_, (pss_gcons (ps_set (i := 3) sc_law_hires_right.nd rfl (Or.inl rfl) (pe_R (ok_law_drawn_trip T) (hr.mono (by decide)) T.g__law_drawn_trip T.k_law_drawn_trip (pa_cons (pv 0) (pa_cons pe_int (pa_cons (pv 2) pa_nil))))) (pss_cons (ps_if (pt_cmpR op_gt (pe_ix (ix_tup : IxR _ (rIxT K)) (pe_R (ok_best_split T) (hr.mono (by decide)) T.g_best_split T.k_best_split (pa_cons (pe_ix (ix_list : IxR _ (rIxL K)) (pv 1) pe_int (fun _ _ => rfl)) (pa_cons (pv 3) pa_nil))) pe_int (fun _ _ => rfl)) (pe_ix (ix_tup : IxR _ (rIxT K)) (pe_R (ok_best_split T) (hr.mono (by decide)) T.g_best_split T.k_best_split (pa_cons (pe_ix (ix_list : IxR _ (rIxL K)) (pv 1) pe_int (fun _ _ => rfl)) (pa_cons (pv 3) pa_nil))) pe_int (fun _ _ => rfl)) (nomark _)) (pss_one (ps_ret (pe_gh pe_bl))) pss_nil) (pss_gcons (ps_setLc (i := 4) (own := [("_law_tick", 5)]) rfl sc_law_hires_right.nd rfl rfl (sw_true rfl rfl rfl (by decide +kernel)) (pi_range2 rfl T.f_range (pa_cons pe_int (pa_cons (pe_callB call_len_str (by rfl) T.f_len (by decide +kernel) (pa_cons (pv 3) pa_nil)) pa_nil))) (blkOk_by (own := [("_law_tick", 5)]) (N := N_law_hires_right) (sc := defScope s_law_hires_right) (by decide +kernel)) (fun _ _ _ _ _ => (pg_name (i := 5) sc_law_hires_right.nd rfl (Or.inl rfl))) (fun _ _ _ _ _ => (pts_one (pt_cmpR op_eq (pe_R (ok_law_draw T) (hr.mono (by decide)) T.g__law_draw T.k_law_draw (pa_cons (pv 0) (pa_cons pe_int pa_nil))) pe_int (nomark _)))) (fun _ _ _ _ _ => (pv 5))) (pss_cons (ps_if (pt_cmpR op_gt (pe_R (ok_split_price T) (hr.mono (by decide)) T.g_split_price T.k_split_price (pa_cons (pe_ix (ix_list : IxR _ (rIxL K)) (pv 1) pe_int (fun _ _ => rfl)) (pa_cons (pv 3) (pa_cons (pv 4) pa_nil)))) (pe_R (ok_split_price T) (hr.mono (by decide)) T.g_split_price T.k_split_price (pa_cons (pe_ix (ix_list : IxR _ (rIxL K)) (pv 1) pe_int (fun _ _ => rfl)) (pa_cons (pv 3) (pa_cons (pv 4) pa_nil)))) (nomark _)) (pss_one (ps_ret (pe_gh pe_bl))) pss_nil) (pss_one (ps_ret (pe_gh (pe_cmpR op_le (pe_ix (ix_tup : IxR _ (rIxT K)) (pe_R (ok_best_split T) (hr.mono (by decide)) T.g_best_split T.k_best_split (pa_cons (pe_ix (ix_list : IxR _ (rIxL K)) (pv 1) pe_int (fun _ _ => rfl)) (pa_cons (pv 3) pa_nil))) pe_int (fun _ _ => rfl)) (pe_R (ok_split_price T) (hr.mono (by decide)) T.g_split_price T.k_split_price (pa_cons (pe_ix (ix_list : IxR _ (rIxL K)) (pv 1) pe_int (fun _ _ => rfl)) (pa_cons (pv 3) (pa_cons (pv 4) pa_nil)))) (nomark _))))))))), ?_⟩
  obtain ⟨b, ma, M1, M2, top, rfl, hb, hm, o1, o2, D, ht, q⟩ := h
  have e62 : (2 : Int) ^ 62 = 4611686018427387904 := by decide
  walk_at "w"
  refine ⟨b, 12, top, rfl, hb, by decide, ht, fun z ds H1 s1 b1 tz hl hv => .now ?_⟩
  obtain ⟨m1, m2, hma, hm1, hm2⟩ := hm.px (SB.px hb s1)
  obtain ⟨ad1, mi1, _⟩ := id hm1
  obtain ⟨ad2, mi2, _⟩ := id hm2
  walk_at "w"
  refine ⟨_, _, _, _, rfl, rfl, hma.sq, rfl, ?_⟩
  walk_at "w"
  refine ⟨m1, ad1, M1, z, ds, rfl, mi1, tz, by omega, fun t1 H2 x1 L1 e2 ht1 hx1 => ?_⟩
  refine ⟨_, _, _, _, rfl, rfl, sqT_of ht1, rfl, ?_⟩
  have p2 := Px.of _ _ e2
  walk_at "w"
  refine ⟨_, _, _, _, rfl, rfl, (hma.px p2).sq, rfl, ?_⟩
  walk_at "w"
  refine ⟨m2, ad2, M2, z, ds, rfl, mi2.px p2, tz, by omega, fun t2 H3 x2 L2 e3 ht2 hx2 => ?_⟩
  refine ⟨_, _, _, _, rfl, rfl, sqT_of ht2, rfl, ?_⟩
  have hx12 := BsX.le D o1 o2 hx1 hx2
  walk_at "w"
  refine iF (dF (by omega)) ?_
  have e13 := e2.trans e3
  have s3 := s1.trans (SB.of e13)
  have b3 := b1.same e13
  have p3 := Px.of _ _ e13
  have hma := hma.px p3
  have mi1 := mi1.px p3
  have mi2 := mi2.px p3
  have hz := tz.len
  walk_at "w"
  refine ⟨szl (by omega), ?_⟩
  refine ⟨_, _, rfl, ⟨by decide, by decide, by rw [e62]; omega, by rw [e62]; omega⟩, fun D3 hD3 => ?_⟩
  rw [show (((z.length : Nat) : Int) - 1).toNat = ds.length - 1 by omega]
  have nDb := ne_bag hD3 b3
  refine lc_go (ds.length - 1) (fun i H' => ∃ ts : List Nat, H' D3 = some (.lst (ts.map fun t : Nat => V.int t)) ∧ SB b H3 H' ∧ BagAt H' b ∧ ts.length ≤ i ∧ (∀ t ∈ ts, 1 ≤ t ∧ t ≤ i) ∧ ts.Pairwise (· < ·)) ⟨[], upd_same, SB.of (same_new hD3), b3.same (same_new hD3), Nat.le_refl _, (fun _ z => nomatch z), .nil⟩ (fun i H' hi hN => ?_) fun H4 hN => ⟨?_, ?_⟩
  · obtain ⟨ts, hq, s4, b4, hl4, ht4, hp4⟩ := hN
    refine ⟨by simp [Itr]; omega, fun x H'' hx => ?_⟩
    obtain ⟨rfl, rfl⟩ := hx
    refine ⟨rfl, ?_⟩
    walk_at "w"
    refine ⟨b, 4, rfl, b4, by decide, by decide, fun d H5 e5 b5 _ _ => ?_⟩
    have hq5 := e5 _ _ nDb hq
    walk_at "w"
    refine iB (fun hd => ?_) fun hd => ?_
    · refine ⟨_, rfl, _, hq5, szL (by rw [List.length_map]; omega), ts ++ [i + 1], ?_, fun u o nu h => ?_, b5.upl hq5 nDb, by simp; omega, fun t ht => ?_, List.pairwise_append.mpr ⟨hp4, List.pairwise_singleton _ _, fun t ht u hu => ?_⟩⟩
      · rw [upd_same, List.map_append]
        show _ = some (HO.lst (_ ++ [V.int ((i + 1 : Nat) : Int)]))
        rw [show ((i + 1 : Nat) : Int) = 1 + (i : Int) by omega]
      · rw [upd_ne fun z => by rw [z, hD3] at h; cases h]
        exact e5 _ _ nu (s4 _ _ nu h)
      · rcases List.mem_append.mp ht with h | h
        · have := ht4 t h; omega
        · rw [List.mem_singleton.mp h]; omega
      · rw [List.mem_singleton.mp hu]
        have := ht4 t ht
        omega
    · exact ⟨ts, hq5, s4.trans e5, b5, by omega, fun t ht => by have := ht4 t ht; omega, hp4⟩
  · exact Nat.le_refl _
  · obtain ⟨ts, hq, s4, b4, hl4, ht4, hp4⟩ := hN
    refine .frz hq True.intro fun ob => .now ?_
    have px5 : Px H3 (upd H4 D3 (.frz ob (.lst (ts.map fun t : Nat => V.int t)))) := (SB.px b3 s4).trans (Px.mut hq fun z => z)
    have s5 : SB b H (upd H4 D3 (.frz ob (.lst (ts.map fun t : Nat => V.int t)))) := fun u o nu h => by
      have h3 := s3 _ _ nu h
      rw [upd_ne fun z => by rw [z, hD3] at h3; cases h3]
      exact s4 _ _ nu h3
    have b5 : BagAt (upd H4 D3 (.frz ob (.lst (ts.map fun t : Nat => V.int t)))) b := b4.upl hq nDb
    have hD : Ls (upd H4 D3 (.frz ob (.lst (ts.map fun t : Nat => V.int t)))) D3 (ts.map fun t : Nat => V.int t) := Ls.mk'
    show tSeq _ _ _ _ (upd H4 D3 (.frz ob (.lst (ts.map fun t : Nat => V.int t))))
    generalize upd H4 D3 (.frz ob (.lst (ts.map fun t : Nat => V.int t))) = H5 at px5 s5 b5 hD ⊢
    have hma := hma.px px5
    have mi1 := mi1.px px5
    have mi2 := mi2.px px5
    have hts : ∀ t ∈ ts, 1 ≤ t ∧ t < ds.length := fun t ht => by have := ht4 t ht; omega
    walk_at "w"
    refine ⟨_, _, _, _, rfl, rfl, hma.sq, rfl, ?_⟩
    walk_at "w"
    refine ⟨m1, ad1, D3, M1, z, ds, ts, rfl, mi1, tz, by omega, hD, by omega, hts, hp4, fun H6 e6 => ?_⟩
    have p6 := Px.of _ _ e6
    walk_at "w"
    refine ⟨_, _, _, _, rfl, rfl, (hma.px p6).sq, rfl, ?_⟩
    walk_at "w"
    refine ⟨m2, ad2, D3, M2, z, ds, ts, rfl, mi2.px p6, tz, by omega, hD.px p6, by omega, hts, hp4, fun H7 e7 => ?_⟩
    have p7 := p6.trans (Px.of _ _ e7)
    have hsp := sp_mono D o1 o2 ds (0 :: ts ++ [ds.length])
    walk_at "w"
    refine iF (dF (by omega)) ?_
    walk_at "w"
    refine ⟨_, _, _, _, rfl, rfl, (hma.px p7).sq, rfl, ?_⟩
    walk_at "w"
    refine ⟨m1, ad1, M1, z, ds, rfl, mi1.px p7, tz, by omega, fun t3 H8 x3 L3 e8 ht3 hx3 => ?_⟩
    refine ⟨_, _, _, _, rfl, rfl, sqT_of ht3, rfl, ?_⟩
    have p8 := p7.trans (Px.of _ _ e8)
    walk_at "w"
    refine ⟨_, _, _, _, rfl, rfl, (hma.px p8).sq, rfl, ?_⟩
    walk_at "w"
    refine ⟨m1, ad1, D3, M1, z, ds, ts, rfl, mi1.px p8, tz, by omega, hD.px p8, by omega, hts, hp4, fun H9 e9 => ?_⟩
    refine ⟨_, _, rfl, rfl, .now ?_⟩
    have hle := BsX.sp hx3 hts hp4
    have e59 := (e6.trans e7).trans (e8.trans e9)
    exact qv_eq (congrArg V.bl (dT hle)) (q _ (s5.trans (SB.of e59)) (b5.same e59))
end Cab
set_option Elab.async false
set_option linter.all false
set_option maxRecDepth 100000
set_option maxHeartbeats 2000000
set_option pp.maxSteps 1500
namespace Cab
open PySem PySem.Spec PyProof.Rows L2

local macro_rules | `(tactic| walk_at "w") => `(tactic| repeat (first | refine Gh.now ?_ | refine ⟨_, rfl, ?_⟩ | refine ⟨_, _, rfl, rfl, ?_⟩ | refine ⟨rfl, ?_⟩))
local macro_rules | `(tactic| walk_at "g") => `(tactic| repeat (first | refine ⟨_, _, rfl, rfl, ?_⟩ | refine ⟨_, _, rfl, ?_⟩ | refine ⟨rfl, ?_⟩ | refine Gh.now ?_ | refine ⟨_, rfl, ?_⟩))
local macro_rules | `(tactic| walk_at "len") => `(tactic| first | (intro hh; obtain ⟨e, _⟩ := hh; exact congrArg List.length e) | (intro hh; obtain ⟨_, e, _⟩ := hh; exact congrArg List.length e) | (intro hh; obtain ⟨_, _, e, _⟩ := hh; exact congrArg List.length e) | (intro hh; obtain ⟨_, _, _, e, _⟩ := hh; exact congrArg List.length e) | (intro hh; obtain ⟨_, _, _, _, e, _⟩ := hh; exact congrArg List.length e) | (intro hh; obtain ⟨_, _, _, _, _, e, _⟩ := hh; exact congrArg List.length e) | (intro hh; obtain ⟨_, _, _, _, _, _, e, _⟩ := hh; exact congrArg List.length e) | (intro hh; obtain ⟨_, _, _, _, _, _, _, e, _⟩ := hh; exact congrArg List.length e) | (intro hh; obtain ⟨_, _, _, _, _, _, _, _, e, _⟩ := hh; exact congrArg List.length e) | (intro hh; obtain ⟨_, _, _, _, _, _, _, _, _, e, _⟩ := hh; exact congrArg List.length e) | (intro hh; obtain ⟨_, _, _, _, _, _, _, _, _, _, e, _⟩ := hh; exact congrArg List.length e) | (intro hh; obtain ⟨_, _, _, _, _, _, _, _, _, _, _, e, _⟩ := hh; exact congrArg List.length e) | (intro hh; obtain ⟨_, _, _, _, _, _, _, _, _, _, _, _, e, _⟩ := hh; exact congrArg List.length e))
variable {P : Program} {w : World} {K : PySem.W.Frag} {mg : Str → Option Value} {base : Heap}

/-- the first plain form, laid and frozen -/
theorem mk_planB {R' : Hp → Prop} {a0 D R p : Addr} {Hc : Hp} {f : Nat → Nat} {first drop fl ju : Nat} (hT : Ten Hc a0 f) (hD : Hc D = none) (hR : upd Hc D (.lst [.ref a0]) R = none) (hp : upd (upd Hc D (.lst [.ref a0])) R (.lst []) p = none)
    (k : ∀ H', Same Hc H' → PlanB H' (.ref p) f first drop fl ju → H' p = some (.tup [.int (first : Nat), .int (drop : Nat), .ref D, .ref R, .int (fl : Nat), .int (ju : Nat)]) → R' H') :
    Gh (upd (upd (upd Hc D (.lst [.ref a0])) R (.lst [])) p (.tup [.int (first : Nat), .int (drop : Nat), .ref D, .ref R, .int (fl : Nat), .int (ju : Nat)])) R' := by
  obtain ⟨hR0, nRD⟩ := upd_none hR
  obtain ⟨hp1, npR⟩ := upd_none hp
  obtain ⟨hp0, npD⟩ := upd_none hp1
  have e3 : Same Hc (upd (upd (upd Hc D (.lst [.ref a0])) R (.lst [])) p (.tup [.int (first : Nat), .int (drop : Nat), .ref D, .ref R, .int (fl : Nat), .int (ju : Nat)])) := ((same_new hD).trans (same_new hR)).trans (same_new hp)
  have d3 : upd (upd (upd Hc D (.lst [.ref a0])) R (.lst [])) p (.tup [.int (first : Nat), .int (drop : Nat), .ref D, .ref R, .int (fl : Nat), .int (ju : Nat)]) D = some (.lst [.ref a0]) := by rw [upd_ne npD.symm, upd_ne nRD.symm, upd_same]
  have r3 : upd (upd (upd Hc D (.lst [.ref a0])) R (.lst [])) p (.tup [.int (first : Nat), .int (drop : Nat), .ref D, .ref R, .int (fl : Nat), .int (ju : Nat)]) R = some (.lst []) := by rw [upd_ne npR.symm, upd_same]
  have p3 : upd (upd (upd Hc D (.lst [.ref a0])) R (.lst [])) p (.tup [.int (first : Nat), .int (drop : Nat), .ref D, .ref R, .int (fl : Nat), .int (ju : Nat)]) p = some (.tup [.int (first : Nat), .int (drop : Nat), .ref D, .ref R, .int (fl : Nat), .int (ju : Nat)]) := upd_same
  generalize upd (upd (upd Hc D (.lst [.ref a0])) R (.lst [])) p (.tup [.int (first : Nat), .int (drop : Nat), .ref D, .ref R, .int (fl : Nat), .int (ju : Nat)]) = H3 at e3 d3 r3 p3 ⊢
  refine .frz d3 True.intro fun o1 => ?_
  have r4 : upd H3 D (.frz o1 (.lst [.ref a0])) R = some (.lst []) := by rw [upd_ne nRD]; exact r3
  refine .frz r4 True.intro fun o2 => .now ?_
  have e5 : Same Hc (upd (upd H3 D (.frz o1 (.lst [.ref a0]))) R (.frz o2 (.lst []))) := same_mut (same_mut e3 hD) hR0
  have p5 : upd (upd H3 D (.frz o1 (.lst [.ref a0]))) R (.frz o2 (.lst [])) p = some (.tup [.int (first : Nat), .int (drop : Nat), .ref D, .ref R, .int (fl : Nat), .int (ju : Nat)]) := by rw [upd_ne npR, upd_ne npD]; exact p3
  exact k _ e5 ⟨p, D, a0, R, rfl, p5, ⟨o1, by rw [upd_ne nRD.symm, upd_same]⟩, hT.px (Px.of _ _ e5), ⟨o2, upd_same⟩⟩ p5
theorem PlanB.px {H H' : Hp} {v : V} {f : Nat → Nat} {first drop fl ju : Nat} (e : Px H H') (h : PlanB H v f first drop fl ju) : PlanB H' v f first drop fl ju := by
  obtain ⟨p, D, a0, R, h1, h2, h3, h4, h5⟩ := h
  exact ⟨p, D, a0, R, h1, e _ _ h2 True.intro, h3.px e, h4.px e, h5.px e⟩
theorem mt_ok {f : Nat → Nat} {first drop fl ju : Nat} (hf : ∀ j, j < 10 → f j ≤ 60) (h1 : 1 ≤ first ∧ first ≤ 5) (h2 : 1 ≤ drop ∧ drop ≤ 5) (h3 : fl ≤ 1000) (h4 : 1 ≤ ju ∧ ju ≤ 100) : (mtOf f first drop fl ju).Ok := by
  refine ⟨?_, ?_, ?_, ?_, ?_, ?_, ?_, ?_, Wn_len, Wn_b hf⟩
  · show (1 : Int) ≤ (first : Int); omega
  · show (first : Int) ≤ 10; omega
  · show (1 : Int) ≤ (drop : Int); omega
  · show (drop : Int) ≤ 10; omega
  · show (0 : Int) ≤ (fl : Int); omega
  · show (fl : Int) ≤ 1000; omega
  · show (1 : Int) ≤ (ju : Int); omega
  · show (ju : Int) ≤ 100; omega
theorem wt_of {f : Nat → Nat} {first drop fl ju : Nat} (v : Nat) : (mtOf f first drop fl ju).wt v = if v < 10 then ((f v : Nat) : Int) else 0 := by
  show (Wn f).getD v 0 = _
  rw [List.getD_eq_getElem?_getD]
  by_cases h : v < 10
  · rw [if_pos h, Wn_get h]
    rfl
  · rw [if_neg h, List.getElem?_eq_none (by simp; omega)]
    rfl
theorem Dearer.ok {f f' : Nat → Nat} {first first' drop fl fl' ju ju' : Nat} (d : Dearer f f' first first' fl fl' ju ju') (hf : ∀ j, j < 10 → f j ≤ 30) (h1 : 1 ≤ first ∧ first ≤ 5) (h2 : 1 ≤ drop ∧ drop ≤ 5) (h3 : fl ≤ 1000) (h4 : 1 ≤ ju ∧ ju ≤ 100) :
    (∀ j, j < 10 → f' j ≤ 60) ∧ (mtOf f' first' drop fl' ju').Ok ∧ Dear (mtOf f first drop fl ju) (mtOf f' first' drop fl' ju') ∧ fl ≤ fl' := by
  have key : (∀ j, j < 10 → f j ≤ f' j ∧ f' j ≤ 60) ∧ (1 ≤ first' ∧ first' ≤ first) ∧ (fl ≤ fl' ∧ fl' ≤ 1000) ∧ (ju ≤ ju' ∧ ju' ≤ 100) := by
    rcases d with ⟨s, d, hs, hd1, hd2, e, rfl, rfl, rfl⟩ | ⟨rfl, rfl, rfl, rfl⟩ | ⟨d, hd1, hd2, rfl, rfl, rfl, rfl⟩ | ⟨rfl, rfl, rfl, rfl⟩
    · refine ⟨fun j hj => ?_, by omega, by omega, by omega⟩
      have := hf j hj
      rw [e j]
      split <;> omega
    · exact ⟨fun j hj => by have := hf j hj; omega, by omega, by omega, by omega⟩
    · exact ⟨fun j hj => by have := hf j hj; omega, by omega, by omega, by omega⟩
    · exact ⟨fun j hj => by have := hf j hj; omega, by omega, by omega, by omega⟩
  obtain ⟨k1, k2, k3, k4⟩ := key
  refine ⟨fun j hj => (k1 j hj).2, mt_ok (fun j hj => (k1 j hj).2) (by omega) h2 k3.2 (by omega), ⟨fun v => ?_, ?_, rfl, ?_, ?_⟩, k3.1⟩
  · rw [wt_of, wt_of]
    split
    · rename_i h
      have := (k1 v h).1
      omega
    · exact Int.le_refl _
  · show (first' : Int) ≤ (first : Int); omega
  · show (fl : Int) ≤ (fl' : Int); omega
  · show (ju : Int) ≤ (ju' : Int); omega
/-- the meter that a plain form's turn gives -/
def MkT (P : Program) (w : World) (K : PySem.W.Frag) (M1 M2 : Mt) (i : Nat) (y : V) (H : Hp) : Prop := ∃ m, y = .ref m ∧ MetAt P w K H m (if i = 0 then M1 else M2)
theorem MkT.mono {P : Program} {w : World} {K : PySem.W.Frag} {M1 M2 : Mt} : ∀ i y H H', Px H H' → MkT P w K M1 M2 i y H → MkT P w K M1 M2 i y H' := fun _ _ _ _ e ⟨m, h1, h2⟩ => ⟨m, h1, h2.px e⟩
theorem anyF (n : Nat) : (List.replicate n false).any id = false := by simp
/-- a shown list of prices -/
def ShT (z : Str) (M1 M2 : Mt) (i : Nat) (y : V) (H : Hp) : Prop := ∃ p, y = .ref p ∧ Ls H p ((List.range (z.cps.size + 1)).map fun j => V.int ((if i = 0 then M1 else M2).pr ((if i = 0 then M1 else M2).cn z j)))
theorem ShT.mono {z : Str} {M1 M2 : Mt} : ∀ i y H H', Px H H' → ShT z M1 M2 i y H → ShT z M1 M2 i y H' := fun _ _ _ _ e ⟨p, h1, h2⟩ => ⟨p, h1, h2.px e⟩
def pr_law (P : Program) (w : World) (K : PySem.W.Frag) : Pr := fun vs H Q => ∃ (a : Addr) (ns : List Int), vs = [.ref a] ∧ SqL K H a (ns.map V.int) ∧ ns.length ≤ 63 ∧ ∀ H', Q (.bl true) H'
theorem ok_law (T : Wd K mg base) {fd : FuncData} (F : FunD K "law" "law" (defArgs s_law) (defBody s_law) (defScope s_law) [] [] (He.ga K "law") fd) : FnOk P w K mg base CX0 12 (He.ga K "law") fd ["_law_script"] (pr_law P w K).sp := by
  refine ok_mk (N := N_law) F sc_law (fun vs H Q => by walk_at "len") fun cdv A outer s H vs Q E hr h => ?_
  refine ⟨_, (pss_gcons (ps_set (i := 1) sc_law.nd rfl (Or.inl rfl) (pe_R (ok_law_bag T) (hr.mono (by decide)) T.g__law_bag T.k_law_bag (pa_cons (pv 0) pa_nil))) (pss_gcons (ps_set (i := 2) sc_law.nd rfl (Or.inl rfl) (pe_R (ok_law_meter T) (hr.mono (by decide)) T.g__law_meter T.k_law_meter (pa_cons (pv 1) (pa_cons pe_int pa_nil)))) (pss_gcons (ps_set (i := 3) sc_law.nd rfl (Or.inl rfl) (pe_tup (pa_cons (pe_ix (ix_tup : IxR _ (rIxT K)) (pv 2) pe_int (fun _ _ => rfl)) (pa_cons (pe_ix (ix_tup : IxR _ (rIxT K)) (pv 2) pe_int (fun _ _ => rfl)) (pa_cons (pe_lst (pa_cons (pe_ix (ix_list : IxR _ (rIxL K)) (pe_ix (ix_tup : IxR _ (rIxT K)) (pv 2) pe_int (fun _ _ => rfl)) pe_int (fun _ _ => rfl)) pa_nil)) (pa_cons (pe_lst pa_nil) (pa_cons (pe_ix (ix_tup : IxR _ (rIxT K)) (pv 2) pe_int (fun _ _ => rfl)) (pa_cons (pe_ix (ix_tup : IxR _ (rIxT K)) (pv 2) pe_int (fun _ _ => rfl)) pa_nil)))))))) (pss_gcons (ps_set (i := 4) sc_law.nd rfl (Or.inl rfl) (pe_lst (pa_cons (pv 3) (pa_cons (pe_R (ok_law_dearer T) (hr.mono (by decide)) T.g__law_dearer T.k_law_dearer (pa_cons (pv 1) (pa_cons (pv 3) pa_nil))) pa_nil)))) (pss_gcons (ps_setLc (i := 5) (own := [("_law_one_plain", 12)]) rfl sc_law.nd rfl rfl (sw_true rfl rfl rfl (by decide +kernel)) (pi_listK (K := K) (pv 4)) (blkOk_by (own := [("_law_one_plain", 12)]) (N := N_law) (sc := defScope s_law) (by decide +kernel)) (fun _ _ _ _ _ => (pg_name (i := 12) sc_law.nd rfl (Or.inl rfl))) (fun _ _ _ _ _ => pts_nil) (fun _ _ _ _ _ => (pe_R (ok_law_made (P := P) (w := w) T) (hr.mono (by decide)) T.g__law_made T.k_law_made (pa_cons (pv 12) pa_nil)))) (pss_gcons (ps_set (i := 6) sc_law.nd rfl (Or.inl rfl) (pe_op op_add pe_int (pe_R (ok_law_draw T) (hr.mono (by decide)) T.g__law_draw T.k_law_draw (pa_cons (pv 1) (pa_cons pe_int pa_nil))))) (pss_cons (ps_if (pt_not (pt_val (pe_R (ok_never_dearer T) (hr.mono (by decide)) T.g_never_dearer T.k_never_dearer (pa_cons (pe_ix (ix_list : IxR _ (rIxL K)) (pv 5) pe_int (fun _ _ => rfl)) (pa_cons (pe_ix (ix_list : IxR _ (rIxL K)) (pv 5) pe_int (fun _ _ => rfl)) (pa_cons (pv 6) pa_nil)))))) (pss_one (ps_ret (pe_gh pe_bl))) pss_nil) (pss_gcons (ps_set (i := 7) sc_law.nd rfl (Or.inl rfl) (pe_R (ok_greatest_excess T) (hr.mono (by decide)) T.g_greatest_excess T.k_greatest_excess (pa_cons (pe_ix (ix_list : IxR _ (rIxL K)) (pv 5) pe_int (fun _ _ => rfl)) (pa_cons (pe_ix (ix_list : IxR _ (rIxL K)) (pv 5) pe_int (fun _ _ => rfl)) (pa_cons (pv 6) pa_nil))))) (pss_cons (ps_if (PW.pt (pw_or (pt_cmpR op_isN (pv 7) pe_non (nomark _)) (pw_or (pt_cmpR op_gt (pe_ix (ix_tup : IxR _ (rIxT K)) (pv 7) pe_int (fun _ _ => rfl)) pe_int (nomark _)) (pw_or1 (pt_cmpR op_lt (pe_ix (ix_tup : IxR _ (rIxT K)) (pv 7) pe_int (fun _ _ => rfl)) (pe_op op_sub (pe_ix (ix_tup : IxR _ (rIxT K)) (pe_ix (ix_list : IxR _ (rIxL K)) (pv 4) pe_int (fun _ _ => rfl)) pe_int (fun _ _ => rfl)) (pe_ix (ix_tup : IxR _ (rIxT K)) (pe_ix (ix_list : IxR _ (rIxL K)) (pv 4) pe_int (fun _ _ => rfl)) pe_int (fun _ _ => rfl))) (nomark _)))))) (pss_one (ps_ret (pe_gh pe_bl))) pss_nil) (pss_cons (ps_if (pt_not (pt_val (pe_R (ok_is_excess_amounts T) (hr.mono (by decide)) T.g_is_excess_amounts T.k_is_excess_amounts (pa_cons (pe_ix (ix_list : IxR _ (rIxL K)) (pv 5) pe_int (fun _ _ => rfl)) (pa_cons (pe_ix (ix_list : IxR _ (rIxL K)) (pv 5) pe_int (fun _ _ => rfl)) (pa_cons (pe_R (ok_excess_amounts T) (hr.mono (by decide)) T.g_excess_amounts T.k_excess_amounts (pa_cons (pe_ix (ix_list : IxR _ (rIxL K)) (pv 5) pe_int (fun _ _ => rfl)) (pa_cons (pe_ix (ix_list : IxR _ (rIxL K)) (pv 5) pe_int (fun _ _ => rfl)) (pa_cons (pv 6) pa_nil)))) (pa_cons (pe_ix (ix_tup : IxR _ (rIxT K)) (pv 7) pe_int (fun _ _ => rfl)) (pa_cons (pv 6) pa_nil)))))))) (pss_one (ps_ret (pe_gh pe_bl))) pss_nil) (Evl.pss_cut (ps_set (i := 8) sc_law.nd rfl (Or.inl rfl) (pe_R (ok_parting_trip T) (hr.mono (by decide)) T.g_parting_trip T.k_parting_trip (pa_cons (pe_ix (ix_list : IxR _ (rIxL K)) (pv 5) pe_int (fun _ _ => rfl)) (pa_cons (pe_ix (ix_list : IxR _ (rIxL K)) (pv 5) pe_int (fun _ _ => rfl)) (pa_cons (pv 6) pa_nil))))) (Evl.pss_cut (ps_if (PW.pt (pw_and (pt_cmpR op_notN (pv 8) pe_non (nomark _)) (pw_and1 (pt_cmpR op_ge (pe_CoK (ok_Meter_call T) (hr.mono (by decide)) T.co_Meter (pe_ix (ix_list : IxR _ (rIxL K)) (pv 5) pe_int (fun _ _ => rfl)) (pa_cons (pv 8) pa_nil)) (pe_CoK (ok_Meter_call T) (hr.mono (by decide)) T.co_Meter (pe_ix (ix_list : IxR _ (rIxL K)) (pv 5) pe_int (fun _ _ => rfl)) (pa_cons (pv 8) pa_nil)) (nomark _))))) (pss_one (ps_ret (pe_gh pe_bl))) pss_nil) (pss_cons (ps_for PassesOwn.never rfl (pi_range1 rfl T.f_range (pa_cons pe_int pa_nil)) (pg_name (i := 9) sc_law.nd rfl (Or.inl rfl)) (pss_gcons (ps_set (i := 10) sc_law.nd rfl (Or.inr rfl) (pe_R (ok_law_drawn_trip T) (hr.mono (by decide)) T.g__law_drawn_trip T.k_law_drawn_trip (pa_cons (pv 1) (pa_cons pe_int (pa_cons (pv 6) pa_nil))))) (pss_gcons (ps_set (i := 11) sc_law.nd rfl (Or.inr rfl) (pe_lc (own := [("_law_meter_here", 13)]) rfl sc_law.nd (pi_listK (K := K) (pv 5)) (blkOk_by (own := [("_law_meter_here", 13)]) (N := N_law) (sc := defScope s_law) (by decide +kernel)) (fun _ _ _ _ _ => (pg_name (i := 13) sc_law.nd rfl (Or.inl rfl))) (fun _ _ _ _ _ => pts_nil) (fun _ _ _ _ _ => (pe_M (ok_Meter_prices T) (hr.mono (by decide)) T.cls_Meter T.m_Meter_prices (pv 13) (pa_cons (pv 10) pa_nil))))) (pss_one (ps_if (pt_val (pe_callB (cr_any rfl) (by rfl) T.f_any (by decide +kernel) (pa_cons (pe_lc (own := [("_law_tick", 14)]) rfl sc_law.nd (pi_range1 rfl T.f_range (pa_cons (pe_op op_add (pe_callB call_len_str (by rfl) T.f_len (by decide +kernel) (pa_cons (pv 10) pa_nil)) pe_int) pa_nil)) (blkOk_by (own := [("_law_tick", 14)]) (N := N_law) (sc := defScope s_law) (by decide +kernel)) (fun _ _ _ _ _ => (pg_name (i := 14) sc_law.nd rfl (Or.inl rfl))) (fun _ _ _ _ _ => pts_nil) (fun _ _ _ _ _ => (pe_cmpR op_gt (pe_ix (ix_list : IxR _ (rIxL K)) (pe_ix (ix_list : IxR _ (rIxL K)) (pv 11) pe_int (fun _ _ => rfl)) (pv 14) (fun _ _ => rfl)) (pe_ix (ix_list : IxR _ (rIxL K)) (pe_ix (ix_list : IxR _ (rIxL K)) (pv 11) pe_int (fun _ _ => rfl)) (pv 14) (fun _ _ => rfl)) (nomark _)))) pa_nil))) (pss_one (ps_ret (pe_gh pe_bl))) pss_nil))))) (pss_one (ps_ret (pe_gh (pe_and (pe_R (ok_law_routes_right T) (hr.mono (by decide)) T.g__law_routes_right T.k_law_routes_right (pa_cons (pv 1) (pa_cons (pv 5) pa_nil))) (pe_one (pe_R (ok_law_hires_right T) (hr.mono (by decide)) T.g__law_hires_right T.k_law_hires_right (pa_cons (pv 1) (pa_cons (pv 5) (pa_cons (pv 6) pa_nil)))))))))))))))))))))), ?_⟩
  obtain ⟨a, ns, rfl, hS, hn, q⟩ := h
  have e62 : (2 : Int) ^ 62 = 4611686018427387904 := by decide
  walk_at "w"
  refine ⟨a, ns, rfl, hS, by omega, fun b H1 hb0 e1 b1 => .now ?_⟩
  walk_at "w"
  refine ⟨b1, fun v f first drop fl ju H2 s2 b2 pa => .now ?_⟩
  obtain ⟨⟨p, D, a0, rest, tr, rfl, hp, hD, hT⟩, hf, h1, h2, h3, h4⟩ := pa
  walk_at "w"
  refine ⟨_, _, _, _, rfl, rfl, sqT_of hp, rfl, ?_⟩
  walk_at "w"
  refine ⟨_, _, _, _, rfl, rfl, sqT_of hp, rfl, ?_⟩
  walk_at "w"
  refine ⟨_, _, _, _, rfl, rfl, sqT_of hp, rfl, ?_⟩
  walk_at "w"
  refine ⟨_, _, _, _, rfl, rfl, hD.sq, atI_nat (i := 0) rfl, ?_⟩
  walk_at "w"
  refine ⟨sz, fun D2 hD2 => ?_⟩
  have k3 := same_new hD2 (o := .lst [.ref a0])
  walk_at "w"
  refine ⟨sz, fun R2 hR2 => ?_⟩
  have k4 := k3.trans (same_new hR2 (o := .lst []))
  walk_at "w"
  refine ⟨_, _, _, _, rfl, rfl, sqT_of (k4 _ _ hp), rfl, ?_⟩
  walk_at "w"
  refine ⟨_, _, _, _, rfl, rfl, sqT_of (k4 _ _ hp), rfl, ?_⟩
  walk_at "w"
  refine ⟨sz, fun p2 hp2 => ?_⟩
  refine mk_planB hT hD2 hR2 hp2 fun H3 e3 pl hp3 => ?_
  clear k3 k4
  have s3 := s2.trans (SB.of e3)
  have b3 := b2.same e3
  walk_at "w"
  refine ⟨b, .ref p2, f, first, drop, fl, ju, rfl, b3, pl, hf, h1.2, h2.2, h3, h4.2, fun v2 f2 first2 fl2 ju2 H4 s4 b4 pl2 dz => ?_⟩
  have px4 := SB.px b3 s4
  obtain ⟨q1, q2, q3, q4⟩ := dz.ok hf h1 h2 h3 h4
  have hf60 : ∀ j, j < 10 → f j ≤ 60 := fun j hj => by have := hf j hj; omega
  have q5 := mt_ok hf60 h1 h2 h3 h4
  obtain ⟨p3, D3, a3, R3, rfl, hp4, _⟩ := id pl2
  walk_at "w"
  refine ⟨sz, fun PL hPL => ?_⟩
  refine .frz upd_same True.intro fun oP => .now ?_
  have k5 : Same H4 (upd (upd H4 PL (.lst [.ref p2, .ref p3])) PL (.frz oP (.lst [.ref p2, .ref p3]))) := same_mut (same_new hPL) hPL
  have hL5 : Ls (upd (upd H4 PL (.lst [.ref p2, .ref p3])) PL (.frz oP (.lst [.ref p2, .ref p3]))) PL [.ref p2, .ref p3] := Ls.mk'
  show tSeqG _ _ _ _ (upd (upd H4 PL (.lst [.ref p2, .ref p3])) PL (.frz oP (.lst [.ref p2, .ref p3])))
  generalize upd (upd H4 PL (.lst [.ref p2, .ref p3])) PL (.frz oP (.lst [.ref p2, .ref p3])) = H5 at k5 hL5 ⊢
  have p5 := Px.of _ _ k5
  have b5 := b4.same k5
  have pl := (pl.px px4).px p5
  have pl2 := pl2.px p5
  have hp3 := k5 _ _ (px4 _ _ hp3 True.intro)
  have hp4 := k5 _ _ hp4
  walk_at "w"
  refine ⟨⟨_, hL5.sq⟩, fun MA hMA => ?_⟩
  refine lc_rel 2 (MkT P w K (mtOf f first drop fl ju) (mtOf f2 first2 drop fl2 ju2)) hMA (fun i H' hi c => ?_) fun acc H6 hac e6 hq hR => ⟨⟨_, (hL5.px (.of _ _ e6)).sq, by simp⟩, ?_⟩
  · have pc := c.px
    refine ⟨itl_go (hL5.px pc).sq hi, fun y H'' hy => ?_⟩
    obtain ⟨rfl, hy⟩ := hy
    have hy := hy _ (hL5.px pc).sq
    refine ⟨rfl, ?_⟩
    obtain rfl | rfl : i = 0 ∨ i = 1 := by omega
    · obtain rfl : V.ref p2 = y := Option.some.inj hy
      walk_at "w"
      exact ⟨.ref p2, f, first, drop, fl, ju, rfl, pl.px pc, hf60, q5, fun m H4 e4 hm => CR.fin MkT.mono c (by omega) e4 ⟨m, rfl, hm⟩⟩
    · obtain rfl : V.ref p3 = y := Option.some.inj hy
      walk_at "w"
      exact ⟨.ref p3, f2, first2, drop, fl2, ju2, rfl, pl2.px pc, q1, q2, fun m H4 e4 hm => CR.fin MkT.mono c (by omega) e4 ⟨m, rfl, hm⟩⟩
  obtain ⟨y1, y2, rfl⟩ : ∃ y1 y2, acc = [y1, y2] := by
    match acc, hac with
    | [y1, y2], _ => exact ⟨y1, y2, rfl⟩
  obtain ⟨m1, rfl, hm1⟩ := hR 0 y1 rfl
  obtain ⟨m2, rfl, hm2⟩ := hR 1 y2 rfl
  have hm1 : MetAt P w K H6 m1 (mtOf f first drop fl ju) := hm1
  have hm2 : MetAt P w K H6 m2 (mtOf f2 first2 drop fl2 ju2) := hm2
  refine .frz hq True.intro fun ob => .now ?_
  have px7 : Px H6 (upd H6 MA (.frz ob (.lst [.ref m1, .ref m2]))) := Px.mut hq fun z => z
  have e7 : Same H5 (upd H6 MA (.frz ob (.lst [.ref m1, .ref m2]))) := same_mut e6 hMA
  have hMA7 : Ls (upd H6 MA (.frz ob (.lst [.ref m1, .ref m2]))) MA [.ref m1, .ref m2] := Ls.mk'
  show tSeqG _ _ _ _ (upd H6 MA (.frz ob (.lst [.ref m1, .ref m2])))
  generalize upd H6 MA (.frz ob (.lst [.ref m1, .ref m2])) = H7 at px7 e7 hMA7 ⊢
  have hk1 := hm1.px px7
  have hk2 := hm2.px px7
  have b7 := b5.same e7
  have hL7 := hL5.px (Px.of _ _ e7)
  have hk3 := e7 _ _ hp3
  have hk4 := e7 _ _ hp4
  clear hR hq hMA e6 px7 k5 p5 hPL hL5 e7
  have g1 : ((mtOf f first drop fl ju).flag) = (fl : Int) := rfl
  have g2 : ((mtOf f2 first2 drop fl2 ju2).flag) = (fl2 : Int) := rfl
  generalize mtOf f first drop fl ju = M1 at *
  generalize mtOf f2 first2 drop fl2 ju2 = M2 at *
  walk_at "w"
  refine ⟨b, 9, rfl, b7, by decide, by decide, fun d H8 s8 b8 hd0 hd1 => ?_⟩
  obtain ⟨d, rfl⟩ := Int.eq_ofNat_of_zero_le hd0
  have px8 := SB.px b7 s8
  walk_at "w"
  generalize hv2 : (fun i j => V.int (i + j)) _ _ = tv
  obtain rfl : tv = V.int ((1 + d : Nat) : Int) := by
    rw [← hv2]
    show V.int (1 + (d : Int)) = _
    exact congrArg V.int (by omega)
  clear hv2
  have htop : 1 + d ≤ 9 := by omega
  generalize 1 + d = top at htop ⊢
  clear hd0 hd1
  have hma := hMA7.px px8
  have hm1 := hk1.px px8
  have hm2 := hk2.px px8
  have hL8 := hL7.px px8
  have hp3 := px8 _ _ hk3 True.intro
  have hp4 := px8 _ _ hk4 True.intro
  have cok : (⟨M1, M2, top⟩ : W2).Ok := ⟨q5, q2, htop⟩
  refine ⟨_, _, _, _, rfl, rfl, hma.sq, rfl, ?_⟩
  walk_at "w"
  refine ⟨_, _, _, _, rfl, rfl, hma.sq, rfl, ?_⟩
  walk_at "w"
  refine ⟨m1, m2, ⟨M1, M2, top⟩, rfl, cok, q3, hm1, hm2, fun H9 e9 => ?_⟩
  walk_at "w"
  have p9 := Px.of _ _ e9
  refine ⟨_, _, _, _, rfl, rfl, (hma.px p9).sq, rfl, ?_⟩
  walk_at "w"
  refine ⟨_, _, _, _, rfl, rfl, (hma.px p9).sq, rfl, ?_⟩
  walk_at "w"
  refine ⟨m1, m2, ⟨M1, M2, top⟩, rfl, cok, q3, hm1.px p9, hm2.px p9, fun tt H10 z0 e10 htt => .now ?_⟩
  have e910 := e9.trans e10
  have b10 := b8.same e910
  have p10 := Px.of _ _ e910
  have hma := hma.px p10
  have hm1 := hm1.px p10
  have hm2 := hm2.px p10
  have hL10 := hL8.px p10
  have hp3 := p10 _ _ hp3 True.intro
  have hp4 := p10 _ _ hp4 True.intro
  clear e9 e10 p9 e910 p10
  have htt : H10 tt = some (.tup [.int ((fl : Int) - (fl2 : Int)), .str z0]) := by
    rw [← g1, ← g2]; exact htt
  walk_at "w"
  refine ⟨_, _, _, _, rfl, rfl, sqT_of htt, rfl, ?_⟩
  walk_at "w"
  refine iF (dF (by omega)) ?_
  walk_at "w"
  refine ⟨_, _, _, _, rfl, rfl, sqT_of htt, rfl, ?_⟩
  walk_at "w"
  refine ⟨_, _, _, _, rfl, rfl, hL10.sq, rfl, ?_⟩
  walk_at "w"
  refine ⟨_, _, _, _, rfl, rfl, sqT_of hp3, rfl, ?_⟩
  walk_at "w"
  refine ⟨_, _, _, _, rfl, rfl, hL10.sq, rfl, ?_⟩
  walk_at "w"
  refine ⟨_, _, _, _, rfl, rfl, sqT_of hp4, rfl, ?_⟩
  walk_at "w"
  refine iF (dF (by omega)) ?_
  walk_at "w"
  refine ⟨_, _, _, _, rfl, rfl, hma.sq, rfl, ?_⟩
  walk_at "w"
  refine ⟨_, _, _, _, rfl, rfl, hma.sq, rfl, ?_⟩
  walk_at "w"
  refine ⟨_, _, _, _, rfl, rfl, hma.sq, rfl, ?_⟩
  walk_at "w"
  refine ⟨_, _, _, _, rfl, rfl, hma.sq, rfl, ?_⟩
  walk_at "w"
  refine ⟨m1, m2, ⟨M1, M2, top⟩, rfl, cok, q3, hm1, hm2, fun DA H11 am e11 hAD => ?_⟩
  have p11 := Px.of _ _ e11
  walk_at "w"
  refine ⟨_, _, _, _, rfl, rfl, sqT_of (e11 _ _ htt), rfl, ?_⟩
  walk_at "w"
  rw [← g1, ← g2]
  refine ⟨m1, m2, DA, ⟨M1, M2, top⟩, am, rfl, cok, hm1.px p11, hm2.px p11, hAD, fun H12 e12 => ?_⟩
  have e1112 := e11.trans e12
  have p12 := Px.of _ _ e1112
  have b12 := b10.same e1112
  have hma := hma.px p12
  have hm1 := hm1.px p12
  have hm2 := hm2.px p12
  walk_at "w"
  refine iF rfl ?_
  have i12 : ∀ {H'}, Same H12 H' → (∃ dx fs, H' m1 = some (.ins (He.ga K "Meter") dx fs)) ∧ ∃ dx fs, H' m2 = some (.ins (He.ga K "Meter") dx fs) := fun e => by
    obtain ⟨ad1, ⟨_, d1, _, _, _, _, i1, _⟩, _⟩ := hm1
    obtain ⟨ad2, ⟨_, d2, _, _, _, _, i2, _⟩, _⟩ := hm2
    exact ⟨⟨_, _, e _ _ i1⟩, _, _, e _ _ i2⟩
  refine ⟨fun σ' H' => ∃ pv : V, σ' = [some (.ref a), some (.ref b), some (.ref p), some (.ref p2), some (.ref PL), some (.ref MA), some (.int top), some (.ref tt), some pv, none, none, none, none, none, none] ∧ Same H12 H' ∧ (pv = .non ∨ ∃ z ds, pv = .str z ∧ Tz z ds ∧ ds.length ≤ 2000 ∧ M1.pr (M1.cnt ds) < M2.pr (M2.cnt ds)), ?_, ?_⟩
  · walk_at "w"
    refine ⟨_, _, _, _, rfl, rfl, hma.sq, rfl, ?_⟩
    walk_at "w"
    refine ⟨_, _, _, _, rfl, rfl, hma.sq, rfl, ?_⟩
    walk_at "w"
    refine ⟨m1, m2, ⟨M1, M2, top⟩, rfl, cok, q3, hm1, hm2, fun H' e => ⟨_, rfl, e, .inl rfl⟩, fun z ds H' e tz hl hlt => ⟨_, rfl, e, .inr ⟨z, ds, rfl, tz, hl, hlt⟩⟩⟩
  rintro σ H13 ⟨pv, rfl, e13, hpv⟩
  refine ⟨fun σ' H' => σ' = [some (.ref a), some (.ref b), some (.ref p), some (.ref p2), some (.ref PL), some (.ref MA), some (.int top), some (.ref tt), some pv, none, none, none, none, none, none] ∧ Same H12 H', ?_, ?_⟩
  · have p13 := Px.of _ _ e13
    rcases hpv with rfl | ⟨z, ds, rfl, tz, hdl, hlt⟩
    · walk_at "w"
      exact e13
    · walk_at "w"
      refine ⟨_, _, _, _, rfl, rfl, (hma.px p13).sq, rfl, ?_⟩
      walk_at "w"
      obtain ⟨ad1, mi1, _⟩ := id hm1
      obtain ⟨ad2, mi2, _⟩ := id hm2
      refine ⟨(i12 e13).1, m1, ad1, M1, z, rfl, mi1.px p13, tz.dig hdl, fun H14 e14 => ?_⟩
      have e1314 := e13.trans e14
      have p14 := Px.of _ _ e1314
      rw [tz.dgs]
      walk_at "w"
      refine ⟨_, _, _, _, rfl, rfl, (hma.px p14).sq, rfl, ?_⟩
      walk_at "w"
      refine ⟨(i12 e1314).2, m2, ad2, M2, z, rfl, mi2.px p14, tz.dig hdl, fun H15 e15 => ?_⟩
      rw [tz.dgs]
      walk_at "w"
      refine iF (dF (by omega)) ?_
      walk_at "w"
      exact e1314.trans e15
  clear hpv e13
  rintro σ H13 ⟨rfl, e13⟩
  have b13 := b12.same e13
  have p13 := Px.of _ _ e13
  have hma := hma.px p13
  have hm1 := hm1.px p13
  have hm2 := hm2.px p13
  clear i12 p12 e1112 e12 hAD p11 e11
  walk_at "w"
  refine ⟨by decide, by decide, ?_⟩
  refine for_go 4 (fun i σ H' => ∃ (s9 s10 s11 : Option V), σ = [some (.ref a), some (.ref b), some (.ref p), some (.ref p2), some (.ref PL), some (.ref MA), some (.int top), some (.ref tt), some pv, s9, s10, s11, none, none, none] ∧ SB b H13 H' ∧ BagAt H' b) ⟨_, _, _, rfl, SB.refl _ _, b13⟩ ?_ ?_
  · rintro i σ H14 hi ⟨s9, s10, s11, rfl, s14, b14⟩
    refine ⟨hi, fun x H'' hx => ?_⟩
    obtain ⟨rfl, rfl⟩ := hx
    walk_at "w"
    refine ⟨b, 20, top, rfl, b14, by decide, htop, fun z ds H15 s15 b15 tz hdl hv => .now ?_⟩
    have s1315 := s14.trans s15
    have p15 := SB.px b13 s1315
    have hma := hma.px p15
    obtain ⟨ad1, mi1, _⟩ := hm1.px p15
    obtain ⟨ad2, mi2, _⟩ := hm2.px p15
    obtain ⟨_, d1, _, _, _, _, i1, _⟩ := id mi1
    obtain ⟨_, d2, _, _, _, _, i2, _⟩ := id mi2
    have hz := tz.len
    walk_at "w"
    refine ⟨⟨_, hma.sq⟩, fun SD hSD => ?_⟩
    refine lc_rel 2 (ShT z M1 M2) hSD (fun k H' hk c => ?_) fun acc H16 hac e16 hq hR => ⟨⟨_, (hma.px (.of _ _ e16)).sq, by simp⟩, ?_⟩
    · have pc := c.px
      refine ⟨itl_go (hma.px pc).sq hk, fun y H'' hy => ?_⟩
      obtain ⟨rfl, hy⟩ := hy
      have hy := hy _ (hma.px pc).sq
      refine ⟨rfl, ?_⟩
      obtain rfl | rfl : k = 0 ∨ k = 1 := by omega
      · obtain rfl : V.ref m1 = y := Option.some.inj hy
        refine ⟨_, rfl, m1, _, _, rfl, pc _ _ i1 True.intro, rfl, ?_⟩
        walk_at "w"
        exact ⟨m1, ad1, M1, z, rfl, mi1.px pc, tz.dig (by omega), fun q H4 _ e4 hm => CR.fin ShT.mono c (by omega) e4 ⟨q, rfl, hm⟩⟩
      · obtain rfl : V.ref m2 = y := Option.some.inj hy
        refine ⟨_, rfl, m2, _, _, rfl, pc _ _ i2 True.intro, rfl, ?_⟩
        walk_at "w"
        exact ⟨m2, ad2, M2, z, rfl, mi2.px pc, tz.dig (by omega), fun q H4 _ e4 hm => CR.fin ShT.mono c (by omega) e4 ⟨q, rfl, hm⟩⟩
    obtain ⟨y1, y2, rfl⟩ : ∃ y1 y2, acc = [y1, y2] := by
      match acc, hac with
      | [y1, y2], _ => exact ⟨y1, y2, rfl⟩
    obtain ⟨l1, rfl, hl1⟩ := hR 0 y1 rfl
    obtain ⟨l2, rfl, hl2⟩ := hR 1 y2 rfl
    refine .frz hq True.intro fun oS => .now ?_
    have px17 : Px H16 (upd H16 SD (.frz oS (.lst [.ref l1, .ref l2]))) := Px.mut hq fun z => z
    have e17 : Same H15 (upd H16 SD (.frz oS (.lst [.ref l1, .ref l2]))) := same_mut e16 hSD
    have hS17 : Ls (upd H16 SD (.frz oS (.lst [.ref l1, .ref l2]))) SD [.ref l1, .ref l2] := Ls.mk'
    show tIfS _ _ _ _ _ (upd H16 SD (.frz oS (.lst [.ref l1, .ref l2])))
    generalize upd H16 SD (.frz oS (.lst [.ref l1, .ref l2])) = H17 at px17 e17 hS17 ⊢
    have hl1 : Ls H17 l1 ((List.range (z.cps.size + 1)).map fun j => V.int (M1.pr (M1.cn z j))) := hl1.px px17
    have hl2 : Ls H17 l2 ((List.range (z.cps.size + 1)).map fun j => V.int (M2.pr (M2.cn z j))) := hl2.px px17
    walk_at "w"
    refine ⟨szl (by omega), ?_⟩
    walk_at "w"
    refine ⟨by rw [e62]; omega, by rw [e62]; omega, fun D2 hD2 => ?_⟩
    rw [show (((z.length : Nat) : Int) + 1).toNat = z.length + 1 by omega]
    refine lc_map ((List.replicate (z.length + 1) false).map V.bl) hD2 (fun k H' hk c => ?_) fun H18 e18 hq2 => ⟨by simp [Itr], ?_⟩
    · have hk' : k < z.length + 1 := by simpa using hk
      have hk2 : k < z.cps.size + 1 := hk'
      refine ⟨hk', fun x H'' hx => ?_⟩
      obtain ⟨rfl, rfl⟩ := hx
      rw [Int.zero_add (k : Int)]
      refine ⟨rfl, ?_⟩
      have pc := c.px
      walk_at "w"
      refine ⟨_, _, _, _, rfl, rfl, (hS17.px pc).sq, rfl, ?_⟩
      walk_at "w"
      refine ⟨_, _, _, _, rfl, rfl, (hl1.px pc).sq, atI_rng _ hk2, ?_⟩
      walk_at "w"
      refine ⟨_, _, _, _, rfl, rfl, (hS17.px pc).sq, rfl, ?_⟩
      walk_at "w"
      refine ⟨_, _, _, _, rfl, rfl, (hl2.px pc).sq, atI_rng _ hk2, ?_⟩
      refine ⟨_, _, rfl, rfl, ?_⟩
      have hle : M1.pr (M1.cn z k) ≤ M2.pr (M2.cn z k) := q3.pr q5 q2 (q3.cnt _)
      show ∃ acc, H'' D2 = some (.lst acc) ∧ acc.length < sizeLine ∧ CR D2 H17 (Rz ((List.replicate (z.length + 1) false).map V.bl)) (k + 1) (upd H'' D2 (.lst (acc ++ [V.bl (decide (M2.pr (M2.cn z k) < M1.pr (M1.cn z k)))])))
      rw [dF (show ¬ M2.pr (M2.cn z k) < M1.pr (M1.cn z k) by omega)]
      exact CR.fin Rz.mono c (by omega) (Same.refl _) (rz_rep hk')
    walk_at "w"
    refine ⟨_, _, rfl, sqL_of hq2, ?_⟩
    walk_at "w"
    rw [anyF]
    refine iF rfl ?_
    have e1518 := e17.trans e18
    exact ⟨_, _, _, rfl, s1315.trans (SB.of e1518), b15.same e1518⟩
  · rintro σ H14 ⟨s9, s10, s11, rfl, s14, b14⟩
    refine ⟨Nat.le_refl _, ?_⟩
    have p14 := SB.px b13 s14
    walk_at "w"
    refine ⟨b, MA, M1, M2, rfl, b14, ⟨m1, m2, hma.px p14, hm1.px p14, hm2.px p14⟩, q5, q2, q3, fun H15 s15 b15 => ?_⟩
    have p15 := p14.trans (SB.px b14 s15)
    walk_at "w"
    exact ⟨b, MA, M1, M2, top, rfl, b15, ⟨m1, m2, hma.px p15, hm1.px p15, hm2.px p15⟩, q5, q2, q3, htop, fun H16 _ _ => .now (q _)⟩
end Cab
set_option Elab.async false
set_option linter.all false
set_option maxRecDepth 100000
set_option maxHeartbeats 0
namespace Cab
open PySem PySem.Spec PyProof.Rows L2
theorem facts {P : Program} {w : World} {K : PySem.W.Frag} {h : Heap} {mg : Str → Option Value} {f : Addr} (X : K.In h) (G : h.Ns mainGlobals mg) (hfa : mg ("law" : Str) = some (.ref f)) (c : Says K) :
    ∃ fd : FuncData, (∀ (s : Shared) (v : Value), BindsTo s fd ⟨[v], []⟩ [("_law_script", v)]) ∧ ∀ base : Heap, K.In base → base.Ns mainGlobals mg → FnOk P w K mg base CX0 12 f fd ["_law_script"] (pr_law P w K).sp := by
  have T : Wd K mg h := ⟨c, X, G⟩
  obtain ⟨fd, F0⟩ := T.fdef 46 (d := d_law)
  have F : FunD K "law" "law" (defArgs s_law) (defBody s_law) (defScope s_law) [] [] (He.ga K "law") fd := F0
  have e := hfa.symm.trans T.g_law
  cases e
  have b := FunD.bindsA (ps := ["_law_script"]) F fun _ _ _ _ _ _ us hl => match us, hl with | [_], _ => rfl
  exact ⟨fd, fun s v => b s [v] rfl, fun base hb1 hb2 => ok_law ⟨c, hb1, hb2⟩ F⟩
end Cab
open PySem PySem.W PySem.Calls PyProof.Rows
set_option Elab.async false
set_option maxRecDepth 100000 in
set_option maxHeartbeats 0 in
theorem PySem.Challenge.cw_cabmeters_k89_whole_dearer_meters_holds : PySem.Challenge.rw_cabmeters_k89_whole_dearer_meters.Holds := by
  w_on; o_law
  refine HandSHeadRun.head_any (r := OpenLaw.row PySem.Challenge.rw_cabmeters_k89_whole_dearer_meters) (q := Cab.qv) (H := Cab.hk) (ob := Cab.ob) (M := 12000) (loose := Cab.nmL) (d := HandSHeadRun.topDef (OpenLaw.row PySem.Challenge.rw_cabmeters_k89_whole_dearer_meters).prog 91) (kwd := []) Cab.ob_eq
    (by kernel_rfl) (fun s => by kernel_rfl) Cab.run (by kernel_rfl) (by kernel_rfl) (by kernel_rfl) (by rfl) (by first | assumption | decide +kernel) (by decide +kernel) ⟨rfl, rfl, rfl, rfl, rfl, by decide +kernel⟩ ?hw ?hc
  case hw => w_witness2
  case hc =>
    refine L2.walk_ofE (l := PySem.Challenge.rw_cabmeters_k89_whole_dearer_meters) (n := 63) (k := 12) (x := "_law_script") (CX := L2.CX0) rfl (by decide) (by kernel_rfl) ⟨rfl, by decide, by decide⟩ ?F (fun _ _ _ _ z => z)
    intro w mg fa h Y G hmg0
    obtain ⟨K, KX, c⟩ := Y
    have hmg : mg ("law" : PySem.Str) = some (.ref fa) := by
      have e : (HandSHeadRun.topDef (OpenLaw.row PySem.Challenge.rw_cabmeters_k89_whole_dearer_meters).prog 91).name = ("law" : PySem.Str) := by kernel_rfl
      rw [← e]
      exact hmg0
    obtain ⟨fd, hb, hF⟩ := Cab.facts (P := (PySem.Challenge.rw_cabmeters_k89_whole_dearer_meters).prog) (w := w) KX G hmg c
    exact ⟨K, fd, (Cab.pr_law _ w K).sp, KX, hb, fun H a ns hl _ hS => ⟨a, ns, rfl, hS, hl, fun _ => rfl⟩, hF⟩
