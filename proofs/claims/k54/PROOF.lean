import PyProof.Rows.All
import Wide.All
import OpenK.AllK
import Wide.FinOn
import PySem.Challenge.RW_surewire_k54_whole_nothing_lies_longer
import HandS.ForMost
import HandS.Evl
import HandS.Conv
import HandS.Zip
import HandS.SortRule
import HandS.Sort
import HandS.Deep
import HandS.IsInst
import HandS.Wide
import HandS.WideBits
import HandS.TupAny
import HandS.Defaults
import HandS.HeadEnd
import HandS.Exc
import HandS.HeadHook1
import HandS.HeadHook2
import HandS.Head0
import HandS.Head1
import HandS.Head2
import HandS.More
set_option Elab.async false
set_option linter.all false
set_option maxRecDepth 100000
set_option maxHeartbeats 4000000
/-! The text by places; the facts of the head by names; calls by names. Printed by gen.py. -/
namespace K54
open PySem PySem.Spec PyProof.Rows L2
abbrev RW : PySem.W.OpenLaw := PySem.Challenge.rw_surewire_k54_whole_nothing_lies_longer
def top (i : Nat) : Stmt := PySem.Challenge.pw_surewire_k54_whole_nothing_lies_longer.main.body.getD i (.Pass ⟨0, 0, 0, 0⟩)
abbrev s_is_whole : Stmt := top 9
abbrev sn_is_whole : List Str := ["thing", "least", "most"]
theorem sc_is_whole : FnScope sn_is_whole ["thing", "least", "most"] (defScope s_is_whole) := ⟨rfl, rfl, rfl, by decide +kernel, rfl, by decide +kernel, by decide +kernel⟩
abbrev s_is_bits : Stmt := top 10
abbrev sn_is_bits : List Str := ["thing", "bit"]
theorem sc_is_bits : FnScope sn_is_bits ["thing"] (defScope s_is_bits) := ⟨rfl, rfl, rfl, by decide +kernel, rfl, by decide +kernel, by decide +kernel⟩
abbrev s_spread : Stmt := top 11
abbrev sn_spread : List Str := ["number", "many", "place"]
theorem sc_spread : FnScope sn_spread ["number", "many"] (defScope s_spread) := ⟨rfl, rfl, rfl, by decide +kernel, rfl, by decide +kernel, by decide +kernel⟩
abbrev s_gathered : Stmt := top 12
abbrev sn_gathered : List Str := ["bits", "number", "bit"]
theorem sc_gathered : FnScope sn_gathered ["bits"] (defScope s_gathered) := ⟨rfl, rfl, rfl, by decide +kernel, rfl, by decide +kernel, by decide +kernel⟩
abbrev s_bits_by : Stmt := top 13
abbrev sn_bits_by : List Str := ["number", "many"]
theorem sc_bits_by : FnScope sn_bits_by ["number", "many"] (defScope s_bits_by) := ⟨rfl, rfl, rfl, by decide +kernel, rfl, by decide +kernel, by decide +kernel⟩
abbrev s_number_of : Stmt := top 14
abbrev sn_number_of : List Str := ["bits"]
theorem sc_number_of : FnScope sn_number_of ["bits"] (defScope s_number_of) := ⟨rfl, rfl, rfl, by decide +kernel, rfl, by decide +kernel, by decide +kernel⟩
abbrev s_need_code : Stmt := top 18
abbrev sn_need_code : List Str := ["code"]
theorem sc_need_code : FnScope sn_need_code ["code"] (defScope s_need_code) := ⟨rfl, rfl, rfl, by decide +kernel, rfl, by decide +kernel, by decide +kernel⟩
abbrev s_width : Stmt := top 19
abbrev sn_width : List Str := ["code"]
theorem sc_width : FnScope sn_width ["code"] (defScope s_width) := ⟨rfl, rfl, rfl, by decide +kernel, rfl, by decide +kernel, by decide +kernel⟩
abbrev s_divided : Stmt := top 20
abbrev sn_divided : List Str := ["number", "code", "many"]
theorem sc_divided : FnScope sn_divided ["number", "code"] (defScope s_divided) := ⟨rfl, rfl, rfl, by decide +kernel, rfl, by decide +kernel, by decide +kernel⟩
abbrev s_number_by : Stmt := top 21
abbrev sn_number_by : List Str := ["bits"]
theorem sc_number_by : FnScope sn_number_by ["bits"] (defScope s_number_by) := ⟨rfl, rfl, rfl, by decide +kernel, rfl, by decide +kernel, by decide +kernel⟩
abbrev s_coded : Stmt := top 22
abbrev sn_coded : List Str := ["bits", "code", "many"]
theorem sc_coded : FnScope sn_coded ["bits", "code"] (defScope s_coded) := ⟨rfl, rfl, rfl, by decide +kernel, rfl, by decide +kernel, by decide +kernel⟩
abbrev s_is_right : Stmt := top 23
abbrev sn_is_right : List Str := ["bits", "code"]
theorem sc_is_right : FnScope sn_is_right ["bits", "code"] (defScope s_is_right) := ⟨rfl, rfl, rfl, by decide +kernel, rfl, by decide +kernel, by decide +kernel⟩
abbrev s_is_number_packets : Stmt := top 33
abbrev sn_is_number_packets : List Str := ["thing", "most"]
theorem sc_is_number_packets : FnScope sn_is_number_packets ["thing", "most"] (defScope s_is_number_packets) := ⟨rfl, rfl, rfl, by decide +kernel, rfl, by decide +kernel, by decide +kernel⟩
abbrev s_are_bytes : Stmt := top 35
abbrev sn_are_bytes : List Str := ["thing", "most", "byte"]
theorem sc_are_bytes : FnScope sn_are_bytes ["thing", "most"] (defScope s_are_bytes) := ⟨rfl, rfl, rfl, by decide +kernel, rfl, by decide +kernel, by decide +kernel⟩
abbrev s_two : Stmt := top 36
abbrev sn_two : List Str := ["number"]
theorem sc_two : FnScope sn_two ["number"] (defScope s_two) := ⟨rfl, rfl, rfl, by decide +kernel, rfl, by decide +kernel, by decide +kernel⟩
abbrev s_of_two : Stmt := top 37
abbrev sn_of_two : List Str := ["row", "place"]
theorem sc_of_two : FnScope sn_of_two ["row", "place"] (defScope s_of_two) := ⟨rfl, rfl, rfl, by decide +kernel, rfl, by decide +kernel, by decide +kernel⟩
abbrev s_sum_of : Stmt := top 38
abbrev sn_sum_of : List Str := ["head", "total", "place"]
theorem sc_sum_of : FnScope sn_sum_of ["head"] (defScope s_sum_of) := ⟨rfl, rfl, rfl, by decide +kernel, rfl, by decide +kernel, by decide +kernel⟩
abbrev s_Packet_init : Stmt := inClass (top 39) 0
abbrev sn_Packet_init : List Str := ["self", "source", "target", "kind", "life", "name", "first", "more", "data", "thing"]
theorem sc_Packet_init : FnScope sn_Packet_init ["self", "source", "target", "kind", "life", "name", "first", "more", "data"] (defScope s_Packet_init) := ⟨rfl, rfl, rfl, by decide +kernel, rfl, by decide +kernel, by decide +kernel⟩
abbrev s_Packet_told : Stmt := inClass (top 39) 1
abbrev sn_Packet_told : List Str := ["self", "ends"]
theorem sc_Packet_told : FnScope sn_Packet_told ["self"] (defScope s_Packet_told) := ⟨rfl, rfl, rfl, by decide +kernel, rfl, by decide +kernel, by decide +kernel⟩
abbrev s_packet_bytes : Stmt := top 40
abbrev sn_packet_bytes : List Str := ["packet", "head"]
theorem sc_packet_bytes : FnScope sn_packet_bytes ["packet"] (defScope s_packet_bytes) := ⟨rfl, rfl, rfl, by decide +kernel, rfl, by decide +kernel, by decide +kernel⟩
abbrev s_packet_by : Stmt := top 41
abbrev sn_packet_by : List Str := ["thing", "name", "first"]
theorem sc_packet_by : FnScope sn_packet_by ["thing"] (defScope s_packet_by) := ⟨rfl, rfl, rfl, by decide +kernel, rfl, by decide +kernel, by decide +kernel⟩
abbrev s_is_place : Stmt := top 45
abbrev sn_is_place : List Str := ["thing"]
theorem sc_is_place : FnScope sn_is_place ["thing"] (defScope s_is_place) := ⟨rfl, rfl, rfl, by decide +kernel, rfl, by decide +kernel, by decide +kernel⟩
abbrev s_is_other : Stmt := top 46
abbrev sn_is_other : List Str := ["thing", "place", "table"]
theorem sc_is_other : FnScope sn_is_other ["thing", "place", "table"] (defScope s_is_other) := ⟨rfl, rfl, rfl, by decide +kernel, rfl, by decide +kernel, by decide +kernel⟩
abbrev s_are_ways : Stmt := top 47
abbrev sn_are_ways : List Str := ["thing", "place", "table", "target", "neighbour"]
theorem sc_are_ways : FnScope sn_are_ways ["thing", "place", "table"] (defScope s_are_ways) := ⟨rfl, rfl, rfl, by decide +kernel, rfl, by decide +kernel, by decide +kernel⟩
abbrev s_need_table : Stmt := top 48
abbrev sn_need_table : List Str := ["thing", "place", "ways"]
theorem sc_need_table : FnScope sn_need_table ["thing"] (defScope s_need_table) := ⟨rfl, rfl, rfl, by decide +kernel, rfl, by decide +kernel, by decide +kernel⟩
abbrev s_led : Stmt := top 49
abbrev sn_led : List Str := ["table", "place", "target", "found", "neighbour", "places", "least"]
theorem sc_led : FnScope sn_led ["table", "place", "target"] (defScope s_led) := ⟨rfl, rfl, rfl, by decide +kernel, rfl, by decide +kernel, by decide +kernel⟩
abbrev s_way : Stmt := top 50
abbrev sn_way : List Str := ["table", "place", "target", "thing"]
theorem sc_way : FnScope sn_way ["table", "place", "target"] (defScope s_way) := ⟨rfl, rfl, rfl, by decide +kernel, rfl, by decide +kernel, by decide +kernel⟩
abbrev s_is_number_nets : Stmt := top 54
abbrev sn_is_number_nets : List Str := ["thing", "least", "most"]
theorem sc_is_number_nets : FnScope sn_is_number_nets ["thing", "least", "most"] (defScope s_is_number_nets) := ⟨rfl, rfl, rfl, by decide +kernel, rfl, by decide +kernel, by decide +kernel⟩
abbrev s_coded_row : Stmt := top 56
abbrev sn_coded_row : List Str := ["row", "code", "found", "byte"]
theorem sc_coded_row : FnScope sn_coded_row ["row", "code"] (defScope s_coded_row) := ⟨rfl, rfl, rfl, by decide +kernel, rfl, by decide +kernel, by decide +kernel⟩
abbrev s_Thing_init : Stmt := inClass (top 58) 0
abbrev sn_Thing_init : List Str := ["self", "row", "years", "places"]
theorem sc_Thing_init : FnScope sn_Thing_init ["self", "row", "years", "places"] (defScope s_Thing_init) := ⟨rfl, rfl, rfl, by decide +kernel, rfl, by decide +kernel, by decide +kernel⟩
abbrev s_Thing_row_bits : Stmt := inClass (top 58) 1
abbrev sn_Thing_row_bits : List Str := ["self", "code", "found", "place"]
theorem sc_Thing_row_bits : FnScope sn_Thing_row_bits ["self", "code"] (defScope s_Thing_row_bits) := ⟨rfl, rfl, rfl, by decide +kernel, rfl, by decide +kernel, by decide +kernel⟩
abbrev s_Thing_how_many : Stmt := inClass (top 58) 2
abbrev sn_Thing_how_many : List Str := ["self", "code"]
theorem sc_Thing_how_many : FnScope sn_Thing_how_many ["self", "code"] (defScope s_Thing_how_many) := ⟨rfl, rfl, rfl, by decide +kernel, rfl, by decide +kernel, by decide +kernel⟩
abbrev s_Thing_read_packet : Stmt := inClass (top 58) 3
abbrev sn_Thing_read_packet : List Str := ["self", "code", "row", "bits", "found"]
theorem sc_Thing_read_packet : FnScope sn_Thing_read_packet ["self", "code"] (defScope s_Thing_read_packet) := ⟨rfl, rfl, rfl, by decide +kernel, rfl, by decide +kernel, by decide +kernel⟩
abbrev s_Net_init : Stmt := inClass (top 59) 0
abbrev sn_Net_init : List Str := ["self", "table", "code", "oldest", "place", "ways", "neighbour"]
theorem sc_Net_init : FnScope sn_Net_init ["self", "table", "code", "oldest"] (defScope s_Net_init) := ⟨rfl, rfl, rfl, by decide +kernel, rfl, by decide +kernel, by decide +kernel⟩
abbrev s_Net_road : Stmt := inClass (top 59) 1
abbrev sn_Net_road : List Str := ["self", "one", "other"]
theorem sc_Net_road : FnScope sn_Net_road ["self", "one", "other"] (defScope s_Net_road) := ⟨rfl, rfl, rfl, by decide +kernel, rfl, by decide +kernel, by decide +kernel⟩
abbrev s_Net_thing : Stmt := inClass (top 59) 2
abbrev sn_Net_thing : List Str := ["self", "one", "other", "number", "row"]
theorem sc_Net_thing : FnScope sn_Net_thing ["self", "one", "other", "number"] (defScope s_Net_thing) := ⟨rfl, rfl, rfl, by decide +kernel, rfl, by decide +kernel, by decide +kernel⟩
abbrev s_Net_put : Stmt := inClass (top 59) 3
abbrev sn_Net_put : List Str := ["self", "place", "packet", "neighbour"]
theorem sc_Net_put : FnScope sn_Net_put ["self", "place", "packet"] (defScope s_Net_put) := ⟨rfl, rfl, rfl, by decide +kernel, rfl, by decide +kernel, by decide +kernel⟩
abbrev s_Net_bring : Stmt := inClass (top 59) 4
abbrev sn_Net_bring : List Str := ["self", "one", "other", "number", "packet", "source", "target", "kind", "life", "name", "first", "more", "data"]
theorem sc_Net_bring : FnScope sn_Net_bring ["self", "one", "other", "number"] (defScope s_Net_bring) := ⟨rfl, rfl, rfl, by decide +kernel, rfl, by decide +kernel, by decide +kernel⟩
abbrev s_Net_lose : Stmt := inClass (top 59) 5
abbrev sn_Net_lose : List Str := ["self", "one", "other", "number"]
theorem sc_Net_lose : FnScope sn_Net_lose ["self", "one", "other", "number"] (defScope s_Net_lose) := ⟨rfl, rfl, rfl, by decide +kernel, rfl, by decide +kernel, by decide +kernel⟩
abbrev s_Net_double : Stmt := inClass (top 59) 6
abbrev sn_Net_double : List Str := ["self", "one", "other", "number", "thing"]
theorem sc_Net_double : FnScope sn_Net_double ["self", "one", "other", "number"] (defScope s_Net_double) := ⟨rfl, rfl, rfl, by decide +kernel, rfl, by decide +kernel, by decide +kernel⟩
abbrev s_Net_turn : Stmt := inClass (top 59) 7
abbrev sn_Net_turn : List Str := ["self", "one", "other", "number", "places", "thing", "place"]
theorem sc_Net_turn : FnScope sn_Net_turn ["self", "one", "other", "number", "places"] (defScope s_Net_turn) := ⟨rfl, rfl, rfl, by decide +kernel, rfl, by decide +kernel, by decide +kernel⟩
abbrev s_Net_age : Stmt := inClass (top 59) 8
abbrev sn_Net_age : List Str := ["self", "road", "left", "thing"]
theorem sc_Net_age : FnScope sn_Net_age ["self"] (defScope s_Net_age) := ⟨rfl, rfl, rfl, by decide +kernel, rfl, by decide +kernel, by decide +kernel⟩
abbrev s_Net_lying : Stmt := inClass (top 59) 9
abbrev sn_Net_lying : List Str := ["self", "road"]
theorem sc_Net_lying : FnScope sn_Net_lying ["self"] (defScope s_Net_lying) := ⟨rfl, rfl, rfl, by decide +kernel, rfl, by decide +kernel, by decide +kernel⟩
abbrev s_Net_things : Stmt := inClass (top 59) 10
abbrev sn_Net_things : List Str := ["self", "one", "other", "thing"]
theorem sc_Net_things : FnScope sn_Net_things ["self", "one", "other"] (defScope s_Net_things) := ⟨rfl, rfl, rfl, by decide +kernel, rfl, by decide +kernel, by decide +kernel⟩
abbrev s_law_cell_at : Stmt := top 61
abbrev sn_law_cell_at : List Str := ["_law_script", "_law_k"]
theorem sc_law_cell_at : FnScope sn_law_cell_at ["_law_script", "_law_k"] (defScope s_law_cell_at) := ⟨rfl, rfl, rfl, by decide +kernel, rfl, by decide +kernel, by decide +kernel⟩
abbrev s_law_state : Stmt := top 62
abbrev sn_law_state : List Str := ["_law_cell", "_law_k", "_law_seed"]
theorem sc_law_state : FnScope sn_law_state ["_law_cell", "_law_k"] (defScope s_law_state) := ⟨rfl, rfl, rfl, by decide +kernel, rfl, by decide +kernel, by decide +kernel⟩
abbrev s_law_next : Stmt := top 63
abbrev sn_law_next : List Str := ["_law_state_here", "_law_size", "_law_number", "_law_mixed"]
theorem sc_law_next : FnScope sn_law_next ["_law_state_here", "_law_size"] (defScope s_law_next) := ⟨rfl, rfl, rfl, by decide +kernel, rfl, by decide +kernel, by decide +kernel⟩
abbrev s_law_places : Stmt := top 64
abbrev sn_law_places : List Str := ["_law_state_here", "_law_many", "_law_found", "_law_off", "_law_k", "_law_place"]
theorem sc_law_places : FnScope sn_law_places ["_law_state_here", "_law_many"] (defScope s_law_places) := ⟨rfl, rfl, rfl, by decide +kernel, rfl, by decide +kernel, by decide +kernel⟩
abbrev s_law_table : Stmt := top 65
abbrev sn_law_table : List Str := ["_law_state_here", "_law_most", "_law_places_here", "_law_lacks", "_law_table_here", "_law_place", "_law_others", "_law_target", "_law_neighbour", "_law_one"]
theorem sc_law_table : FnScope sn_law_table ["_law_state_here", "_law_most"] (defScope s_law_table) := ⟨rfl, rfl, rfl, by decide +kernel, rfl, by decide +kernel, by decide +kernel⟩
abbrev s_law_walked : Stmt := top 66
abbrev sn_law_walked : List Str := ["_law_table_here", "_law_place", "_law_target", "_law_found", "_law_following"]
theorem sc_law_walked : FnScope sn_law_walked ["_law_table_here", "_law_place", "_law_target"] (defScope s_law_walked) := ⟨rfl, rfl, rfl, by decide +kernel, rfl, by decide +kernel, by decide +kernel⟩
abbrev s_law_way : Stmt := top 67
abbrev sn_law_way : List Str := ["_law_table_here", "_law_place", "_law_target", "_law_found", "_law_again", "_law_places_here", "_law_least"]
theorem sc_law_way : FnScope sn_law_way ["_law_table_here", "_law_place", "_law_target"] (defScope s_law_way) := ⟨rfl, rfl, rfl, by decide +kernel, rfl, by decide +kernel, by decide +kernel⟩
abbrev s_law_fields : Stmt := top 68
abbrev sn_law_fields : List Str := ["_law_bits", "_law_row", "_law_at", "_law_name", "_law_k"]
theorem sc_law_fields : FnScope sn_law_fields ["_law_bits"] (defScope s_law_fields) := ⟨rfl, rfl, rfl, by decide +kernel, rfl, by decide +kernel, by decide +kernel⟩
abbrev s_law_put : Stmt := top 69
abbrev sn_law_put : List Str := ["_law_net", "_law_m", "_law_state_here", "_law_places_here", "_law_place", "_law_target", "_law_life", "_law_name", "_law_data", "_law_fields_here", "_law_source", "_law_kind", "_law_first", "_law_more", "_law_found", "_law_k"]
theorem sc_law_put : FnScope sn_law_put ["_law_net", "_law_m", "_law_state_here"] (defScope s_law_put) := ⟨rfl, rfl, rfl, by decide +kernel, rfl, by decide +kernel, by decide +kernel⟩
abbrev s_law_thing : Stmt := top 70
abbrev sn_law_thing : List Str := ["_law_net", "_law_state_here", "_law_roads", "_law_here", "_law_there"]
theorem sc_law_thing : FnScope sn_law_thing ["_law_net", "_law_state_here"] (defScope s_law_thing) := ⟨rfl, rfl, rfl, by decide +kernel, rfl, by decide +kernel, by decide +kernel⟩
abbrev s_law_like : Stmt := top 71
abbrev sn_law_like : List Str := ["_law_fields_here", "_law_put_here"]
theorem sc_law_like : FnScope sn_law_like ["_law_fields_here", "_law_put_here"] (defScope s_law_like) := ⟨rfl, rfl, rfl, by decide +kernel, rfl, by decide +kernel, by decide +kernel⟩
abbrev s_law_brought : Stmt := top 72
abbrev sn_law_brought : List Str := ["_law_net", "_law_m", "_law_thing_here", "_law_found", "_law_fields_here"]
theorem sc_law_brought : FnScope sn_law_brought ["_law_net", "_law_m", "_law_thing_here"] (defScope s_law_brought) := ⟨rfl, rfl, rfl, by decide +kernel, rfl, by decide +kernel, by decide +kernel⟩
abbrev s_law_lies_right : Stmt := top 73
abbrev sn_law_lies_right : List Str := ["_law_net", "_law_m", "_law_here", "_law_there", "_law_old", "_law_bits", "_law_fields_here"]
theorem sc_law_lies_right : FnScope sn_law_lies_right ["_law_net", "_law_m"] (defScope s_law_lies_right) := ⟨rfl, rfl, rfl, by decide +kernel, rfl, by decide +kernel, by decide +kernel⟩
abbrev s_law_turned : Stmt := top 74
abbrev sn_law_turned : List Str := ["_law_net", "_law_m", "_law_state_here", "_law_thing_here", "_law_here", "_law_there", "_law_number", "_law_bits", "_law_places_here", "_law_k", "_law_place"]
theorem sc_law_turned : FnScope sn_law_turned ["_law_net", "_law_m", "_law_state_here", "_law_thing_here"] (defScope s_law_turned) := ⟨rfl, rfl, rfl, by decide +kernel, rfl, by decide +kernel, by decide +kernel⟩
abbrev s_law_deed : Stmt := top 75
abbrev sn_law_deed : List Str := ["_law_net", "_law_m", "_law_state_here", "_law_kind", "_law_thing_here"]
theorem sc_law_deed : FnScope sn_law_deed ["_law_net", "_law_m", "_law_state_here"] (defScope s_law_deed) := ⟨rfl, rfl, rfl, by decide +kernel, rfl, by decide +kernel, by decide +kernel⟩
abbrev s_law_emptied : Stmt := top 76
abbrev sn_law_emptied : List Str := ["_law_net", "_law_m", "_law_state_here", "_law_turn", "_law_k", "_law_thing_here", "_law_name"]
theorem sc_law_emptied : FnScope sn_law_emptied ["_law_net", "_law_m", "_law_state_here"] (defScope s_law_emptied) := ⟨rfl, rfl, rfl, by decide +kernel, rfl, by decide +kernel, by decide +kernel⟩
abbrev s_law_goes : Stmt := top 77
abbrev sn_law_goes : List Str := ["_law_table_here", "_law_place", "_law_target", "_law_life", "_law_net", "_law_told", "_law_gone", "_law_here", "_law_there", "_law_found"]
theorem sc_law_goes : FnScope sn_law_goes ["_law_table_here", "_law_place", "_law_target", "_law_life"] (defScope s_law_goes) := ⟨rfl, rfl, rfl, by decide +kernel, rfl, by decide +kernel, by decide +kernel⟩
abbrev s_law : Stmt := top 78
abbrev sn_law : List Str := ["_law_script", "_law_state_here", "_law_table_here", "_law_m", "_law_net", "_law_k", "_law_cell", "_law_place", "_law_target"]
theorem sc_law : FnScope sn_law ["_law_script"] (defScope s_law) := ⟨rfl, rfl, rfl, by decide +kernel, rfl, by decide +kernel, by decide +kernel⟩
def d_is_whole : He.DefD := ⟨("is_whole", none), "is_whole", "is_whole", defArgs s_is_whole, defBody s_is_whole, defScope s_is_whole, [], []⟩
def d_is_bits : He.DefD := ⟨("is_bits", none), "is_bits", "is_bits", defArgs s_is_bits, defBody s_is_bits, defScope s_is_bits, [], []⟩
def d_spread : He.DefD := ⟨("spread", none), "spread", "spread", defArgs s_spread, defBody s_spread, defScope s_spread, [], []⟩
def d_gathered : He.DefD := ⟨("gathered", none), "gathered", "gathered", defArgs s_gathered, defBody s_gathered, defScope s_gathered, [], []⟩
def d_bits_by : He.DefD := ⟨("bits_by", none), "bits_by", "bits_by", defArgs s_bits_by, defBody s_bits_by, defScope s_bits_by, [], []⟩
def d_number_of : He.DefD := ⟨("number_of", none), "number_of", "number_of", defArgs s_number_of, defBody s_number_of, defScope s_number_of, [], []⟩
def d_need_code : He.DefD := ⟨("need_code", none), "need_code", "need_code", defArgs s_need_code, defBody s_need_code, defScope s_need_code, [], []⟩
def d_width : He.DefD := ⟨("width", none), "width", "width", defArgs s_width, defBody s_width, defScope s_width, [], []⟩
def d_divided : He.DefD := ⟨("divided", none), "divided", "divided", defArgs s_divided, defBody s_divided, defScope s_divided, [], []⟩
def d_number_by : He.DefD := ⟨("number_by", none), "number_by", "number_by", defArgs s_number_by, defBody s_number_by, defScope s_number_by, [], []⟩
def d_coded : He.DefD := ⟨("coded", none), "coded", "coded", defArgs s_coded, defBody s_coded, defScope s_coded, [], []⟩
def d_is_right : He.DefD := ⟨("is_right", none), "is_right", "is_right", defArgs s_is_right, defBody s_is_right, defScope s_is_right, [], []⟩
def d_is_number_packets : He.DefD := ⟨("is_number_packets", none), "is_number", "is_number", defArgs s_is_number_packets, defBody s_is_number_packets, defScope s_is_number_packets, [], []⟩
def d_are_bytes : He.DefD := ⟨("are_bytes", none), "are_bytes", "are_bytes", defArgs s_are_bytes, defBody s_are_bytes, defScope s_are_bytes, [], []⟩
def d_two : He.DefD := ⟨("two", none), "two", "two", defArgs s_two, defBody s_two, defScope s_two, [], []⟩
def d_of_two : He.DefD := ⟨("of_two", none), "of_two", "of_two", defArgs s_of_two, defBody s_of_two, defScope s_of_two, [], []⟩
def d_sum_of : He.DefD := ⟨("sum_of", none), "sum_of", "sum_of", defArgs s_sum_of, defBody s_sum_of, defScope s_sum_of, [], []⟩
def d_Packet_init : He.DefD := ⟨("Packet", some "__init__"), "__init__", "Packet.__init__", defArgs s_Packet_init, defBody s_Packet_init, defScope s_Packet_init, [], []⟩
def d_Packet_told : He.DefD := ⟨("Packet", some "told"), "told", "Packet.told", defArgs s_Packet_told, defBody s_Packet_told, defScope s_Packet_told, [], []⟩
def d_packet_bytes : He.DefD := ⟨("packet_bytes", none), "packet_bytes", "packet_bytes", defArgs s_packet_bytes, defBody s_packet_bytes, defScope s_packet_bytes, [], []⟩
def d_packet_by : He.DefD := ⟨("packet_by", none), "packet_by", "packet_by", defArgs s_packet_by, defBody s_packet_by, defScope s_packet_by, [], []⟩
def d_is_place : He.DefD := ⟨("is_place", none), "is_place", "is_place", defArgs s_is_place, defBody s_is_place, defScope s_is_place, [], []⟩
def d_is_other : He.DefD := ⟨("is_other", none), "is_other", "is_other", defArgs s_is_other, defBody s_is_other, defScope s_is_other, [], []⟩
def d_are_ways : He.DefD := ⟨("are_ways", none), "are_ways", "are_ways", defArgs s_are_ways, defBody s_are_ways, defScope s_are_ways, [], []⟩
def d_need_table : He.DefD := ⟨("need_table", none), "need_table", "need_table", defArgs s_need_table, defBody s_need_table, defScope s_need_table, [], []⟩
def d_led : He.DefD := ⟨("led", none), "led", "led", defArgs s_led, defBody s_led, defScope s_led, [], []⟩
def d_way : He.DefD := ⟨("way", none), "way", "way", defArgs s_way, defBody s_way, defScope s_way, [], []⟩
def d_is_number_nets : He.DefD := ⟨("is_number_nets", none), "is_number", "is_number", defArgs s_is_number_nets, defBody s_is_number_nets, defScope s_is_number_nets, [], []⟩
def d_coded_row : He.DefD := ⟨("coded_row", none), "coded_row", "coded_row", defArgs s_coded_row, defBody s_coded_row, defScope s_coded_row, [], []⟩
def d_Thing_init : He.DefD := ⟨("Thing", some "__init__"), "__init__", "Thing.__init__", defArgs s_Thing_init, defBody s_Thing_init, defScope s_Thing_init, [], []⟩
def d_Thing_row_bits : He.DefD := ⟨("Thing", some "row_bits"), "row_bits", "Thing.row_bits", defArgs s_Thing_row_bits, defBody s_Thing_row_bits, defScope s_Thing_row_bits, [], []⟩
def d_Thing_how_many : He.DefD := ⟨("Thing", some "how_many"), "how_many", "Thing.how_many", defArgs s_Thing_how_many, defBody s_Thing_how_many, defScope s_Thing_how_many, [], []⟩
def d_Thing_read_packet : He.DefD := ⟨("Thing", some "read_packet"), "read_packet", "Thing.read_packet", defArgs s_Thing_read_packet, defBody s_Thing_read_packet, defScope s_Thing_read_packet, [], []⟩
def d_Net_init : He.DefD := ⟨("Net", some "__init__"), "__init__", "Net.__init__", defArgs s_Net_init, defBody s_Net_init, defScope s_Net_init, [], []⟩
def d_Net_road : He.DefD := ⟨("Net", some "road"), "road", "Net.road", defArgs s_Net_road, defBody s_Net_road, defScope s_Net_road, [], []⟩
def d_Net_thing : He.DefD := ⟨("Net", some "thing"), "thing", "Net.thing", defArgs s_Net_thing, defBody s_Net_thing, defScope s_Net_thing, [], []⟩
def d_Net_put : He.DefD := ⟨("Net", some "put"), "put", "Net.put", defArgs s_Net_put, defBody s_Net_put, defScope s_Net_put, [], []⟩
def d_Net_bring : He.DefD := ⟨("Net", some "bring"), "bring", "Net.bring", defArgs s_Net_bring, defBody s_Net_bring, defScope s_Net_bring, [], []⟩
def d_Net_lose : He.DefD := ⟨("Net", some "lose"), "lose", "Net.lose", defArgs s_Net_lose, defBody s_Net_lose, defScope s_Net_lose, [], []⟩
def d_Net_double : He.DefD := ⟨("Net", some "double"), "double", "Net.double", defArgs s_Net_double, defBody s_Net_double, defScope s_Net_double, [], []⟩
def d_Net_turn : He.DefD := ⟨("Net", some "turn"), "turn", "Net.turn", defArgs s_Net_turn, defBody s_Net_turn, defScope s_Net_turn, [], []⟩
def d_Net_age : He.DefD := ⟨("Net", some "age"), "age", "Net.age", defArgs s_Net_age, defBody s_Net_age, defScope s_Net_age, [], []⟩
def d_Net_lying : He.DefD := ⟨("Net", some "lying"), "lying", "Net.lying", defArgs s_Net_lying, defBody s_Net_lying, defScope s_Net_lying, [], []⟩
def d_Net_things : He.DefD := ⟨("Net", some "things"), "things", "Net.things", defArgs s_Net_things, defBody s_Net_things, defScope s_Net_things, [], []⟩
def d_law_cell_at : He.DefD := ⟨("_law_cell_at", none), "_law_cell_at", "_law_cell_at", defArgs s_law_cell_at, defBody s_law_cell_at, defScope s_law_cell_at, [], []⟩
def d_law_state : He.DefD := ⟨("_law_state", none), "_law_state", "_law_state", defArgs s_law_state, defBody s_law_state, defScope s_law_state, [], []⟩
def d_law_next : He.DefD := ⟨("_law_next", none), "_law_next", "_law_next", defArgs s_law_next, defBody s_law_next, defScope s_law_next, [], []⟩
def d_law_places : He.DefD := ⟨("_law_places", none), "_law_places", "_law_places", defArgs s_law_places, defBody s_law_places, defScope s_law_places, [], []⟩
def d_law_table : He.DefD := ⟨("_law_table", none), "_law_table", "_law_table", defArgs s_law_table, defBody s_law_table, defScope s_law_table, [], []⟩
def d_law_walked : He.DefD := ⟨("_law_walked", none), "_law_walked", "_law_walked", defArgs s_law_walked, defBody s_law_walked, defScope s_law_walked, [], []⟩
def d_law_way : He.DefD := ⟨("_law_way", none), "_law_way", "_law_way", defArgs s_law_way, defBody s_law_way, defScope s_law_way, [], []⟩
def d_law_fields : He.DefD := ⟨("_law_fields", none), "_law_fields", "_law_fields", defArgs s_law_fields, defBody s_law_fields, defScope s_law_fields, [], []⟩
def d_law_put : He.DefD := ⟨("_law_put", none), "_law_put", "_law_put", defArgs s_law_put, defBody s_law_put, defScope s_law_put, [], []⟩
def d_law_thing : He.DefD := ⟨("_law_thing", none), "_law_thing", "_law_thing", defArgs s_law_thing, defBody s_law_thing, defScope s_law_thing, [], []⟩
def d_law_like : He.DefD := ⟨("_law_like", none), "_law_like", "_law_like", defArgs s_law_like, defBody s_law_like, defScope s_law_like, [], []⟩
def d_law_brought : He.DefD := ⟨("_law_brought", none), "_law_brought", "_law_brought", defArgs s_law_brought, defBody s_law_brought, defScope s_law_brought, [], []⟩
def d_law_lies_right : He.DefD := ⟨("_law_lies_right", none), "_law_lies_right", "_law_lies_right", defArgs s_law_lies_right, defBody s_law_lies_right, defScope s_law_lies_right, [], []⟩
def d_law_turned : He.DefD := ⟨("_law_turned", none), "_law_turned", "_law_turned", defArgs s_law_turned, defBody s_law_turned, defScope s_law_turned, [], []⟩
def d_law_deed : He.DefD := ⟨("_law_deed", none), "_law_deed", "_law_deed", defArgs s_law_deed, defBody s_law_deed, defScope s_law_deed, [], []⟩
def d_law_emptied : He.DefD := ⟨("_law_emptied", none), "_law_emptied", "_law_emptied", defArgs s_law_emptied, defBody s_law_emptied, defScope s_law_emptied, [], []⟩
def d_law_goes : He.DefD := ⟨("_law_goes", none), "_law_goes", "_law_goes", defArgs s_law_goes, defBody s_law_goes, defScope s_law_goes, [], []⟩
def d_law : He.DefD := ⟨("law", none), "law", "law", defArgs s_law, defBody s_law, defScope s_law, [], []⟩
def fn1 : List He.DefD := [d_is_whole, d_is_bits, d_spread, d_gathered, d_bits_by, d_number_of, d_need_code, d_width, d_divided, d_number_by, d_coded, d_is_right, d_is_number_packets, d_are_bytes, d_two, d_of_two, d_sum_of, d_Packet_init, d_Packet_told, d_packet_bytes, d_packet_by, d_is_place, d_is_other, d_are_ways, d_need_table, d_led, d_way, d_is_number_nets, d_coded_row, d_Thing_init, d_Thing_row_bits]
def fn2 : List He.DefD := [d_Thing_how_many, d_Thing_read_packet, d_Net_init, d_Net_road, d_Net_thing, d_Net_put, d_Net_bring, d_Net_lose, d_Net_double, d_Net_turn, d_Net_age, d_Net_lying, d_Net_things, d_law_cell_at, d_law_state, d_law_next, d_law_places, d_law_table, d_law_walked, d_law_way, d_law_fields, d_law_put, d_law_thing, d_law_like, d_law_brought, d_law_lies_right, d_law_turned, d_law_deed, d_law_emptied, d_law_goes, d_law]
def fn : List He.DefD := fn1 ++ fn2
def fa0 : List He.Fa := [.glo "is_whole", .glo "is_bits", .glo "spread", .glo "gathered", .glo "bits_by", .glo "number_of", .glo "need_code", .glo "width", .glo "divided", .glo "number_by", .glo "coded", .glo "is_right", .glo "is_number_packets", .glo "are_bytes", .glo "two", .glo "of_two", .glo "sum_of", .meth "Packet" "told", .glo "packet_bytes", .glo "packet_by", .glo "is_place", .glo "is_other", .glo "are_ways", .glo "need_table", .glo "led", .glo "way", .glo "is_number_nets", .glo "coded_row", .meth "Thing" "row_bits", .meth "Thing" "how_many", .meth "Thing" "read_packet", .meth "Net" "road"]
def fa1 : List He.Fa := [.meth "Net" "thing", .meth "Net" "put", .meth "Net" "bring", .meth "Net" "lose", .meth "Net" "double", .meth "Net" "turn", .meth "Net" "age", .meth "Net" "lying", .meth "Net" "things", .glo "_law_cell_at", .glo "_law_state", .glo "_law_next", .glo "_law_places", .glo "_law_table", .glo "_law_walked", .glo "_law_way", .glo "_law_fields", .glo "_law_put", .glo "_law_thing", .glo "_law_like", .glo "_law_brought", .glo "_law_lies_right", .glo "_law_turned", .glo "_law_deed", .glo "_law_emptied", .glo "_law_goes", .glo "law", .glo "Packet", .cls "Packet", .mkr "Packet", .noat "Packet" "source", .noat "Packet" "target"]
def fa2 : List He.Fa := [.noat "Packet" "kind", .noat "Packet" "life", .noat "Packet" "name", .noat "Packet" "first", .noat "Packet" "more", .noat "Packet" "data", .glo "Thing", .cls "Thing", .mkr "Thing", .noat "Thing" "row", .noat "Thing" "years", .noat "Thing" "places", .glo "Net", .cls "Net", .mkr "Net", .noat "Net" "ways", .noat "Net" "code", .noat "Net" "oldest", .noat "Net" "roads", .free "isinstance", .free "int", .free "bool", .free "tuple", .free "list", .free "dict", .free "set", .free "all", .free "range", .free "len", .free "sum", .free "max", .free "min"]
def fa3 : List He.Fa := [.free "sorted", .free "enumerate", .int "LEAST" 3, .int "GREATEST" 131071, .int "MOST_BYTE_packets" 255, .int "MOST_WORD" 65535, .int "MOST_TOGETHER" 1000, .int "HEAD" 14, .int "MORE_AT" 8, .int "NOUGHT_AT" 9, .int "MANY_AT" 10, .int "SUM_AT" 12, .int "MOST_PLACES" 12, .int "MOST_BYTE_tables" 255, .int "BYTE" 8, .int "MOST_TURNED" 3]
def fa : List He.Fa := fa0 ++ (fa1 ++ (fa2 ++ (fa3)))
/-- what the top has written -/
structure TX (K : PySem.W.Frag) (mg : Str → Option Value) : Prop where
  ex : ∃ h : Heap, K.In h ∧ h.Ns mainGlobals mg
  sy : He.SaysD fa fn K
section
variable {K : PySem.W.Frag} {mg : Str → Option Value}
theorem TX.g_is_whole (T : TX K mg) : mg "is_whole" = some (.ref (He.ga K "is_whole")) := let ⟨_, X, G⟩ := T.ex; He.glo_ok X G (T.sy.fact 0 (f := .glo "is_whole") rfl)
theorem TX.g_is_bits (T : TX K mg) : mg "is_bits" = some (.ref (He.ga K "is_bits")) := let ⟨_, X, G⟩ := T.ex; He.glo_ok X G (T.sy.fact 1 (f := .glo "is_bits") rfl)
theorem TX.g_spread (T : TX K mg) : mg "spread" = some (.ref (He.ga K "spread")) := let ⟨_, X, G⟩ := T.ex; He.glo_ok X G (T.sy.fact 2 (f := .glo "spread") rfl)
theorem TX.g_gathered (T : TX K mg) : mg "gathered" = some (.ref (He.ga K "gathered")) := let ⟨_, X, G⟩ := T.ex; He.glo_ok X G (T.sy.fact 3 (f := .glo "gathered") rfl)
theorem TX.g_bits_by (T : TX K mg) : mg "bits_by" = some (.ref (He.ga K "bits_by")) := let ⟨_, X, G⟩ := T.ex; He.glo_ok X G (T.sy.fact 4 (f := .glo "bits_by") rfl)
theorem TX.g_number_of (T : TX K mg) : mg "number_of" = some (.ref (He.ga K "number_of")) := let ⟨_, X, G⟩ := T.ex; He.glo_ok X G (T.sy.fact 5 (f := .glo "number_of") rfl)
theorem TX.g_need_code (T : TX K mg) : mg "need_code" = some (.ref (He.ga K "need_code")) := let ⟨_, X, G⟩ := T.ex; He.glo_ok X G (T.sy.fact 6 (f := .glo "need_code") rfl)
theorem TX.g_width (T : TX K mg) : mg "width" = some (.ref (He.ga K "width")) := let ⟨_, X, G⟩ := T.ex; He.glo_ok X G (T.sy.fact 7 (f := .glo "width") rfl)
theorem TX.g_divided (T : TX K mg) : mg "divided" = some (.ref (He.ga K "divided")) := let ⟨_, X, G⟩ := T.ex; He.glo_ok X G (T.sy.fact 8 (f := .glo "divided") rfl)
theorem TX.g_number_by (T : TX K mg) : mg "number_by" = some (.ref (He.ga K "number_by")) := let ⟨_, X, G⟩ := T.ex; He.glo_ok X G (T.sy.fact 9 (f := .glo "number_by") rfl)
theorem TX.g_coded (T : TX K mg) : mg "coded" = some (.ref (He.ga K "coded")) := let ⟨_, X, G⟩ := T.ex; He.glo_ok X G (T.sy.fact 10 (f := .glo "coded") rfl)
theorem TX.g_is_right (T : TX K mg) : mg "is_right" = some (.ref (He.ga K "is_right")) := let ⟨_, X, G⟩ := T.ex; He.glo_ok X G (T.sy.fact 11 (f := .glo "is_right") rfl)
theorem TX.g_is_number_packets (T : TX K mg) : mg "is_number_packets" = some (.ref (He.ga K "is_number_packets")) := let ⟨_, X, G⟩ := T.ex; He.glo_ok X G (T.sy.fact 12 (f := .glo "is_number_packets") rfl)
theorem TX.g_are_bytes (T : TX K mg) : mg "are_bytes" = some (.ref (He.ga K "are_bytes")) := let ⟨_, X, G⟩ := T.ex; He.glo_ok X G (T.sy.fact 13 (f := .glo "are_bytes") rfl)
theorem TX.g_two (T : TX K mg) : mg "two" = some (.ref (He.ga K "two")) := let ⟨_, X, G⟩ := T.ex; He.glo_ok X G (T.sy.fact 14 (f := .glo "two") rfl)
theorem TX.g_of_two (T : TX K mg) : mg "of_two" = some (.ref (He.ga K "of_two")) := let ⟨_, X, G⟩ := T.ex; He.glo_ok X G (T.sy.fact 15 (f := .glo "of_two") rfl)
theorem TX.g_sum_of (T : TX K mg) : mg "sum_of" = some (.ref (He.ga K "sum_of")) := let ⟨_, X, G⟩ := T.ex; He.glo_ok X G (T.sy.fact 16 (f := .glo "sum_of") rfl)
theorem TX.m_Packet_told (T : TX K mg) : Meth K (He.ga K "Packet") "told" (He.ma K (He.ga K "Packet") "told") := He.meth_ok (T.sy.fact 17 (f := .meth "Packet" "told") rfl)
theorem TX.g_packet_bytes (T : TX K mg) : mg "packet_bytes" = some (.ref (He.ga K "packet_bytes")) := let ⟨_, X, G⟩ := T.ex; He.glo_ok X G (T.sy.fact 18 (f := .glo "packet_bytes") rfl)
theorem TX.g_packet_by (T : TX K mg) : mg "packet_by" = some (.ref (He.ga K "packet_by")) := let ⟨_, X, G⟩ := T.ex; He.glo_ok X G (T.sy.fact 19 (f := .glo "packet_by") rfl)
theorem TX.g_is_place (T : TX K mg) : mg "is_place" = some (.ref (He.ga K "is_place")) := let ⟨_, X, G⟩ := T.ex; He.glo_ok X G (T.sy.fact 20 (f := .glo "is_place") rfl)
theorem TX.g_is_other (T : TX K mg) : mg "is_other" = some (.ref (He.ga K "is_other")) := let ⟨_, X, G⟩ := T.ex; He.glo_ok X G (T.sy.fact 21 (f := .glo "is_other") rfl)
theorem TX.g_are_ways (T : TX K mg) : mg "are_ways" = some (.ref (He.ga K "are_ways")) := let ⟨_, X, G⟩ := T.ex; He.glo_ok X G (T.sy.fact 22 (f := .glo "are_ways") rfl)
theorem TX.g_need_table (T : TX K mg) : mg "need_table" = some (.ref (He.ga K "need_table")) := let ⟨_, X, G⟩ := T.ex; He.glo_ok X G (T.sy.fact 23 (f := .glo "need_table") rfl)
theorem TX.g_led (T : TX K mg) : mg "led" = some (.ref (He.ga K "led")) := let ⟨_, X, G⟩ := T.ex; He.glo_ok X G (T.sy.fact 24 (f := .glo "led") rfl)
theorem TX.g_way (T : TX K mg) : mg "way" = some (.ref (He.ga K "way")) := let ⟨_, X, G⟩ := T.ex; He.glo_ok X G (T.sy.fact 25 (f := .glo "way") rfl)
theorem TX.g_is_number_nets (T : TX K mg) : mg "is_number_nets" = some (.ref (He.ga K "is_number_nets")) := let ⟨_, X, G⟩ := T.ex; He.glo_ok X G (T.sy.fact 26 (f := .glo "is_number_nets") rfl)
theorem TX.g_coded_row (T : TX K mg) : mg "coded_row" = some (.ref (He.ga K "coded_row")) := let ⟨_, X, G⟩ := T.ex; He.glo_ok X G (T.sy.fact 27 (f := .glo "coded_row") rfl)
theorem TX.m_Thing_row_bits (T : TX K mg) : Meth K (He.ga K "Thing") "row_bits" (He.ma K (He.ga K "Thing") "row_bits") := He.meth_ok (T.sy.fact 28 (f := .meth "Thing" "row_bits") rfl)
theorem TX.m_Thing_how_many (T : TX K mg) : Meth K (He.ga K "Thing") "how_many" (He.ma K (He.ga K "Thing") "how_many") := He.meth_ok (T.sy.fact 29 (f := .meth "Thing" "how_many") rfl)
theorem TX.m_Thing_read_packet (T : TX K mg) : Meth K (He.ga K "Thing") "read_packet" (He.ma K (He.ga K "Thing") "read_packet") := He.meth_ok (T.sy.fact 30 (f := .meth "Thing" "read_packet") rfl)
theorem TX.m_Net_road (T : TX K mg) : Meth K (He.ga K "Net") "road" (He.ma K (He.ga K "Net") "road") := He.meth_ok (T.sy.fact 31 (f := .meth "Net" "road") rfl)
theorem TX.m_Net_thing (T : TX K mg) : Meth K (He.ga K "Net") "thing" (He.ma K (He.ga K "Net") "thing") := He.meth_ok (T.sy.fact 32 (f := .meth "Net" "thing") rfl)
theorem TX.m_Net_put (T : TX K mg) : Meth K (He.ga K "Net") "put" (He.ma K (He.ga K "Net") "put") := He.meth_ok (T.sy.fact 33 (f := .meth "Net" "put") rfl)
theorem TX.m_Net_bring (T : TX K mg) : Meth K (He.ga K "Net") "bring" (He.ma K (He.ga K "Net") "bring") := He.meth_ok (T.sy.fact 34 (f := .meth "Net" "bring") rfl)
theorem TX.m_Net_lose (T : TX K mg) : Meth K (He.ga K "Net") "lose" (He.ma K (He.ga K "Net") "lose") := He.meth_ok (T.sy.fact 35 (f := .meth "Net" "lose") rfl)
theorem TX.m_Net_double (T : TX K mg) : Meth K (He.ga K "Net") "double" (He.ma K (He.ga K "Net") "double") := He.meth_ok (T.sy.fact 36 (f := .meth "Net" "double") rfl)
theorem TX.m_Net_turn (T : TX K mg) : Meth K (He.ga K "Net") "turn" (He.ma K (He.ga K "Net") "turn") := He.meth_ok (T.sy.fact 37 (f := .meth "Net" "turn") rfl)
theorem TX.m_Net_age (T : TX K mg) : Meth K (He.ga K "Net") "age" (He.ma K (He.ga K "Net") "age") := He.meth_ok (T.sy.fact 38 (f := .meth "Net" "age") rfl)
theorem TX.m_Net_lying (T : TX K mg) : Meth K (He.ga K "Net") "lying" (He.ma K (He.ga K "Net") "lying") := He.meth_ok (T.sy.fact 39 (f := .meth "Net" "lying") rfl)
theorem TX.m_Net_things (T : TX K mg) : Meth K (He.ga K "Net") "things" (He.ma K (He.ga K "Net") "things") := He.meth_ok (T.sy.fact 40 (f := .meth "Net" "things") rfl)
theorem TX.g_law_cell_at (T : TX K mg) : mg "_law_cell_at" = some (.ref (He.ga K "_law_cell_at")) := let ⟨_, X, G⟩ := T.ex; He.glo_ok X G (T.sy.fact 41 (f := .glo "_law_cell_at") rfl)
theorem TX.g_law_state (T : TX K mg) : mg "_law_state" = some (.ref (He.ga K "_law_state")) := let ⟨_, X, G⟩ := T.ex; He.glo_ok X G (T.sy.fact 42 (f := .glo "_law_state") rfl)
theorem TX.g_law_next (T : TX K mg) : mg "_law_next" = some (.ref (He.ga K "_law_next")) := let ⟨_, X, G⟩ := T.ex; He.glo_ok X G (T.sy.fact 43 (f := .glo "_law_next") rfl)
theorem TX.g_law_places (T : TX K mg) : mg "_law_places" = some (.ref (He.ga K "_law_places")) := let ⟨_, X, G⟩ := T.ex; He.glo_ok X G (T.sy.fact 44 (f := .glo "_law_places") rfl)
theorem TX.g_law_table (T : TX K mg) : mg "_law_table" = some (.ref (He.ga K "_law_table")) := let ⟨_, X, G⟩ := T.ex; He.glo_ok X G (T.sy.fact 45 (f := .glo "_law_table") rfl)
theorem TX.g_law_walked (T : TX K mg) : mg "_law_walked" = some (.ref (He.ga K "_law_walked")) := let ⟨_, X, G⟩ := T.ex; He.glo_ok X G (T.sy.fact 46 (f := .glo "_law_walked") rfl)
theorem TX.g_law_way (T : TX K mg) : mg "_law_way" = some (.ref (He.ga K "_law_way")) := let ⟨_, X, G⟩ := T.ex; He.glo_ok X G (T.sy.fact 47 (f := .glo "_law_way") rfl)
theorem TX.g_law_fields (T : TX K mg) : mg "_law_fields" = some (.ref (He.ga K "_law_fields")) := let ⟨_, X, G⟩ := T.ex; He.glo_ok X G (T.sy.fact 48 (f := .glo "_law_fields") rfl)
theorem TX.g_law_put (T : TX K mg) : mg "_law_put" = some (.ref (He.ga K "_law_put")) := let ⟨_, X, G⟩ := T.ex; He.glo_ok X G (T.sy.fact 49 (f := .glo "_law_put") rfl)
theorem TX.g_law_thing (T : TX K mg) : mg "_law_thing" = some (.ref (He.ga K "_law_thing")) := let ⟨_, X, G⟩ := T.ex; He.glo_ok X G (T.sy.fact 50 (f := .glo "_law_thing") rfl)
theorem TX.g_law_like (T : TX K mg) : mg "_law_like" = some (.ref (He.ga K "_law_like")) := let ⟨_, X, G⟩ := T.ex; He.glo_ok X G (T.sy.fact 51 (f := .glo "_law_like") rfl)
theorem TX.g_law_brought (T : TX K mg) : mg "_law_brought" = some (.ref (He.ga K "_law_brought")) := let ⟨_, X, G⟩ := T.ex; He.glo_ok X G (T.sy.fact 52 (f := .glo "_law_brought") rfl)
theorem TX.g_law_lies_right (T : TX K mg) : mg "_law_lies_right" = some (.ref (He.ga K "_law_lies_right")) := let ⟨_, X, G⟩ := T.ex; He.glo_ok X G (T.sy.fact 53 (f := .glo "_law_lies_right") rfl)
theorem TX.g_law_turned (T : TX K mg) : mg "_law_turned" = some (.ref (He.ga K "_law_turned")) := let ⟨_, X, G⟩ := T.ex; He.glo_ok X G (T.sy.fact 54 (f := .glo "_law_turned") rfl)
theorem TX.g_law_deed (T : TX K mg) : mg "_law_deed" = some (.ref (He.ga K "_law_deed")) := let ⟨_, X, G⟩ := T.ex; He.glo_ok X G (T.sy.fact 55 (f := .glo "_law_deed") rfl)
theorem TX.g_law_emptied (T : TX K mg) : mg "_law_emptied" = some (.ref (He.ga K "_law_emptied")) := let ⟨_, X, G⟩ := T.ex; He.glo_ok X G (T.sy.fact 56 (f := .glo "_law_emptied") rfl)
theorem TX.g_law_goes (T : TX K mg) : mg "_law_goes" = some (.ref (He.ga K "_law_goes")) := let ⟨_, X, G⟩ := T.ex; He.glo_ok X G (T.sy.fact 57 (f := .glo "_law_goes") rfl)
theorem TX.g_law (T : TX K mg) : mg "law" = some (.ref (He.ga K "law")) := let ⟨_, X, G⟩ := T.ex; He.glo_ok X G (T.sy.fact 58 (f := .glo "law") rfl)
theorem TX.gc_Packet (T : TX K mg) : mg "Packet" = some (.ref (He.ga K "Packet")) := let ⟨_, X, G⟩ := T.ex; He.glo_ok X G (T.sy.fact 59 (f := .glo "Packet") rfl)
theorem TX.cl_Packet (T : TX K mg) : Cls K (He.ga K "Packet") := He.cls_ok (T.sy.fact 60 (f := .cls "Packet") rfl)
theorem TX.mk_Packet (T : TX K mg) : Mk K (He.ga K "Packet") (He.ma K (He.ga K "Packet") "__init__") := He.mkr_ok (T.sy.fact 61 (f := .mkr "Packet") rfl)
theorem TX.na_Packet_source (T : TX K mg) : NoAttr K (He.ga K "Packet") "source" := He.noat_ok (T.sy.fact 62 (f := .noat "Packet" "source") rfl)
theorem TX.na_Packet_target (T : TX K mg) : NoAttr K (He.ga K "Packet") "target" := He.noat_ok (T.sy.fact 63 (f := .noat "Packet" "target") rfl)
theorem TX.na_Packet_kind (T : TX K mg) : NoAttr K (He.ga K "Packet") "kind" := He.noat_ok (T.sy.fact 64 (f := .noat "Packet" "kind") rfl)
theorem TX.na_Packet_life (T : TX K mg) : NoAttr K (He.ga K "Packet") "life" := He.noat_ok (T.sy.fact 65 (f := .noat "Packet" "life") rfl)
theorem TX.na_Packet_name (T : TX K mg) : NoAttr K (He.ga K "Packet") "name" := He.noat_ok (T.sy.fact 66 (f := .noat "Packet" "name") rfl)
theorem TX.na_Packet_first (T : TX K mg) : NoAttr K (He.ga K "Packet") "first" := He.noat_ok (T.sy.fact 67 (f := .noat "Packet" "first") rfl)
theorem TX.na_Packet_more (T : TX K mg) : NoAttr K (He.ga K "Packet") "more" := He.noat_ok (T.sy.fact 68 (f := .noat "Packet" "more") rfl)
theorem TX.na_Packet_data (T : TX K mg) : NoAttr K (He.ga K "Packet") "data" := He.noat_ok (T.sy.fact 69 (f := .noat "Packet" "data") rfl)
theorem TX.gc_Thing (T : TX K mg) : mg "Thing" = some (.ref (He.ga K "Thing")) := let ⟨_, X, G⟩ := T.ex; He.glo_ok X G (T.sy.fact 70 (f := .glo "Thing") rfl)
theorem TX.cl_Thing (T : TX K mg) : Cls K (He.ga K "Thing") := He.cls_ok (T.sy.fact 71 (f := .cls "Thing") rfl)
theorem TX.mk_Thing (T : TX K mg) : Mk K (He.ga K "Thing") (He.ma K (He.ga K "Thing") "__init__") := He.mkr_ok (T.sy.fact 72 (f := .mkr "Thing") rfl)
theorem TX.na_Thing_row (T : TX K mg) : NoAttr K (He.ga K "Thing") "row" := He.noat_ok (T.sy.fact 73 (f := .noat "Thing" "row") rfl)
theorem TX.na_Thing_years (T : TX K mg) : NoAttr K (He.ga K "Thing") "years" := He.noat_ok (T.sy.fact 74 (f := .noat "Thing" "years") rfl)
theorem TX.na_Thing_places (T : TX K mg) : NoAttr K (He.ga K "Thing") "places" := He.noat_ok (T.sy.fact 75 (f := .noat "Thing" "places") rfl)
theorem TX.gc_Net (T : TX K mg) : mg "Net" = some (.ref (He.ga K "Net")) := let ⟨_, X, G⟩ := T.ex; He.glo_ok X G (T.sy.fact 76 (f := .glo "Net") rfl)
theorem TX.cl_Net (T : TX K mg) : Cls K (He.ga K "Net") := He.cls_ok (T.sy.fact 77 (f := .cls "Net") rfl)
theorem TX.mk_Net (T : TX K mg) : Mk K (He.ga K "Net") (He.ma K (He.ga K "Net") "__init__") := He.mkr_ok (T.sy.fact 78 (f := .mkr "Net") rfl)
theorem TX.na_Net_ways (T : TX K mg) : NoAttr K (He.ga K "Net") "ways" := He.noat_ok (T.sy.fact 79 (f := .noat "Net" "ways") rfl)
theorem TX.na_Net_code (T : TX K mg) : NoAttr K (He.ga K "Net") "code" := He.noat_ok (T.sy.fact 80 (f := .noat "Net" "code") rfl)
theorem TX.na_Net_oldest (T : TX K mg) : NoAttr K (He.ga K "Net") "oldest" := He.noat_ok (T.sy.fact 81 (f := .noat "Net" "oldest") rfl)
theorem TX.na_Net_roads (T : TX K mg) : NoAttr K (He.ga K "Net") "roads" := He.noat_ok (T.sy.fact 82 (f := .noat "Net" "roads") rfl)
theorem TX.f_isinstance (T : TX K mg) : mg "isinstance" = none := let ⟨_, X, G⟩ := T.ex; He.free_ok X G (T.sy.fact 83 (f := .free "isinstance") rfl)
theorem TX.f_int (T : TX K mg) : mg "int" = none := let ⟨_, X, G⟩ := T.ex; He.free_ok X G (T.sy.fact 84 (f := .free "int") rfl)
theorem TX.f_bool (T : TX K mg) : mg "bool" = none := let ⟨_, X, G⟩ := T.ex; He.free_ok X G (T.sy.fact 85 (f := .free "bool") rfl)
theorem TX.f_tuple (T : TX K mg) : mg "tuple" = none := let ⟨_, X, G⟩ := T.ex; He.free_ok X G (T.sy.fact 86 (f := .free "tuple") rfl)
theorem TX.f_list (T : TX K mg) : mg "list" = none := let ⟨_, X, G⟩ := T.ex; He.free_ok X G (T.sy.fact 87 (f := .free "list") rfl)
theorem TX.f_dict (T : TX K mg) : mg "dict" = none := let ⟨_, X, G⟩ := T.ex; He.free_ok X G (T.sy.fact 88 (f := .free "dict") rfl)
theorem TX.f_set (T : TX K mg) : mg "set" = none := let ⟨_, X, G⟩ := T.ex; He.free_ok X G (T.sy.fact 89 (f := .free "set") rfl)
theorem TX.f_all (T : TX K mg) : mg "all" = none := let ⟨_, X, G⟩ := T.ex; He.free_ok X G (T.sy.fact 90 (f := .free "all") rfl)
theorem TX.f_range (T : TX K mg) : mg "range" = none := let ⟨_, X, G⟩ := T.ex; He.free_ok X G (T.sy.fact 91 (f := .free "range") rfl)
theorem TX.f_len (T : TX K mg) : mg "len" = none := let ⟨_, X, G⟩ := T.ex; He.free_ok X G (T.sy.fact 92 (f := .free "len") rfl)
theorem TX.f_sum (T : TX K mg) : mg "sum" = none := let ⟨_, X, G⟩ := T.ex; He.free_ok X G (T.sy.fact 93 (f := .free "sum") rfl)
theorem TX.f_max (T : TX K mg) : mg "max" = none := let ⟨_, X, G⟩ := T.ex; He.free_ok X G (T.sy.fact 94 (f := .free "max") rfl)
theorem TX.f_min (T : TX K mg) : mg "min" = none := let ⟨_, X, G⟩ := T.ex; He.free_ok X G (T.sy.fact 95 (f := .free "min") rfl)
theorem TX.f_sorted (T : TX K mg) : mg "sorted" = none := let ⟨_, X, G⟩ := T.ex; He.free_ok X G (T.sy.fact 96 (f := .free "sorted") rfl)
theorem TX.f_enumerate (T : TX K mg) : mg "enumerate" = none := let ⟨_, X, G⟩ := T.ex; He.free_ok X G (T.sy.fact 97 (f := .free "enumerate") rfl)
theorem TX.i_LEAST (T : TX K mg) : ∃ t, mg "LEAST" = some (.int 3 t) := let ⟨_, X, G⟩ := T.ex; He.int_ok X G (T.sy.fact 98 (f := .int "LEAST" 3) rfl)
theorem TX.i_GREATEST (T : TX K mg) : ∃ t, mg "GREATEST" = some (.int 131071 t) := let ⟨_, X, G⟩ := T.ex; He.int_ok X G (T.sy.fact 99 (f := .int "GREATEST" 131071) rfl)
theorem TX.i_MOST_BYTE_packets (T : TX K mg) : ∃ t, mg "MOST_BYTE_packets" = some (.int 255 t) := let ⟨_, X, G⟩ := T.ex; He.int_ok X G (T.sy.fact 100 (f := .int "MOST_BYTE_packets" 255) rfl)
theorem TX.i_MOST_WORD (T : TX K mg) : ∃ t, mg "MOST_WORD" = some (.int 65535 t) := let ⟨_, X, G⟩ := T.ex; He.int_ok X G (T.sy.fact 101 (f := .int "MOST_WORD" 65535) rfl)
theorem TX.i_MOST_TOGETHER (T : TX K mg) : ∃ t, mg "MOST_TOGETHER" = some (.int 1000 t) := let ⟨_, X, G⟩ := T.ex; He.int_ok X G (T.sy.fact 102 (f := .int "MOST_TOGETHER" 1000) rfl)
theorem TX.i_HEAD (T : TX K mg) : ∃ t, mg "HEAD" = some (.int 14 t) := let ⟨_, X, G⟩ := T.ex; He.int_ok X G (T.sy.fact 103 (f := .int "HEAD" 14) rfl)
theorem TX.i_MORE_AT (T : TX K mg) : ∃ t, mg "MORE_AT" = some (.int 8 t) := let ⟨_, X, G⟩ := T.ex; He.int_ok X G (T.sy.fact 104 (f := .int "MORE_AT" 8) rfl)
theorem TX.i_NOUGHT_AT (T : TX K mg) : ∃ t, mg "NOUGHT_AT" = some (.int 9 t) := let ⟨_, X, G⟩ := T.ex; He.int_ok X G (T.sy.fact 105 (f := .int "NOUGHT_AT" 9) rfl)
theorem TX.i_MANY_AT (T : TX K mg) : ∃ t, mg "MANY_AT" = some (.int 10 t) := let ⟨_, X, G⟩ := T.ex; He.int_ok X G (T.sy.fact 106 (f := .int "MANY_AT" 10) rfl)
theorem TX.i_SUM_AT (T : TX K mg) : ∃ t, mg "SUM_AT" = some (.int 12 t) := let ⟨_, X, G⟩ := T.ex; He.int_ok X G (T.sy.fact 107 (f := .int "SUM_AT" 12) rfl)
theorem TX.i_MOST_PLACES (T : TX K mg) : ∃ t, mg "MOST_PLACES" = some (.int 12 t) := let ⟨_, X, G⟩ := T.ex; He.int_ok X G (T.sy.fact 108 (f := .int "MOST_PLACES" 12) rfl)
theorem TX.i_MOST_BYTE_tables (T : TX K mg) : ∃ t, mg "MOST_BYTE_tables" = some (.int 255 t) := let ⟨_, X, G⟩ := T.ex; He.int_ok X G (T.sy.fact 109 (f := .int "MOST_BYTE_tables" 255) rfl)
theorem TX.i_BYTE (T : TX K mg) : ∃ t, mg "BYTE" = some (.int 8 t) := let ⟨_, X, G⟩ := T.ex; He.int_ok X G (T.sy.fact 110 (f := .int "BYTE" 8) rfl)
theorem TX.i_MOST_TURNED (T : TX K mg) : ∃ t, mg "MOST_TURNED" = some (.int 3 t) := let ⟨_, X, G⟩ := T.ex; He.int_ok X G (T.sy.fact 111 (f := .int "MOST_TURNED" 3) rfl)
theorem TX.df_is_whole (T : TX K mg) : ∃ fd, FunD K "is_whole" "is_whole" (defArgs s_is_whole) (defBody s_is_whole) (defScope s_is_whole) [] [] (He.fAd K ("is_whole", none)) fd := T.sy.def_ 0 (d := d_is_whole) rfl
theorem TX.df_is_bits (T : TX K mg) : ∃ fd, FunD K "is_bits" "is_bits" (defArgs s_is_bits) (defBody s_is_bits) (defScope s_is_bits) [] [] (He.fAd K ("is_bits", none)) fd := T.sy.def_ 1 (d := d_is_bits) rfl
theorem TX.df_spread (T : TX K mg) : ∃ fd, FunD K "spread" "spread" (defArgs s_spread) (defBody s_spread) (defScope s_spread) [] [] (He.fAd K ("spread", none)) fd := T.sy.def_ 2 (d := d_spread) rfl
theorem TX.df_gathered (T : TX K mg) : ∃ fd, FunD K "gathered" "gathered" (defArgs s_gathered) (defBody s_gathered) (defScope s_gathered) [] [] (He.fAd K ("gathered", none)) fd := T.sy.def_ 3 (d := d_gathered) rfl
theorem TX.df_bits_by (T : TX K mg) : ∃ fd, FunD K "bits_by" "bits_by" (defArgs s_bits_by) (defBody s_bits_by) (defScope s_bits_by) [] [] (He.fAd K ("bits_by", none)) fd := T.sy.def_ 4 (d := d_bits_by) rfl
theorem TX.df_number_of (T : TX K mg) : ∃ fd, FunD K "number_of" "number_of" (defArgs s_number_of) (defBody s_number_of) (defScope s_number_of) [] [] (He.fAd K ("number_of", none)) fd := T.sy.def_ 5 (d := d_number_of) rfl
theorem TX.df_need_code (T : TX K mg) : ∃ fd, FunD K "need_code" "need_code" (defArgs s_need_code) (defBody s_need_code) (defScope s_need_code) [] [] (He.fAd K ("need_code", none)) fd := T.sy.def_ 6 (d := d_need_code) rfl
theorem TX.df_width (T : TX K mg) : ∃ fd, FunD K "width" "width" (defArgs s_width) (defBody s_width) (defScope s_width) [] [] (He.fAd K ("width", none)) fd := T.sy.def_ 7 (d := d_width) rfl
theorem TX.df_divided (T : TX K mg) : ∃ fd, FunD K "divided" "divided" (defArgs s_divided) (defBody s_divided) (defScope s_divided) [] [] (He.fAd K ("divided", none)) fd := T.sy.def_ 8 (d := d_divided) rfl
theorem TX.df_number_by (T : TX K mg) : ∃ fd, FunD K "number_by" "number_by" (defArgs s_number_by) (defBody s_number_by) (defScope s_number_by) [] [] (He.fAd K ("number_by", none)) fd := T.sy.def_ 9 (d := d_number_by) rfl
theorem TX.df_coded (T : TX K mg) : ∃ fd, FunD K "coded" "coded" (defArgs s_coded) (defBody s_coded) (defScope s_coded) [] [] (He.fAd K ("coded", none)) fd := T.sy.def_ 10 (d := d_coded) rfl
theorem TX.df_is_right (T : TX K mg) : ∃ fd, FunD K "is_right" "is_right" (defArgs s_is_right) (defBody s_is_right) (defScope s_is_right) [] [] (He.fAd K ("is_right", none)) fd := T.sy.def_ 11 (d := d_is_right) rfl
theorem TX.df_is_number_packets (T : TX K mg) : ∃ fd, FunD K "is_number" "is_number" (defArgs s_is_number_packets) (defBody s_is_number_packets) (defScope s_is_number_packets) [] [] (He.fAd K ("is_number_packets", none)) fd := T.sy.def_ 12 (d := d_is_number_packets) rfl
theorem TX.df_are_bytes (T : TX K mg) : ∃ fd, FunD K "are_bytes" "are_bytes" (defArgs s_are_bytes) (defBody s_are_bytes) (defScope s_are_bytes) [] [] (He.fAd K ("are_bytes", none)) fd := T.sy.def_ 13 (d := d_are_bytes) rfl
theorem TX.df_two (T : TX K mg) : ∃ fd, FunD K "two" "two" (defArgs s_two) (defBody s_two) (defScope s_two) [] [] (He.fAd K ("two", none)) fd := T.sy.def_ 14 (d := d_two) rfl
theorem TX.df_of_two (T : TX K mg) : ∃ fd, FunD K "of_two" "of_two" (defArgs s_of_two) (defBody s_of_two) (defScope s_of_two) [] [] (He.fAd K ("of_two", none)) fd := T.sy.def_ 15 (d := d_of_two) rfl
theorem TX.df_sum_of (T : TX K mg) : ∃ fd, FunD K "sum_of" "sum_of" (defArgs s_sum_of) (defBody s_sum_of) (defScope s_sum_of) [] [] (He.fAd K ("sum_of", none)) fd := T.sy.def_ 16 (d := d_sum_of) rfl
theorem TX.df_Packet_init (T : TX K mg) : ∃ fd, FunD K "__init__" "Packet.__init__" (defArgs s_Packet_init) (defBody s_Packet_init) (defScope s_Packet_init) [] [] (He.fAd K ("Packet", some "__init__")) fd := T.sy.def_ 17 (d := d_Packet_init) rfl
theorem TX.df_Packet_told (T : TX K mg) : ∃ fd, FunD K "told" "Packet.told" (defArgs s_Packet_told) (defBody s_Packet_told) (defScope s_Packet_told) [] [] (He.fAd K ("Packet", some "told")) fd := T.sy.def_ 18 (d := d_Packet_told) rfl
theorem TX.df_packet_bytes (T : TX K mg) : ∃ fd, FunD K "packet_bytes" "packet_bytes" (defArgs s_packet_bytes) (defBody s_packet_bytes) (defScope s_packet_bytes) [] [] (He.fAd K ("packet_bytes", none)) fd := T.sy.def_ 19 (d := d_packet_bytes) rfl
theorem TX.df_packet_by (T : TX K mg) : ∃ fd, FunD K "packet_by" "packet_by" (defArgs s_packet_by) (defBody s_packet_by) (defScope s_packet_by) [] [] (He.fAd K ("packet_by", none)) fd := T.sy.def_ 20 (d := d_packet_by) rfl
theorem TX.df_is_place (T : TX K mg) : ∃ fd, FunD K "is_place" "is_place" (defArgs s_is_place) (defBody s_is_place) (defScope s_is_place) [] [] (He.fAd K ("is_place", none)) fd := T.sy.def_ 21 (d := d_is_place) rfl
theorem TX.df_is_other (T : TX K mg) : ∃ fd, FunD K "is_other" "is_other" (defArgs s_is_other) (defBody s_is_other) (defScope s_is_other) [] [] (He.fAd K ("is_other", none)) fd := T.sy.def_ 22 (d := d_is_other) rfl
theorem TX.df_are_ways (T : TX K mg) : ∃ fd, FunD K "are_ways" "are_ways" (defArgs s_are_ways) (defBody s_are_ways) (defScope s_are_ways) [] [] (He.fAd K ("are_ways", none)) fd := T.sy.def_ 23 (d := d_are_ways) rfl
theorem TX.df_need_table (T : TX K mg) : ∃ fd, FunD K "need_table" "need_table" (defArgs s_need_table) (defBody s_need_table) (defScope s_need_table) [] [] (He.fAd K ("need_table", none)) fd := T.sy.def_ 24 (d := d_need_table) rfl
theorem TX.df_led (T : TX K mg) : ∃ fd, FunD K "led" "led" (defArgs s_led) (defBody s_led) (defScope s_led) [] [] (He.fAd K ("led", none)) fd := T.sy.def_ 25 (d := d_led) rfl
theorem TX.df_way (T : TX K mg) : ∃ fd, FunD K "way" "way" (defArgs s_way) (defBody s_way) (defScope s_way) [] [] (He.fAd K ("way", none)) fd := T.sy.def_ 26 (d := d_way) rfl
theorem TX.df_is_number_nets (T : TX K mg) : ∃ fd, FunD K "is_number" "is_number" (defArgs s_is_number_nets) (defBody s_is_number_nets) (defScope s_is_number_nets) [] [] (He.fAd K ("is_number_nets", none)) fd := T.sy.def_ 27 (d := d_is_number_nets) rfl
theorem TX.df_coded_row (T : TX K mg) : ∃ fd, FunD K "coded_row" "coded_row" (defArgs s_coded_row) (defBody s_coded_row) (defScope s_coded_row) [] [] (He.fAd K ("coded_row", none)) fd := T.sy.def_ 28 (d := d_coded_row) rfl
theorem TX.df_Thing_init (T : TX K mg) : ∃ fd, FunD K "__init__" "Thing.__init__" (defArgs s_Thing_init) (defBody s_Thing_init) (defScope s_Thing_init) [] [] (He.fAd K ("Thing", some "__init__")) fd := T.sy.def_ 29 (d := d_Thing_init) rfl
theorem TX.df_Thing_row_bits (T : TX K mg) : ∃ fd, FunD K "row_bits" "Thing.row_bits" (defArgs s_Thing_row_bits) (defBody s_Thing_row_bits) (defScope s_Thing_row_bits) [] [] (He.fAd K ("Thing", some "row_bits")) fd := T.sy.def_ 30 (d := d_Thing_row_bits) rfl
theorem TX.df_Thing_how_many (T : TX K mg) : ∃ fd, FunD K "how_many" "Thing.how_many" (defArgs s_Thing_how_many) (defBody s_Thing_how_many) (defScope s_Thing_how_many) [] [] (He.fAd K ("Thing", some "how_many")) fd := T.sy.def_ 31 (d := d_Thing_how_many) rfl
theorem TX.df_Thing_read_packet (T : TX K mg) : ∃ fd, FunD K "read_packet" "Thing.read_packet" (defArgs s_Thing_read_packet) (defBody s_Thing_read_packet) (defScope s_Thing_read_packet) [] [] (He.fAd K ("Thing", some "read_packet")) fd := T.sy.def_ 32 (d := d_Thing_read_packet) rfl
theorem TX.df_Net_init (T : TX K mg) : ∃ fd, FunD K "__init__" "Net.__init__" (defArgs s_Net_init) (defBody s_Net_init) (defScope s_Net_init) [] [] (He.fAd K ("Net", some "__init__")) fd := T.sy.def_ 33 (d := d_Net_init) rfl
theorem TX.df_Net_road (T : TX K mg) : ∃ fd, FunD K "road" "Net.road" (defArgs s_Net_road) (defBody s_Net_road) (defScope s_Net_road) [] [] (He.fAd K ("Net", some "road")) fd := T.sy.def_ 34 (d := d_Net_road) rfl
theorem TX.df_Net_thing (T : TX K mg) : ∃ fd, FunD K "thing" "Net.thing" (defArgs s_Net_thing) (defBody s_Net_thing) (defScope s_Net_thing) [] [] (He.fAd K ("Net", some "thing")) fd := T.sy.def_ 35 (d := d_Net_thing) rfl
theorem TX.df_Net_put (T : TX K mg) : ∃ fd, FunD K "put" "Net.put" (defArgs s_Net_put) (defBody s_Net_put) (defScope s_Net_put) [] [] (He.fAd K ("Net", some "put")) fd := T.sy.def_ 36 (d := d_Net_put) rfl
theorem TX.df_Net_bring (T : TX K mg) : ∃ fd, FunD K "bring" "Net.bring" (defArgs s_Net_bring) (defBody s_Net_bring) (defScope s_Net_bring) [] [] (He.fAd K ("Net", some "bring")) fd := T.sy.def_ 37 (d := d_Net_bring) rfl
theorem TX.df_Net_lose (T : TX K mg) : ∃ fd, FunD K "lose" "Net.lose" (defArgs s_Net_lose) (defBody s_Net_lose) (defScope s_Net_lose) [] [] (He.fAd K ("Net", some "lose")) fd := T.sy.def_ 38 (d := d_Net_lose) rfl
theorem TX.df_Net_double (T : TX K mg) : ∃ fd, FunD K "double" "Net.double" (defArgs s_Net_double) (defBody s_Net_double) (defScope s_Net_double) [] [] (He.fAd K ("Net", some "double")) fd := T.sy.def_ 39 (d := d_Net_double) rfl
theorem TX.df_Net_turn (T : TX K mg) : ∃ fd, FunD K "turn" "Net.turn" (defArgs s_Net_turn) (defBody s_Net_turn) (defScope s_Net_turn) [] [] (He.fAd K ("Net", some "turn")) fd := T.sy.def_ 40 (d := d_Net_turn) rfl
theorem TX.df_Net_age (T : TX K mg) : ∃ fd, FunD K "age" "Net.age" (defArgs s_Net_age) (defBody s_Net_age) (defScope s_Net_age) [] [] (He.fAd K ("Net", some "age")) fd := T.sy.def_ 41 (d := d_Net_age) rfl
theorem TX.df_Net_lying (T : TX K mg) : ∃ fd, FunD K "lying" "Net.lying" (defArgs s_Net_lying) (defBody s_Net_lying) (defScope s_Net_lying) [] [] (He.fAd K ("Net", some "lying")) fd := T.sy.def_ 42 (d := d_Net_lying) rfl
theorem TX.df_Net_things (T : TX K mg) : ∃ fd, FunD K "things" "Net.things" (defArgs s_Net_things) (defBody s_Net_things) (defScope s_Net_things) [] [] (He.fAd K ("Net", some "things")) fd := T.sy.def_ 43 (d := d_Net_things) rfl
theorem TX.df_law_cell_at (T : TX K mg) : ∃ fd, FunD K "_law_cell_at" "_law_cell_at" (defArgs s_law_cell_at) (defBody s_law_cell_at) (defScope s_law_cell_at) [] [] (He.fAd K ("_law_cell_at", none)) fd := T.sy.def_ 44 (d := d_law_cell_at) rfl
theorem TX.df_law_state (T : TX K mg) : ∃ fd, FunD K "_law_state" "_law_state" (defArgs s_law_state) (defBody s_law_state) (defScope s_law_state) [] [] (He.fAd K ("_law_state", none)) fd := T.sy.def_ 45 (d := d_law_state) rfl
theorem TX.df_law_next (T : TX K mg) : ∃ fd, FunD K "_law_next" "_law_next" (defArgs s_law_next) (defBody s_law_next) (defScope s_law_next) [] [] (He.fAd K ("_law_next", none)) fd := T.sy.def_ 46 (d := d_law_next) rfl
theorem TX.df_law_places (T : TX K mg) : ∃ fd, FunD K "_law_places" "_law_places" (defArgs s_law_places) (defBody s_law_places) (defScope s_law_places) [] [] (He.fAd K ("_law_places", none)) fd := T.sy.def_ 47 (d := d_law_places) rfl
theorem TX.df_law_table (T : TX K mg) : ∃ fd, FunD K "_law_table" "_law_table" (defArgs s_law_table) (defBody s_law_table) (defScope s_law_table) [] [] (He.fAd K ("_law_table", none)) fd := T.sy.def_ 48 (d := d_law_table) rfl
theorem TX.df_law_walked (T : TX K mg) : ∃ fd, FunD K "_law_walked" "_law_walked" (defArgs s_law_walked) (defBody s_law_walked) (defScope s_law_walked) [] [] (He.fAd K ("_law_walked", none)) fd := T.sy.def_ 49 (d := d_law_walked) rfl
theorem TX.df_law_way (T : TX K mg) : ∃ fd, FunD K "_law_way" "_law_way" (defArgs s_law_way) (defBody s_law_way) (defScope s_law_way) [] [] (He.fAd K ("_law_way", none)) fd := T.sy.def_ 50 (d := d_law_way) rfl
theorem TX.df_law_fields (T : TX K mg) : ∃ fd, FunD K "_law_fields" "_law_fields" (defArgs s_law_fields) (defBody s_law_fields) (defScope s_law_fields) [] [] (He.fAd K ("_law_fields", none)) fd := T.sy.def_ 51 (d := d_law_fields) rfl
theorem TX.df_law_put (T : TX K mg) : ∃ fd, FunD K "_law_put" "_law_put" (defArgs s_law_put) (defBody s_law_put) (defScope s_law_put) [] [] (He.fAd K ("_law_put", none)) fd := T.sy.def_ 52 (d := d_law_put) rfl
theorem TX.df_law_thing (T : TX K mg) : ∃ fd, FunD K "_law_thing" "_law_thing" (defArgs s_law_thing) (defBody s_law_thing) (defScope s_law_thing) [] [] (He.fAd K ("_law_thing", none)) fd := T.sy.def_ 53 (d := d_law_thing) rfl
theorem TX.df_law_like (T : TX K mg) : ∃ fd, FunD K "_law_like" "_law_like" (defArgs s_law_like) (defBody s_law_like) (defScope s_law_like) [] [] (He.fAd K ("_law_like", none)) fd := T.sy.def_ 54 (d := d_law_like) rfl
theorem TX.df_law_brought (T : TX K mg) : ∃ fd, FunD K "_law_brought" "_law_brought" (defArgs s_law_brought) (defBody s_law_brought) (defScope s_law_brought) [] [] (He.fAd K ("_law_brought", none)) fd := T.sy.def_ 55 (d := d_law_brought) rfl
theorem TX.df_law_lies_right (T : TX K mg) : ∃ fd, FunD K "_law_lies_right" "_law_lies_right" (defArgs s_law_lies_right) (defBody s_law_lies_right) (defScope s_law_lies_right) [] [] (He.fAd K ("_law_lies_right", none)) fd := T.sy.def_ 56 (d := d_law_lies_right) rfl
theorem TX.df_law_turned (T : TX K mg) : ∃ fd, FunD K "_law_turned" "_law_turned" (defArgs s_law_turned) (defBody s_law_turned) (defScope s_law_turned) [] [] (He.fAd K ("_law_turned", none)) fd := T.sy.def_ 57 (d := d_law_turned) rfl
theorem TX.df_law_deed (T : TX K mg) : ∃ fd, FunD K "_law_deed" "_law_deed" (defArgs s_law_deed) (defBody s_law_deed) (defScope s_law_deed) [] [] (He.fAd K ("_law_deed", none)) fd := T.sy.def_ 58 (d := d_law_deed) rfl
theorem TX.df_law_emptied (T : TX K mg) : ∃ fd, FunD K "_law_emptied" "_law_emptied" (defArgs s_law_emptied) (defBody s_law_emptied) (defScope s_law_emptied) [] [] (He.fAd K ("_law_emptied", none)) fd := T.sy.def_ 59 (d := d_law_emptied) rfl
theorem TX.df_law_goes (T : TX K mg) : ∃ fd, FunD K "_law_goes" "_law_goes" (defArgs s_law_goes) (defBody s_law_goes) (defScope s_law_goes) [] [] (He.fAd K ("_law_goes", none)) fd := T.sy.def_ 60 (d := d_law_goes) rfl
theorem TX.df_law (T : TX K mg) : ∃ fd, FunD K "law" "law" (defArgs s_law) (defBody s_law) (defScope s_law) [] [] (He.fAd K ("law", none)) fd := T.sy.def_ 61 (d := d_law) rfl
end
theorem bt_isinstance : bootBuiltins "isinstance" = some (.builtin "isinstance") := by decide +kernel
theorem bt_int : bootBuiltins "int" = some (.type "int") := by decide +kernel
theorem bt_bool : bootBuiltins "bool" = some (.type "bool") := by decide +kernel
theorem bt_tuple : bootBuiltins "tuple" = some (.type "tuple") := by decide +kernel
theorem bt_list : bootBuiltins "list" = some (.type "list") := by decide +kernel
theorem bt_dict : bootBuiltins "dict" = some (.type "dict") := by decide +kernel
theorem bt_set : bootBuiltins "set" = some (.type "set") := by decide +kernel
theorem bt_all : bootBuiltins "all" = some (.builtin "all") := by decide +kernel
theorem bt_range : bootBuiltins "range" = some (.type "range") := by decide +kernel
theorem bt_len : bootBuiltins "len" = some (.builtin "len") := by decide +kernel
theorem bt_sum : bootBuiltins "sum" = some (.builtin "sum") := by decide +kernel
theorem bt_max : bootBuiltins "max" = some (.builtin "max") := by decide +kernel
theorem bt_min : bootBuiltins "min" = some (.builtin "min") := by decide +kernel
theorem bt_sorted : bootBuiltins "sorted" = some (.builtin "sorted") := by decide +kernel
theorem bt_enumerate : bootBuiltins "enumerate" = some (.type "enumerate") := by decide +kernel
/-! ### calls by names -/
/-- a def of the module, with its promise -/
structure Cal (P : Program) (w : World) (K : PySem.W.Frag) (mg : Str → Option Value) (base : Heap) (x : Str) (k : Nat) (sp : Sp) : Prop where
  ex : ∃ (f : Addr) (fd : FuncData) (ps : List Str), mg x = some (.ref f) ∧ PySem.W.keepIn K (.ref f) = true ∧ Binds K fd ps [] ∧ FnOk P w K mg base CX0 k f fd ps sp
/-- a method -/
structure MCal (P : Program) (w : World) (K : PySem.W.Frag) (mg : Str → Option Value) (base : Heap) (C m : Str) (k : Nat) (sp : Sp) : Prop where
  cl : Cls K (He.ga K C)
  ex : ∃ (f : Addr) (fd : FuncData) (ps : List Str), Meth K (He.ga K C) m f ∧ Binds K fd ps [] ∧ FnOk P w K mg base CX0 k f fd ps sp
/-- a class, made -/
structure NCal (P : Program) (w : World) (K : PySem.W.Frag) (mg : Str → Option Value) (base : Heap) (C : Str) (k : Nat) (sp : Sp) : Prop where
  ex : ∃ (f : Addr) (fd : FuncData) (ps : List Str), mg C = some (.ref (He.ga K C)) ∧ Mk K (He.ga K C) f ∧ Binds K fd ps [] ∧ FnOk P w K mg base CX0 k f fd ps sp
section
variable {P : Program} {w : World} {K : PySem.W.Frag} {mg : Str → Option Value} {base : Heap} {x C m : Str} {k : Nat} {sp : Sp} {f : Addr} {fd : FuncData} {ps : List Str}
theorem Cal.mk2 (g : mg x = some (.ref f)) (kp : PySem.W.keepIn K (.ref f) = true) (hb : Binds K fd ps []) (F : FnOk P w K mg base CX0 k f fd ps sp) : Cal P w K mg base x k sp := ⟨⟨f, fd, ps, g, kp, hb, F⟩⟩
theorem MCal.mk2 (cl : Cls K (He.ga K C)) (g : Meth K (He.ga K C) m f) (hb : Binds K fd ps []) (F : FnOk P w K mg base CX0 k f fd ps sp) : MCal P w K mg base C m k sp := ⟨cl, ⟨f, fd, ps, g, hb, F⟩⟩
theorem NCal.mk2 (g : mg C = some (.ref (He.ga K C))) (M : Mk K (He.ga K C) f) (hb : Binds K fd ps []) (F : FnOk P w K mg base CX0 k f fd ps sp) : NCal P w K mg base C k sp := ⟨⟨f, fd, ps, g, M, hb, F⟩⟩
end
section
variable {X : Cx} {x C m : Str} {k : Nat} {sp : Sp} {p pos apos : Pos} {e o : Expr} {es : List Expr} {ta : TE} {t : TA}
theorem pe_cal (c : Cal X.prog X.w X.K X.mg X.base x k sp) (hr : Room k X.A) (ha : PA X (e :: es) t) (hg : Gl X x := by rfl) (hdb : (x == ("__debug__" : Str)) = false := by decide)
    (he : starEach (e :: es) X.env = (false, eval e X.env) :: starEach es X.env := by rfl) (hpl : (backTo pos (starEach es X.env)).any (·.1) = false := by rfl) :
    PE X (.Call (.Name x p) (e :: es) [] pos) (tCall sp [] E0 t) := by
  obtain ⟨f, fd, ps, g, kp, hb, F⟩ := c.ex
  exact pe_call F hr hg g kp hb .nil pass0 ha hdb he hpl
theorem pe_calN (c : NCal X.prog X.w X.K X.mg X.base C k sp) (hr : Room (k + 1) X.A) (ha : PA X (e :: es) t) (hg : Gl X C := by rfl) (hdb : (C == ("__debug__" : Str)) = false := by decide)
    (he : starEach (e :: es) X.env = (false, eval e X.env) :: starEach es X.env := by rfl) (hpl : (backTo pos (starEach es X.env)).any (·.1) = false := by rfl) :
    PE X (.Call (.Name C p) (e :: es) [] pos) (tMake (He.ga X.K C) sp [] E0 t) := by
  obtain ⟨f, fd, ps, g, M, hb, F⟩ := c.ex
  exact pe_make M F hr hg g hb .nil pass0 ha hdb he hpl
theorem pe_calM {pl : Sem Bool} (c : MCal X.prog X.w X.K X.mg X.base C m k sp) (hr : Room k X.A) (ho : PE X o ta) (ha : PA X (e :: es) t)
    (hst : starEach (e :: es) X.env = (false, eval e X.env) :: starEach es X.env := by rfl) (hpl : (backTo pos (starEach es X.env)).any (·.1) = false := by rfl)
    (ht : eval (.Call (.Attribute o m apos) (e :: es) [] pos) X.env = (do
      let ov ← eval o X.env
      standAt apos.atName
      let (f, first) ← holding [ov] (getMethod ov m pl)
      callWith pos f first (backTo pos (starEach (e :: es) X.env)) (backToKw pos (keywordEach [] X.env))) := by rfl) :
    PE X (.Call (.Attribute o m apos) (e :: es) [] pos) (tMeth (He.ga X.K C) m sp [] E0 ta t) := by
  obtain ⟨f, fd, ps, g, hb, F⟩ := c.ex
  exact pe_meth ho c.cl g F hr hb .nil pass0 ha hst hpl ht
theorem pe_calM0 {pl : Sem Bool} (c : MCal X.prog X.w X.K X.mg X.base C m k sp) (hr : Room k X.A) (ho : PE X o ta)
    (ht : eval (.Call (.Attribute o m apos) [] [] pos) X.env = (do
      let ov ← eval o X.env
      standAt apos.atName
      let (f, first) ← holding [ov] (getMethod ov m pl)
      callWith pos f first (backTo pos (starEach [] X.env)) (backToKw pos (keywordEach [] X.env))) := by rfl) :
    PE X (.Call (.Attribute o m apos) [] [] pos) (tMeth (He.ga X.K C) m sp [] E0 ta tNil) := by
  obtain ⟨f, fd, ps, g, hb, F⟩ := c.ex
  exact pe_meth0 ho c.cl g F hr hb .nil pass0 ht
/-- a built-in class as a value -/
theorem pe_bty {n : String} (hm : X.mg x = none) (hv : bootBuiltins x = some (.type n)) (hg : Gl X x := by rfl) (hn : x ≠ "__name__" := by decide) (hd : (x == ("__debug__" : Str)) = false := by decide) : PE X (.Name x pos) (tC (.ty n)) := pe_bltn hg hm hv rfl hn hd
/-- a constant of the module -/
theorem pe_gint {i : Int} (h : ∃ t, X.mg x = some (.int i t)) (hg : Gl X x := by rfl) (hd : (x == ("__debug__" : Str)) = false := by decide) : PE X (.Name x pos) (tC (.int i)) := by
  obtain ⟨t, h⟩ := h
  exact pe_glob hg h ⟨t, rfl⟩ hd
end

end K54

set_option linter.all false
set_option maxRecDepth 100000
set_option maxHeartbeats 1000000
/-! Plain mathematics: rows of bits, the check's rest, packets' bytes. No program in sight. -/
namespace K54
/-! ### rows of bits -/
def b2z (b : Bool) : Int := if b then 1 else 0
def b2n (b : Bool) : Nat := if b then 1 else 0
def natOf (bs : List Bool) : Nat := bs.foldl (fun n b => 2 * n + b2n b) 0
theorem b2n_lt (b : Bool) : b2n b < 2 := by cases b <;> decide
theorem b2z_b2n (b : Bool) : b2z b = ((b2n b : Nat) : Int) := by cases b <;> rfl
theorem natOf_nil : natOf [] = 0 := rfl
theorem foldl_nat (bs : List Bool) : ∀ n, bs.foldl (fun n b => 2 * n + b2n b) n = n * 2 ^ bs.length + natOf bs := by
  induction bs with
  | nil => intro n; simp [natOf]
  | cons b r ih =>
    intro n
    unfold natOf
    simp only [List.foldl_cons, List.length_cons]
    rw [ih, ih (2 * 0 + b2n b), Nat.pow_succ, Nat.add_mul, Nat.mul_comm 2 n, Nat.mul_assoc, Nat.mul_comm 2 (2 ^ r.length), Nat.mul_zero, Nat.zero_add]
    omega
theorem natOf_app (a b : List Bool) : natOf (a ++ b) = natOf a * 2 ^ b.length + natOf b := by
  unfold natOf
  rw [List.foldl_append]
  exact foldl_nat b _
theorem natOf_snoc (a : List Bool) (b : Bool) : natOf (a ++ [b]) = 2 * natOf a + b2n b := by
  rw [natOf_app]
  simp [natOf]
  omega
theorem natOf_cons (b : Bool) (r : List Bool) : natOf (b :: r) = b2n b * 2 ^ r.length + natOf r := by
  have := natOf_app [b] r
  simpa [natOf] using this
theorem natOf_lt (bs : List Bool) : natOf bs < 2 ^ bs.length := by
  induction bs with
  | nil => simp [natOf]
  | cons b r ih =>
    rw [natOf_cons, List.length_cons, Nat.pow_succ]
    have := b2n_lt b
    have h1 : b2n b = 0 ∨ b2n b = 1 := by omega
    rcases h1 with h | h <;> rw [h] <;> omega
/-- so many bits of a number, the greatest first -/
def spr (n m : Nat) : List Bool := (List.range m).map fun i => decide ((n / 2 ^ (m - 1 - i)) % 2 = 1)
theorem spr_len (n m : Nat) : (spr n m).length = m := by simp [spr]
theorem spr_succ (n m : Nat) : spr n (m + 1) = spr (n / 2) m ++ [decide (n % 2 = 1)] := by
  unfold spr
  rw [List.range_succ, List.map_append]
  congr 1
  · apply List.map_congr_left
    intro i hi
    have hi := List.mem_range.mp hi
    have e : m + 1 - 1 - i = (m - 1 - i) + 1 := by omega
    rw [e, Nat.pow_succ, Nat.mul_comm, Nat.div_div_eq_div_mul]
  · simp
theorem b2n_dec (n : Nat) : b2n (decide (n % 2 = 1)) = n % 2 := by
  rcases Nat.mod_two_eq_zero_or_one n with h | h <;> simp [b2n, h]
theorem natOf_spr : ∀ (m n : Nat), n < 2 ^ m → natOf (spr n m) = n
  | 0, n, h => by
    have : n = 0 := by simpa using h
    subst this
    rfl
  | m + 1, n, h => by
    rw [spr_succ, natOf_snoc, natOf_spr m (n / 2) (by rw [Nat.pow_succ] at h; omega), b2n_dec]
    omega
theorem natOf_inj : ∀ {a b : List Bool}, a.length = b.length → natOf a = natOf b → a = b
  | [], [], _, _ => rfl
  | x :: a, y :: b, hl, h => by
    have hl' : a.length = b.length := by simpa using hl
    rw [natOf_cons, natOf_cons, hl'] at h
    have h1 := natOf_lt a
    have h2 := natOf_lt b
    rw [hl'] at h1
    have hx : x = y := by
      cases x <;> cases y <;> simp [b2n] at h ⊢ <;> omega
    subst hx
    have q : natOf a = natOf b := by omega
    rw [natOf_inj hl' q]
theorem spr_natOf (bs : List Bool) : spr (natOf bs) bs.length = bs := natOf_inj (spr_len _ _) (natOf_spr _ _ (natOf_lt bs))
/-! ### the rest of a number by the code 69665, by shifting in bits -/
def G : Nat := 69665
def xt (r : Nat) : Nat := if r < 32768 then 2 * r else (2 * r) ^^^ G
def syn (n : Nat) : Nat := if h : n = 0 then 0 else xt (syn (n / 2)) ^^^ (n % 2)
theorem syn_zero : syn 0 = 0 := by rw [syn, dif_pos rfl]
theorem xt_zero : xt 0 = 0 := rfl
theorem syn_step (n : Nat) : syn n = xt (syn (n / 2)) ^^^ (n % 2) := by
  by_cases h : n = 0
  · subst h
    simp [syn_zero, xt_zero]
  · rw [syn, dif_neg h]
theorem syn_bit (n : Nat) (b : Nat) (hb : b < 2) : syn (2 * n + b) = xt (syn n) ^^^ b := by
  rw [syn_step]
  have e1 : (2 * n + b) / 2 = n := by omega
  have e2 : (2 * n + b) % 2 = b := by omega
  rw [e1, e2]
theorem xor_lt16 {a b : Nat} (ha : a < 65536) (hb : b < 65536) : a ^^^ b < 65536 := Nat.xor_lt_two_pow (n := 16) ha hb
theorem testBit_lt {n i : Nat} (h : n < 2 ^ i) : n.testBit i = false := Nat.testBit_lt_two_pow h
theorem lt_of_bits {n k : Nat} (h : ∀ i, k ≤ i → n.testBit i = false) : n < 2 ^ k := Nat.lt_pow_two_of_testBit n h
theorem top_bit {n k : Nat} (h1 : 2 ^ k ≤ n) (h2 : n < 2 ^ (k + 1)) : n.testBit k = true := by
  rw [Nat.testBit_eq_decide_div_mod_eq]
  have hp : 0 < 2 ^ k := Nat.two_pow_pos k
  have e : n / 2 ^ k = 1 := by
    rw [Nat.pow_succ] at h2
    have a1 : 1 ≤ n / 2 ^ k := (Nat.le_div_iff_mul_le hp).mpr (by omega)
    have a2 : n / 2 ^ k < 2 := (Nat.div_lt_iff_lt_mul hp).mpr (by omega)
    omega
  rw [e]
  rfl
theorem xor_top {a b k : Nat} (ha : 2 ^ k ≤ a) (ha2 : a < 2 ^ (k + 1)) (hb : 2 ^ k ≤ b) (hb2 : b < 2 ^ (k + 1)) : a ^^^ b < 2 ^ k := by
  apply lt_of_bits
  intro i hi
  rw [Nat.testBit_xor]
  by_cases e : i = k
  · subst e
    rw [top_bit ha ha2, top_bit hb hb2]
    rfl
  · have hk : 2 ^ (k + 1) ≤ 2 ^ i := Nat.pow_le_pow_right (by decide) (by omega)
    rw [testBit_lt (Nat.lt_of_lt_of_le ha2 hk), testBit_lt (Nat.lt_of_lt_of_le hb2 hk)]
    rfl
theorem xt_lt {r : Nat} (h : r < 65536) : xt r < 65536 := by
  unfold xt
  split
  · omega
  · exact xor_top (k := 16) (by omega) (by omega) (by decide) (by decide)
theorem xor_bit {a b c d : Nat} (hb : b < 2) (hd : d < 2) : (2 * a + b) ^^^ (2 * c + d) = 2 * (a ^^^ c) + (b ^^^ d) := by
  apply Nat.eq_of_testBit_eq
  intro i
  rw [Nat.testBit_xor]
  have hbd : b ^^^ d < 2 := Nat.xor_lt_two_pow (n := 1) hb hd
  cases i with
  | zero =>
    simp only [Nat.testBit_zero]
    have e1 : (2 * a + b) % 2 = b := by omega
    have e2 : (2 * c + d) % 2 = d := by omega
    have e3 : (2 * (a ^^^ c) + (b ^^^ d)) % 2 = b ^^^ d := by omega
    rw [e1, e2, e3]
    have h1 : b = 0 ∨ b = 1 := by omega
    have h2 : d = 0 ∨ d = 1 := by omega
    rcases h1 with h | h <;> rcases h2 with h' | h' <;> subst h <;> subst h' <;> rfl
  | succ i =>
    simp only [Nat.testBit_succ]
    have e1 : (2 * a + b) / 2 = a := by omega
    have e2 : (2 * c + d) / 2 = c := by omega
    have e3 : (2 * (a ^^^ c) + (b ^^^ d)) / 2 = a ^^^ c := by omega
    rw [e1, e2, e3, Nat.testBit_xor]
theorem xor_two (a c : Nat) : (2 * a) ^^^ (2 * c) = 2 * (a ^^^ c) := by
  have := xor_bit (a := a) (b := 0) (c := c) (d := 0) (by decide) (by decide)
  simpa using this
theorem lt_top {a : Nat} (h : a < 65536) : (a < 32768) ↔ a.testBit 15 = false := by
  constructor
  · intro h'
    exact testBit_lt h'
  · intro h'
    apply Decidable.byContradiction
    intro hn
    have := top_bit (n := a) (k := 15) (by omega) (by omega)
    rw [this] at h'
    cases h'
theorem xt_xor {a b : Nat} (ha : a < 65536) (hb : b < 65536) : xt (a ^^^ b) = xt a ^^^ xt b := by
  have hx := xor_lt16 ha hb
  unfold xt
  have q : (a ^^^ b).testBit 15 = (a.testBit 15 ^^ b.testBit 15) := Nat.testBit_xor ..
  by_cases h1 : a < 32768
  · have t1 := (lt_top ha).mp h1
    by_cases h2 : b < 32768
    · have t2 := (lt_top hb).mp h2
      have h3 : a ^^^ b < 32768 := (lt_top hx).mpr (by rw [q, t1, t2]; rfl)
      rw [if_pos h1, if_pos h2, if_pos h3, xor_two]
    · have t2 : b.testBit 15 = true := by cases e : b.testBit 15 with | true => rfl | false => exact absurd ((lt_top hb).mpr e) h2
      have h3 : ¬ a ^^^ b < 32768 := fun h => by have := (lt_top hx).mp h; rw [q, t1, t2] at this; cases this
      rw [if_pos h1, if_neg h2, if_neg h3, ← xor_two, Nat.xor_assoc]
  · have t1 : a.testBit 15 = true := by cases e : a.testBit 15 with | true => rfl | false => exact absurd ((lt_top ha).mpr e) h1
    by_cases h2 : b < 32768
    · have t2 := (lt_top hb).mp h2
      have h3 : ¬ a ^^^ b < 32768 := fun h => by have := (lt_top hx).mp h; rw [q, t1, t2] at this; cases this
      rw [if_neg h1, if_pos h2, if_neg h3, ← xor_two, Nat.xor_assoc, Nat.xor_assoc, Nat.xor_comm (2 * b) G]
    · have t2 : b.testBit 15 = true := by cases e : b.testBit 15 with | true => rfl | false => exact absurd ((lt_top hb).mpr e) h2
      have h3 : a ^^^ b < 32768 := (lt_top hx).mpr (by rw [q, t1, t2]; rfl)
      rw [if_neg h1, if_neg h2, if_pos h3, ← xor_two]
      have : (2 * a ^^^ G) ^^^ (2 * b ^^^ G) = (2 * a ^^^ 2 * b) ^^^ (G ^^^ G) := by
        rw [Nat.xor_assoc, Nat.xor_assoc, ← Nat.xor_assoc G, Nat.xor_comm G (2 * b), Nat.xor_assoc]
      rw [this, Nat.xor_self, Nat.xor_zero]
theorem syn_lt (n : Nat) : syn n < 65536 := by
  induction n using Nat.strongRecOn with
  | _ n ih =>
    by_cases h : n = 0
    · subst h; rw [syn_zero]; decide
    · rw [syn_step]
      exact xor_lt16 (xt_lt (ih _ (by omega))) (by omega)
theorem syn_small {n : Nat} (h : n < 65536) : syn n = n := by
  induction n using Nat.strongRecOn with
  | _ n ih =>
    by_cases h0 : n = 0
    · subst h0; exact syn_zero
    · rw [syn_step, ih (n / 2) (by omega) (by omega)]
      unfold xt
      rw [if_pos (by omega)]
      have := xor_bit (a := n / 2) (b := 0) (c := 0) (d := n % 2) (by decide) (by omega)
      simp only [Nat.mul_zero, Nat.add_zero, Nat.zero_add, Nat.xor_zero, Nat.zero_xor] at this
      rw [this]
      omega
theorem syn_xor (a : Nat) : ∀ b, syn (a ^^^ b) = syn a ^^^ syn b := by
  induction a using Nat.strongRecOn with
  | _ a ih =>
    intro b
    by_cases h0 : a = 0
    · subst h0; rw [Nat.zero_xor, syn_zero, Nat.zero_xor]
    · have ea : a = 2 * (a / 2) + a % 2 := by omega
      have eb : b = 2 * (b / 2) + b % 2 := by omega
      have e : a ^^^ b = 2 * ((a / 2) ^^^ (b / 2)) + ((a % 2) ^^^ (b % 2)) := by
        conv => lhs; rw [ea, eb]
        exact xor_bit (by omega) (by omega)
      have hl : (a % 2) ^^^ (b % 2) < 2 := Nat.xor_lt_two_pow (n := 1) (by omega) (by omega)
      rw [e, syn_bit _ _ hl, ih (a / 2) (by omega), xt_xor (syn_lt _) (syn_lt _), syn_step a, syn_step b]
      have : ∀ p q r s : Nat, (p ^^^ q) ^^^ (r ^^^ s) = (p ^^^ r) ^^^ (q ^^^ s) := fun p q r s => by
        rw [Nat.xor_assoc, Nat.xor_assoc, ← Nat.xor_assoc q, Nat.xor_comm q r, Nat.xor_assoc]
      exact this ..
theorem syn_two {n : Nat} (h : syn n = 0) : syn (2 * n) = 0 := by
  have := syn_bit n 0 (by decide)
  rw [Nat.add_zero] at this
  rw [this, h, xt_zero]
  rfl
theorem syn_G : syn G = 0 := by decide +kernel
theorem syn_Gsh : ∀ k, syn (G * 2 ^ k) = 0
  | 0 => by rw [Nat.pow_zero, Nat.mul_one]; exact syn_G
  | k + 1 => by
    have e : G * 2 ^ (k + 1) = 2 * (G * 2 ^ k) := by rw [Nat.pow_succ, ← Nat.mul_assoc, Nat.mul_comm]
    rw [e]
    exact syn_two (syn_Gsh k)
/-- one turn of the division -/
theorem div_turn {n : Nat} (h : 65536 ≤ n) : syn (n ^^^ (G * 2 ^ (n.log2 - 16))) = syn n ∧ n ^^^ (G * 2 ^ (n.log2 - 16)) < 2 ^ n.log2 := by
  have hn : n ≠ 0 := by omega
  have hl : 16 ≤ n.log2 := (Nat.le_log2 hn).mpr (by omega)
  refine ⟨by rw [syn_xor, syn_Gsh, Nat.xor_zero], ?_⟩
  refine xor_top (Nat.log2_self_le hn) Nat.lt_log2_self ?_ ?_
  · have : 2 ^ n.log2 = 65536 * 2 ^ (n.log2 - 16) := by
      rw [show (65536 : Nat) = 2 ^ 16 from rfl, ← Nat.pow_add]
      congr 1
      omega
    rw [this]
    exact Nat.mul_le_mul_right _ (by decide)
  · have : 2 ^ (n.log2 + 1) = 131072 * 2 ^ (n.log2 - 16) := by
      rw [show (131072 : Nat) = 2 ^ 17 from rfl, ← Nat.pow_add]
      congr 1
      omega
    rw [this]
    exact Nat.mul_lt_mul_of_pos_right (by decide) (Nat.two_pow_pos _)
/-- a row, and behind it what makes its rest nought -/
def codedB (bs : List Bool) : List Bool := bs ++ spr (syn (natOf bs * 2 ^ 16)) 16
theorem codedB_len (bs : List Bool) : (codedB bs).length = bs.length + 16 := by
  unfold codedB
  rw [List.length_append, spr_len]
theorem natOf_codedB (bs : List Bool) : natOf (codedB bs) = natOf bs * 2 ^ 16 ^^^ syn (natOf bs * 2 ^ 16) := by
  unfold codedB
  have h := syn_lt (natOf bs * 2 ^ 16)
  rw [natOf_app, spr_len, natOf_spr 16 _ h]
  have h' : syn (natOf bs * 2 ^ 16) < 2 ^ 16 := h
  generalize syn (natOf bs * 2 ^ 16) = r at h'
  apply Nat.eq_of_testBit_eq
  intro i
  rw [Nat.testBit_xor, Nat.mul_comm, Nat.testBit_two_pow_mul_add _ h', Nat.testBit_two_pow_mul]
  by_cases hi : i < 16
  · rw [if_pos hi]
    have : ¬ 16 ≤ i := by omega
    simp [this]
  · rw [if_neg hi]
    have h16 : r.testBit i = false := testBit_lt (Nat.lt_of_lt_of_le h' (Nat.pow_le_pow_right (by decide) (by omega)))
    have : 16 ≤ i := by omega
    simp [this, h16]
theorem syn_codedB (bs : List Bool) : syn (natOf (codedB bs)) = 0 := by
  rw [natOf_codedB, syn_xor, syn_small (syn_lt _), Nat.xor_self]
/-! ### turned bits -/
def flip (bs : List Bool) (p : Nat) : List Bool := match bs[bs.length - 1 - p]? with
  | some b => bs.set (bs.length - 1 - p) (!b)
  | none => bs
def flips (bs : List Bool) (ps : List Nat) : List Bool := ps.foldl flip bs
theorem flip_len (bs : List Bool) (p : Nat) : (flip bs p).length = bs.length := by
  unfold flip
  split <;> simp
theorem flips_len (ps : List Nat) : ∀ bs : List Bool, (flips bs ps).length = bs.length := by
  induction ps with
  | nil => intro bs; rfl
  | cons p r ih => intro bs; show (flips (flip bs p) r).length = _; rw [ih, flip_len]
theorem natOf_flip {bs : List Bool} {p : Nat} (hp : p < bs.length) : natOf (flip bs p) = natOf bs ^^^ 2 ^ p := by
  obtain ⟨l, b, r, e, hr⟩ : ∃ l b r, bs = l ++ b :: r ∧ r.length = p := by
    refine ⟨bs.take (bs.length - 1 - p), bs[bs.length - 1 - p]'(by omega), bs.drop (bs.length - p), ?_, by simp; omega⟩
    have h1 : bs = bs.take (bs.length - 1 - p) ++ bs.drop (bs.length - 1 - p) := (List.take_append_drop ..).symm
    have h2 : bs.drop (bs.length - 1 - p) = bs[bs.length - 1 - p]'(by omega) :: bs.drop (bs.length - 1 - p + 1) := by
      rw [List.drop_eq_getElem_cons]
    rw [h2] at h1
    have h3 : bs.length - 1 - p + 1 = bs.length - p := by omega
    rw [h3] at h1
    exact h1
  subst e
  have hi : (l ++ b :: r).length - 1 - p = l.length := by simp; omega
  have hf : flip (l ++ b :: r) p = l ++ (!b) :: r := by
    unfold flip
    rw [hi]
    simp
  rw [hf, natOf_app, natOf_app, natOf_cons, natOf_cons, List.length_cons, List.length_cons, hr]
  have hr' := natOf_lt r
  rw [hr] at hr'
  generalize natOf r = n at hr' ⊢
  generalize natOf l = m
  have e1 : ∀ c : Bool, m * 2 ^ (p + 1) + (b2n c * 2 ^ p + n) = 2 ^ p * (2 * m + b2n c) + n := fun c => by
    rw [Nat.pow_succ, Nat.mul_add, Nat.mul_comm (b2n c), Nat.mul_comm m, Nat.mul_assoc]
    omega
  rw [e1, e1]
  apply Nat.eq_of_testBit_eq
  intro i
  rw [Nat.testBit_xor, Nat.testBit_two_pow_mul_add _ hr', Nat.testBit_two_pow_mul_add _ hr', Nat.testBit_two_pow]
  by_cases hi : i < p
  · rw [if_pos hi, if_pos hi]
    have : p ≠ i := by omega
    simp [this]
  · rw [if_neg hi, if_neg hi]
    by_cases h2 : i = p
    · subst h2
      simp only [Nat.sub_self, Nat.testBit_zero]
      have a1 : (2 * m + b2n b) % 2 = b2n b := by have := b2n_lt b; omega
      have a2 : (2 * m + b2n (!b)) % 2 = b2n (!b) := by have := b2n_lt (!b); omega
      rw [a1, a2]
      cases b <;> simp [b2n]
    · obtain ⟨j, hj⟩ : ∃ j, i - p = j + 1 := ⟨i - p - 1, by omega⟩
      rw [hj]
      simp only [Nat.testBit_succ]
      have a1 : (2 * m + b2n b) / 2 = m := by have := b2n_lt b; omega
      have a2 : (2 * m + b2n (!b)) / 2 = m := by have := b2n_lt (!b); omega
      rw [a1, a2]
      have : p ≠ i := fun h => h2 h.symm
      simp [this]
theorem syn_flips : ∀ (ps : List Nat) (bs : List Bool), (∀ p ∈ ps, p < bs.length) → syn (natOf (flips bs ps)) = syn (natOf bs) ^^^ (ps.map fun p => syn (2 ^ p)).foldl (· ^^^ ·) 0
  | [], bs, _ => by
    show syn (natOf bs) = _ ^^^ 0
    rw [Nat.xor_zero]
  | p :: r, bs, h => by
    show syn (natOf (flips (flip bs p) r)) = _
    rw [syn_flips r (flip bs p) (fun q hq => by rw [flip_len]; exact h q (List.mem_cons_of_mem _ hq)), natOf_flip (h p (List.mem_cons_self ..)), syn_xor, List.map_cons, List.foldl_cons, Nat.zero_xor]
    have g : ∀ (l : List Nat) (a : Nat), l.foldl (· ^^^ ·) a = a ^^^ l.foldl (· ^^^ ·) 0 := by
      intro l
      induction l with
      | nil => intro a; simp
      | cons x l ih => intro a; rw [List.foldl_cons, List.foldl_cons, Nat.zero_xor, ih (a ^^^ x), ih x, Nat.xor_assoc]
    rw [g _ (syn (2 ^ p)), Nat.xor_assoc]
/-! parity -/
def par (n : Nat) : Nat := if h : n = 0 then 0 else (par (n / 2) + n % 2) % 2
theorem par_step (n : Nat) : par n = (par (n / 2) + n % 2) % 2 := by
  by_cases h : n = 0
  · subst h
    rw [par, dif_pos rfl]
  · rw [par, dif_neg h]
theorem par_lt (n : Nat) : par n < 2 := by rw [par_step]; omega
theorem par_xor (a : Nat) : ∀ b, par (a ^^^ b) = (par a + par b) % 2 := by
  induction a using Nat.strongRecOn with
  | _ a ih =>
    intro b
    by_cases h0 : a = 0
    · subst h0
      have : par 0 = 0 := by rw [par, dif_pos rfl]
      have hb := par_lt b
      rw [Nat.zero_xor, this]
      omega
    · have ea : a = 2 * (a / 2) + a % 2 := by omega
      have eb : b = 2 * (b / 2) + b % 2 := by omega
      have e : a ^^^ b = 2 * ((a / 2) ^^^ (b / 2)) + ((a % 2) ^^^ (b % 2)) := by
        conv => lhs; rw [ea, eb]
        exact xor_bit (by omega) (by omega)
      have hl : (a % 2) ^^^ (b % 2) = (a % 2 + b % 2) % 2 := by
        rcases Nat.mod_two_eq_zero_or_one a with h | h <;> rcases Nat.mod_two_eq_zero_or_one b with h' | h' <;> rw [h, h'] <;> rfl
      rw [par_step (a ^^^ b), e, hl]
      have e1 : (2 * ((a / 2) ^^^ (b / 2)) + (a % 2 + b % 2) % 2) / 2 = (a / 2) ^^^ (b / 2) := by omega
      have e2 : (2 * ((a / 2) ^^^ (b / 2)) + (a % 2 + b % 2) % 2) % 2 = (a % 2 + b % 2) % 2 := by omega
      rw [e1, e2, ih (a / 2) (by omega), par_step a, par_step b]
      omega
theorem par_two (n : Nat) : par (2 * n) = par n := by
  rw [par_step]
  have e1 : 2 * n / 2 = n := by omega
  have e2 : 2 * n % 2 = 0 := by omega
  rw [e1, e2]
  have := par_lt n
  omega
theorem par_xt (r : Nat) : par (xt r) = par r := by
  unfold xt
  split
  · exact par_two r
  · rw [par_xor, par_two, show par G = 0 by decide +kernel]
    have := par_lt r
    omega
theorem par_syn (n : Nat) : par (syn n) = par n := by
  induction n using Nat.strongRecOn with
  | _ n ih =>
    by_cases h : n = 0
    · subst h; rw [syn_zero]
    · rw [syn_step, par_xor, par_xt, ih (n / 2) (by omega), par_step n]
      have : par (n % 2) = n % 2 := by rcases Nat.mod_two_eq_zero_or_one n with h | h <;> rw [h] <;> decide +kernel
      rw [this]
theorem par_pow : ∀ p, par (2 ^ p) = 1
  | 0 => by decide +kernel
  | p + 1 => by rw [Nat.pow_succ, Nat.mul_comm, par_two, par_pow p]
theorem par_synp (p : Nat) : par (syn (2 ^ p)) = 1 := by rw [par_syn, par_pow]
/-- the rests of single bits, one behind another -/
def powsTo : Nat → Nat → List Nat
  | 0, _ => []
  | n + 1, r => r :: powsTo n (xt r)
theorem syn_pow_succ (p : Nat) : syn (2 ^ (p + 1)) = xt (syn (2 ^ p)) := by
  have := syn_bit (2 ^ p) 0 (by decide)
  rw [Nat.add_zero, Nat.xor_zero] at this
  rw [Nat.pow_succ, Nat.mul_comm, this]
theorem powsTo_get : ∀ (n k i : Nat), i < n → (powsTo n (syn (2 ^ k)))[i]? = some (syn (2 ^ (k + i)))
  | n + 1, k, 0, _ => rfl
  | n + 1, k, i + 1, h => by
    show (powsTo n (xt (syn (2 ^ k))))[i]? = _
    rw [← syn_pow_succ, powsTo_get n (k + 1) i (by omega)]
    congr 3
    omega
theorem pows_nodup : (powsTo 152 1).Nodup := by decide +kernel
theorem syn_pow_inj {p q : Nat} (hp : p < 152) (hq : q < 152) (h : syn (2 ^ p) = syn (2 ^ q)) : p = q := by
  have e : syn (2 ^ 0) = 1 := by decide +kernel
  have h1 := powsTo_get 152 0 p hp
  have h2 := powsTo_get 152 0 q hq
  rw [e, Nat.zero_add] at h1 h2
  rw [h] at h1
  obtain ⟨a1, b1⟩ := List.getElem?_eq_some_iff.mp h1
  obtain ⟨a2, b2⟩ := List.getElem?_eq_some_iff.mp h2
  exact (List.getElem_inj pows_nodup).mp (b1.trans b2.symm)
theorem sees : ∀ {ps : List Nat} {bs : List Bool}, ps ≠ [] → ps.length ≤ 3 → ps.Nodup → (∀ p ∈ ps, p < bs.length + 16) → bs.length + 16 ≤ 152 → syn (natOf (flips (codedB bs) ps)) ≠ 0
  | [], _, h, _, _, _, _ => absurd rfl h
  | [p], bs, _, _, _, h, hl => fun e => by
    rw [syn_flips _ _ (fun q hq => by rw [codedB_len]; exact h q hq), syn_codedB] at e
    simp only [List.map_cons, List.map_nil, List.foldl_cons, List.foldl_nil, Nat.zero_xor] at e
    have := par_synp p
    rw [e] at this
    revert this
    decide +kernel
  | [p, q], bs, _, _, hn, h, hl => fun e => by
    rw [syn_flips _ _ (fun q hq => by rw [codedB_len]; exact h q hq), syn_codedB] at e
    simp only [List.map_cons, List.map_nil, List.foldl_cons, List.foldl_nil, Nat.zero_xor] at e
    have e2 : syn (2 ^ p) = syn (2 ^ q) := by
      have := congrArg (· ^^^ syn (2 ^ q)) e
      simpa [Nat.xor_assoc] using this
    have hp := h p (by simp)
    have hq := h q (by simp)
    have := syn_pow_inj (by omega) (by omega) e2
    subst this
    simp at hn
  | [p, q, r], bs, _, _, _, h, hl => fun e => by
    rw [syn_flips _ _ (fun q hq => by rw [codedB_len]; exact h q hq), syn_codedB] at e
    simp only [List.map_cons, List.map_nil, List.foldl_cons, List.foldl_nil, Nat.zero_xor] at e
    have := par_xor (syn (2 ^ p) ^^^ syn (2 ^ q)) (syn (2 ^ r))
    rw [e, par_xor, par_synp, par_synp, par_synp] at this
    revert this
    decide +kernel
  | _ :: _ :: _ :: _ :: _, _, _, h, _, _, _ => by simp at h
end K54

set_option linter.all false
set_option maxRecDepth 100000
set_option maxHeartbeats 1000000
/-! Plain mathematics: packets' bytes and fields; ways through a table. -/
namespace K54
/-! ### rows of bytes -/
def IsB (x : Int) : Prop := 0 ≤ x ∧ x ≤ 255
def bitsOf (row : List Int) : List Bool := row.flatMap fun b => spr b.toNat 8
theorem bitsOf_cons (b : Int) (r : List Int) : bitsOf (b :: r) = spr b.toNat 8 ++ bitsOf r := rfl
theorem bitsOf_app (a b : List Int) : bitsOf (a ++ b) = bitsOf a ++ bitsOf b := by
  unfold bitsOf
  rw [List.flatMap_append]
theorem bitsOf_len : ∀ row : List Int, (bitsOf row).length = 8 * row.length
  | [] => rfl
  | b :: r => by
    rw [bitsOf_cons, List.length_append, spr_len, bitsOf_len r, List.length_cons]
    omega
/-- the bytes that a row of bits begins with -/
def byteAt (bits : List Bool) (at_ : Nat) : Nat := natOf ((bits.drop at_).take 8)
def rowOf (bits : List Bool) (n : Nat) : List Int := (List.range n).map fun j => ((byteAt bits (8 * j) : Nat) : Int)
theorem rowOf_len (bits : List Bool) (n : Nat) : (rowOf bits n).length = n := by simp [rowOf]
theorem rowOf_succ (bits : List Bool) (n : Nat) : rowOf bits (n + 1) = rowOf bits n ++ [((byteAt bits (8 * n) : Nat) : Int)] := by
  unfold rowOf
  rw [List.range_succ, List.map_append]
  rfl
theorem rowOf_bits : ∀ (row : List Int) (more : List Bool), (∀ b ∈ row, IsB b) → rowOf (bitsOf row ++ more) row.length = row := by
  intro row
  induction row with
  | nil => intro more _; rfl
  | cons b r ih =>
    intro more h
    have hb := h b (List.mem_cons_self ..)
    have hr := ih more fun x hx => h x (List.mem_cons_of_mem _ hx)
    have e : rowOf (bitsOf (b :: r) ++ more) (b :: r).length = ((byteAt (bitsOf (b :: r) ++ more) 0 : Nat) : Int) :: rowOf (bitsOf r ++ more) r.length := by
      unfold rowOf
      rw [List.length_cons, List.range_succ_eq_map, List.map_cons, List.map_map]
      congr 1
    rw [e, hr]
    congr 1
    unfold byteAt
    rw [bitsOf_cons, List.append_assoc, List.drop_zero, List.take_append_of_le_length (by rw [spr_len]; exact Nat.le_refl _), List.take_of_length_le (by rw [spr_len]; exact Nat.le_refl _)]
    rw [natOf_spr _ _ (by have := hb.1; have := hb.2; omega)]
    have := hb.1
    omega
/-! ### the sum -/
def totI (xs : List Int) : Nat → Int
  | 0 => 0
  | i + 1 => totI xs i + (xs.getD (2 * i) 0 * 256 + xs.getD (2 * i + 1) 0)
def ones (t : Int) : Int := if t = 0 then 0 else (t - 1) % 65535 + 1
def sumOf (xs : List Int) : Int := 65535 - ones (totI xs 6)
theorem ones_small {t : Int} (h0 : 0 ≤ t) (h : t ≤ 65535) : ones t = t := by
  unfold ones
  split <;> omega
theorem ones_turn {t : Int} (h : 65535 < t) : ones (t / 65536 + t % 65536) = ones t := by
  unfold ones
  split <;> split <;> omega
theorem ones_range (t : Int) : 0 ≤ ones t ∧ ones t ≤ 65535 := by
  unfold ones
  split <;> omega
theorem sumOf_range (xs : List Int) : 0 ≤ sumOf xs ∧ sumOf xs ≤ 65535 := by
  have := ones_range (totI xs 6)
  unfold sumOf
  omega
theorem totI_app (a b : List Int) : ∀ i, 2 * i ≤ a.length → totI (a ++ b) i = totI a i
  | 0, _ => rfl
  | i + 1, h => by
    show totI (a ++ b) i + _ = totI a i + _
    rw [totI_app a b i (by omega)]
    have e : ∀ j, j < a.length → (a ++ b).getD j 0 = a.getD j 0 := fun j hj => by
      simp [List.getD_eq_getElem?_getD, List.getElem?_append_left hj]
    rw [e _ (by omega), e _ (by omega)]
theorem totI_range {xs : List Int} (hb : ∀ x ∈ xs, IsB x) : ∀ i, 0 ≤ totI xs i ∧ totI xs i ≤ 65535 * i
  | 0 => by simp [totI]
  | i + 1 => by
    have ih := totI_range hb i
    have e : ∀ j, IsB (xs.getD j 0) := fun j => by
      rw [List.getD_eq_getElem?_getD]
      cases q : xs[j]? with
      | none => exact ⟨by decide, by decide⟩
      | some y => exact hb y (List.mem_of_getElem? q)
    have h1 := e (2 * i)
    have h2 := e (2 * i + 1)
    unfold IsB at h1 h2
    simp only [totI]
    omega
/-! ### packets -/
structure Fl where
  src : Int
  tgt : Int
  kind : Int
  life : Int
  name : Int
  first : Int
  more : Bool
  data : List Int
  deriving DecidableEq
structure FlOk (f : Fl) : Prop where
  src : IsB f.src
  tgt : IsB f.tgt
  kind : IsB f.kind
  life : IsB f.life
  name0 : 0 ≤ f.name
  name1 : f.name ≤ 65535
  first : f.first = 0
  more : f.more = false
  data : ∀ b ∈ f.data, IsB b
  len : f.data.length ≤ 3
def hd10 (f : Fl) : List Int := [f.kind, f.life, f.src, f.tgt, f.name / 256, f.name % 256, f.first / 256, f.first % 256, b2z f.more, 0]
def hd12 (f : Fl) : List Int := hd10 f ++ [((f.data.length : Nat) : Int) / 256, ((f.data.length : Nat) : Int) % 256]
def pkBytes (f : Fl) : List Int := hd12 f ++ [sumOf (hd12 f) / 256, sumOf (hd12 f) % 256] ++ f.data
theorem hd12_len (f : Fl) : (hd12 f).length = 12 := rfl
theorem pk_len (f : Fl) : (pkBytes f).length = 14 + f.data.length := by
  unfold pkBytes
  rw [List.length_append, List.length_append, hd12_len]
  rfl
theorem hd12_B {f : Fl} (h : FlOk f) : ∀ x ∈ hd12 f, IsB x := by
  intro x hx
  have a1 := h.src; have a2 := h.tgt; have a3 := h.kind; have a4 := h.life; have a5 := h.name0; have a6 := h.name1; have a7 := h.first; have a8 := h.len
  unfold IsB at *
  unfold hd12 hd10 at hx
  simp only [List.cons_append, List.nil_append, List.mem_cons, List.not_mem_nil, or_false, a7, h.more, b2z] at hx
  rcases hx with rfl | rfl | rfl | rfl | rfl | rfl | rfl | rfl | rfl | rfl | rfl | rfl <;> first | assumption | omega | (simp; omega) | simp
theorem pk_B {f : Fl} (h : FlOk f) : ∀ x ∈ pkBytes f, IsB x := by
  intro x hx
  unfold pkBytes at hx
  rcases List.mem_append.mp hx with hx | hx
  · rcases List.mem_append.mp hx with hx | hx
    · exact hd12_B h x hx
    · have := sumOf_range (hd12 f)
      unfold IsB
      simp only [List.mem_cons, List.not_mem_nil, or_false] at hx
      rcases hx with rfl | rfl <;> omega
  · exact h.data x hx
theorem sum_pk (f : Fl) : sumOf (pkBytes f) = sumOf (hd12 f) := by
  unfold sumOf pkBytes
  rw [List.append_assoc, totI_app _ _ 6 (by rw [hd12_len]; decide)]
/-- the fields that a row of bytes tells -/
def fieldsP (row : List Int) : Fl where
  src := row.getD 2 0
  tgt := row.getD 3 0
  kind := row.getD 0 0
  life := row.getD 1 0
  name := row.getD 4 0 * 256 + row.getD 5 0
  first := row.getD 6 0 * 256 + row.getD 7 0
  more := decide (row.getD 8 0 = 1)
  data := row.drop 14
theorem fields_pk {f : Fl} (h : FlOk f) : fieldsP (pkBytes f) = f := by
  obtain ⟨a, b, c, d, n, fi, m, da⟩ := f
  have h1 : fi = 0 := h.first
  have h2 : m = false := h.more
  subst h1 h2
  unfold fieldsP pkBytes hd12 hd10
  simp [b2z]
  omega
/-- the bits of a packet in which some are turned -/
def bitsT (f : Fl) (ps : List Nat) : List Bool := flips (codedB (bitsOf (pkBytes f))) ps
theorem bitsT_len (f : Fl) (ps : List Nat) : (bitsT f ps).length = 8 * (14 + f.data.length) + 16 := by
  unfold bitsT
  rw [flips_len, codedB_len, bitsOf_len, pk_len]
theorem bitsT_sees {f : Fl} {ps : List Nat} (h : FlOk f) (h0 : ps ≠ []) (h3 : ps.length ≤ 3) (hn : ps.Nodup) (hl : ∀ p ∈ ps, p < 8 * (14 + f.data.length) + 16) : syn (natOf (bitsT f ps)) ≠ 0 := by
  have := h.len
  refine sees h0 h3 hn (fun p hp => ?_) ?_
  · rw [bitsOf_len, pk_len]
    exact hl p hp
  · rw [bitsOf_len, pk_len]
    omega
theorem rowOf_T (f : Fl) (h : FlOk f) : rowOf (bitsT f []) (14 + f.data.length) = pkBytes f := by
  have := rowOf_bits (pkBytes f) (spr (syn (natOf (bitsOf (pkBytes f)) * 2 ^ 16)) 16) (pk_B h)
  rw [pk_len] at this
  exact this
/-! ### ways -/
def lastI (l : List Int) : Int := l.getLast?.getD 0
theorem lastI_snoc (l : List Int) (x : Int) : lastI (l ++ [x]) = x := by simp [lastI]
def walkP (nx : Int → Option Int) (t : Int) : Nat → List Int → List Int × Option Int
  | 0, f => (f, none)
  | n + 1, f => if lastI f = t then (f, none) else match nx (lastI f) with
    | none => (f, none)
    | some y => if y ∈ f then (f, some y) else walkP nx t n (f ++ [y])
inductive WR where
  | non
  | lst (l : List Int)
  | ring (l : List Int)
  deriving DecidableEq
def rotL (l : List Int) : List Int := match l.min? with
  | some m => l.drop (l.idxOf m) ++ l.take (l.idxOf m)
  | none => l
def wayOf (t : Int) (r : List Int × Option Int) : WR := match r.2 with
  | some y => .ring (rotL (r.1.drop (r.1.idxOf y)))
  | none => if lastI r.1 = t then .lst r.1 else .non
/-- the k-th place that is come to -/
def it (nx : Int → Option Int) (t p : Int) : Nat → Option Int
  | 0 => some p
  | k + 1 => (it nx t p k).bind fun x => if x = t then none else nx x
/-- the places up to the k-th -/
def path (nx : Int → Option Int) (t p : Int) : Nat → List Int
  | 0 => [p]
  | k + 1 => path nx t p k ++ [((it nx t p (k + 1)).getD 0)]
section
variable {nx : Int → Option Int} {t p : Int}
theorem path_len : ∀ k, (path nx t p k).length = k + 1
  | 0 => rfl
  | k + 1 => by
    show (path nx t p k ++ [_]).length = _
    rw [List.length_append, path_len k]
    rfl
theorem path_last {k : Nat} {x : Int} (h : it nx t p k = some x) : lastI (path nx t p k) = x := by
  cases k with
  | zero => exact Option.some.inj h
  | succ k =>
    show lastI (path nx t p k ++ [_]) = x
    rw [lastI_snoc, h]
    rfl
theorem it_succ {k : Nat} {x y : Int} (h : it nx t p k = some x) (hx : x ≠ t) (hy : nx x = some y) : it nx t p (k + 1) = some y := by
  show (it nx t p k).bind _ = _
  rw [h]
  show (if x = t then none else nx x) = _
  rw [if_neg hx, hy]
theorem it_none {k : Nat} {x : Int} (h : it nx t p k = some x) (hx : x = t ∨ nx x = none) : it nx t p (k + 1) = none := by
  show (it nx t p k).bind _ = _
  rw [h]
  show (if x = t then none else nx x) = _
  rcases hx with hx | hx
  · rw [if_pos hx]
  · rw [hx]
    split <;> rfl
theorem it_stop {k : Nat} (h : it nx t p k = none) : ∀ j, it nx t p (k + j) = none
  | 0 => h
  | j + 1 => by
    show (it nx t p (k + j)).bind _ = _
    rw [it_stop h j]
    rfl
theorem it_le {k j : Nat} {x : Int} (h : it nx t p k = some x) (hj : j ≤ k) : ∃ y, it nx t p j = some y := by
  cases e : it nx t p j with
  | some y => exact ⟨y, rfl⟩
  | none =>
    have := it_stop e (k - j)
    rw [show j + (k - j) = k by omega, h] at this
    cases this
theorem it_ne {k j : Nat} {x y : Int} (h : it nx t p k = some x) (hj : j < k) (hy : it nx t p j = some y) : y ≠ t := by
  intro e
  have h1 := it_none hy (.inl e)
  obtain ⟨z, hz⟩ := it_le h (show j + 1 ≤ k from hj)
  rw [h1] at hz
  cases hz
theorem mem_path : ∀ {k : Nat} {x y : Int}, it nx t p k = some x → y ∈ path nx t p k → ∃ i, i ≤ k ∧ it nx t p i = some y
  | 0, x, y, h, hy => by
    have : y = p := by simpa [path] using hy
    exact ⟨0, Nat.le_refl _, by rw [this]; rfl⟩
  | k + 1, x, y, h, hy => by
    obtain ⟨z, hz⟩ := it_le h (Nat.le_succ k)
    rcases List.mem_append.mp (show y ∈ path nx t p k ++ [_] from hy) with q | q
    · obtain ⟨i, hi, e⟩ := mem_path hz q
      exact ⟨i, by omega, e⟩
    · rw [h] at q
      have : y = x := by simpa using q
      exact ⟨k + 1, Nat.le_refl _, by rw [this]; exact h⟩
theorem it_round {i k : Nat} {y : Int} (h1 : it nx t p i = some y) (h2 : it nx t p k = some y) : ∀ j, it nx t p (i + j) = it nx t p (k + j)
  | 0 => h1.trans h2.symm
  | j + 1 => by
    show (it nx t p (i + j)).bind _ = (it nx t p (k + j)).bind _
    rw [it_round h1 h2 j]
theorem it_for_ever {i k : Nat} {y : Int} (hik : i < k) (h1 : it nx t p i = some y) (h2 : it nx t p k = some y) (j : Nat) : ∃ z, it nx t p j = some z := by
  induction j using Nat.strongRecOn with
  | _ j ih =>
    by_cases hj : j ≤ k
    · exact it_le h2 hj
    · have e := it_round h1 h2 (j - k)
      rw [show k + (j - k) = j by omega] at e
      obtain ⟨z, hz⟩ := ih (i + (j - k)) (by omega)
      exact ⟨z, e ▸ hz⟩
theorem nodup_sub : ∀ {l s : List Int}, l.Nodup → (∀ x ∈ l, x ∈ s) → l.length ≤ s.length
  | [], _, _, _ => Nat.zero_le _
  | a :: l, s, hn, h => by
    obtain ⟨h1, h2⟩ := List.nodup_cons.mp hn
    have ha := h a (List.mem_cons_self ..)
    have := nodup_sub (l := l) (s := s.erase a) h2 fun x hx => by
      have hx' := h x (List.mem_cons_of_mem _ hx)
      have : x ≠ a := fun e => h1 (e ▸ hx)
      exact (List.mem_erase_of_ne this).mpr hx'
    rw [List.length_erase_of_mem ha] at this
    have hp := List.length_pos_of_mem ha
    rw [List.length_cons]
    omega
/-- what a way is, told by the places that are come to -/
inductive Ways (nx : Int → Option Int) (t p : Int) : WR → Prop where
  | there (m : Nat) (h : it nx t p m = some t) : Ways nx t p (.lst (path nx t p m))
  | nowhere (m : Nat) (x : Int) (h : it nx t p m = some x) (hx : x ≠ t) (hn : nx x = none) : Ways nx t p .non
  | round (l : List Int) (h : ∀ k, ∃ x, it nx t p k = some x ∧ x ≠ t) : Ways nx t p (.ring l)
theorem ways_of {S : List Int} (hS : S.length ≤ 6) (hin : ∀ x y, nx x = some y → y ∈ S) : ∀ (n k : Nat) (x : Int), n + k = 8 → it nx t p k = some x → (path nx t p k).Nodup → (∀ y ∈ path nx t p k, y ∈ S) → Ways nx t p (wayOf t (walkP nx t n (path nx t p k)))
  | 0, k, x, hk, h, hn, hs => by
    have := nodup_sub hn hs
    rw [path_len] at this
    omega
  | n + 1, k, x, hk, h, hn, hs => by
    have hl := path_last h
    unfold walkP
    rw [hl]
    by_cases hx : x = t
    · rw [if_pos hx]
      unfold wayOf
      simp only [hl, hx, if_true]
      exact .there k (by rw [h, hx])
    · rw [if_neg hx]
      cases hy : nx x with
      | none =>
        unfold wayOf
        simp only [hl, hx, if_false]
        exact .nowhere k x h hx hy
      | some y =>
        have h' := it_succ h hx hy
        by_cases hm : y ∈ path nx t p k
        · simp only [hm, if_true]
          unfold wayOf
          obtain ⟨i, hi, e⟩ := mem_path h hm
          have all := it_for_ever (Nat.lt_succ_of_le hi) e h'
          refine .round _ fun j => ?_
          obtain ⟨z, hz⟩ := all j
          obtain ⟨z', hz'⟩ := all (j + 1)
          exact ⟨z, hz, it_ne hz' (Nat.lt_succ_self _) hz⟩
        · simp only [hm, if_false]
          have ep : path nx t p k ++ [y] = path nx t p (k + 1) := by
            show _ = path nx t p k ++ [_]
            rw [h']
            rfl
          rw [ep]
          refine ways_of hS hin n (k + 1) y (by omega) h' ?_ ?_
          · rw [← ep]
            refine List.nodup_append.mpr ⟨hn, by simp, ?_⟩
            intro a ha b hb e
            have : b = y := by simpa using hb
            subst this
            exact hm (e ▸ ha)
          · rw [← ep]
            intro z hz
            rcases List.mem_append.mp hz with q | q
            · exact hs z q
            · have : z = y := by simpa using q
              rw [this]
              exact hin x y hy
theorem Ways.at_target {r : WR} (w : Ways nx t p r) {j : Nat} (h : it nx t p j = some t) : r = .lst (path nx t p j) := by
  cases w with
  | there m hm =>
    have : m = j := by
      rcases Nat.lt_trichotomy m j with q | q | q
      · exact absurd rfl (it_ne h q hm)
      · exact q
      · exact absurd rfl (it_ne hm q h)
    rw [this]
  | nowhere m x hm hx hn =>
    exfalso
    have h1 := it_none hm (.inr hn)
    rcases Nat.lt_trichotomy m j with q | q | q
    · obtain ⟨z, hz⟩ := it_le h (show m + 1 ≤ j from q)
      rw [h1] at hz
      cases hz
    · subst q
      rw [hm] at h
      exact hx (Option.some.inj h)
    · exact it_ne hm q h rfl
  | round l hr =>
    exfalso
    obtain ⟨x, hx, hne⟩ := hr j
    rw [h] at hx
    exact hne (Option.some.inj hx).symm
end
end K54

set_option Elab.async false
set_option linter.all false
set_option maxRecDepth 100000
set_option maxHeartbeats 4000000
/-! The promises of the defs that change nothing. -/
namespace K54
open PySem PySem.Spec PyProof.Rows L2 Evl
def bv (b : Bool) : V := .int (b2z b)
def bvs (bs : List Bool) : List V := bs.map bv
def ivs (xs : List Int) : List V := xs.map V.int
theorem bvs_len (bs : List Bool) : (bvs bs).length = bs.length := by simp [bvs]
theorem ivs_len (bs : List Int) : (ivs bs).length = bs.length := by simp [ivs]
theorem bvs_app (a b : List Bool) : bvs (a ++ b) = bvs a ++ bvs b := by simp [bvs]
theorem ivs_app (a b : List Int) : ivs (a ++ b) = ivs a ++ ivs b := by simp [ivs]
/-- a tuple of these -/
def RetT (xs : List V) (H : Hp) (Q : VK) : Prop := ∀ p H2, Ex H H2 → H2 p = some (.tup xs) → Q (.ref p) H2
theorem RetV.here {v : V} {H : Hp} {Q : VK} (h : RetV v H Q) : Q v H := h H (Ex.refl H)
section
variable {K : PySem.W.Frag}
theorem isi_ii : PySem.W.kitOne K (.type "int") (.type "int") = some true := kit_ty (by decide +kernel)
theorem isi_ib : PySem.W.kitOne K (.type "int") (.type "bool") = some false := kit_ty (by decide +kernel)
theorem isi_tt : PySem.W.kitOne K (.type "tuple") (.type "tuple") = some true := kit_ty (by decide +kernel)
theorem isi_ll : PySem.W.kitOne K (.type "list") (.type "list") = some true := kit_ty (by decide +kernel)
theorem isi_dd : PySem.W.kitOne K (.type "dict") (.type "dict") = some true := kit_ty (by decide +kernel)
theorem isi_bb : PySem.W.kitOne K (.type "bool") (.type "bool") = some true := kit_ty (by decide +kernel)
end
theorem szl {n : Nat} (h : n ≤ 100000) : n ≤ sizeLine := Nat.le_trans h (by decide)
theorem szlt {n : Nat} (h : n < 100000) : n < sizeLine := Nat.lt_of_lt_of_le h (by decide)
theorem le_T {a b : Int} {A B : Prop} (h : a ≤ b) (q : A) : if (decide (a ≤ b)) = true then A else B := by rw [decide_eq_true h]; exact iteT q
/-! ### bits, codes -/
def sp_is_whole (K : PySem.W.Frag) : Sp := fun vs H Q _ => ∃ i a b : Int, vs = [.int i, .int a, .int b] ∧ a ≤ i ∧ i ≤ b ∧ Q (.bl true) H
def sp_is_bits (K : PySem.W.Frag) : Sp := fun vs H Q _ => ∃ (p : Addr) (bs : List Bool), vs = [.ref p] ∧ H p = some (.tup (bvs bs)) ∧ bs.length ≤ 200 ∧ RetV (.bl true) H Q
def sp_spread (K : PySem.W.Frag) : Sp := fun vs H Q _ => ∃ n m : Nat, vs = [.int n, .int m] ∧ m ≤ 1000 ∧ RetL (bvs (spr n m)) H Q
def sp_gathered (K : PySem.W.Frag) : Sp := fun vs H Q _ => ∃ (p : Addr) (bs : List Bool), vs = [.ref p] ∧ H p = some (.tup (bvs bs)) ∧ bs.length ≤ 200 ∧ Q (.int ((natOf bs : Nat) : Int)) H
def sp_bits_by (K : PySem.W.Frag) : Sp := fun vs H Q _ => ∃ n m : Nat, vs = [.int n, .int m] ∧ m ≤ 1000 ∧ n < 2 ^ m ∧ RetT (bvs (spr n m)) H Q
def sp_number_of (K : PySem.W.Frag) : Sp := fun vs H Q _ => ∃ (p : Addr) (bs : List Bool), vs = [.ref p] ∧ H p = some (.tup (bvs bs)) ∧ bs.length ≤ 200 ∧ RetV (.int ((natOf bs : Nat) : Int)) H Q
def sp_need_code (K : PySem.W.Frag) : Sp := fun vs H Q _ => ∃ _u : Unit, vs = [.int 69665] ∧ Q .non H
def sp_width (K : PySem.W.Frag) : Sp := fun vs H Q _ => ∃ _u : Unit, vs = [.int 69665] ∧ Q (.int 16) H
def sp_divided (K : PySem.W.Frag) : Sp := fun vs H Q _ => ∃ n : Nat, vs = [.int n, .int 69665] ∧ n < 2 ^ 220 ∧ Q (.int ((syn n : Nat) : Int)) H
def sp_number_by (K : PySem.W.Frag) : Sp := sp_number_of K
def sp_coded (K : PySem.W.Frag) : Sp := fun vs H Q _ => ∃ (p : Addr) (bs : List Bool), vs = [.ref p, .int 69665] ∧ H p = some (.tup (bvs bs)) ∧ bs.length ≤ 180 ∧ RetT (bvs (codedB bs)) H Q
def sp_is_right (K : PySem.W.Frag) : Sp := fun vs H Q _ => ∃ (p : Addr) (bs : List Bool), vs = [.ref p, .int 69665] ∧ H p = some (.tup (bvs bs)) ∧ bs.length ≤ 200 ∧ RetV (.bl (decide (syn (natOf bs) = 0))) H Q
/-! ### packets -/
def sp_is_number_packets (K : PySem.W.Frag) : Sp := fun vs H Q _ => ∃ i b : Int, vs = [.int i, .int b] ∧ 0 ≤ i ∧ i ≤ b ∧ Q (.bl true) H
def sp_are_bytes (K : PySem.W.Frag) : Sp := fun vs H Q _ => ∃ (p : Addr) (m : Int) (xs : List Int), vs = [.ref p, .int m] ∧ H p = some (.tup (ivs xs)) ∧ (xs.length : Int) ≤ m ∧ xs.length ≤ 1000 ∧ (∀ x ∈ xs, IsB x) ∧ RetV (.bl true) H Q
def sp_two (K : PySem.W.Frag) : Sp := fun vs H Q _ => ∃ n : Int, vs = [.int n] ∧ RetT [.int (n / 256), .int (n % 256)] H Q
def sp_of_two (K : PySem.W.Frag) : Sp := fun vs H Q _ => ∃ (p : Addr) (j : Nat) (xs : List Int), vs = [.ref p, .int j] ∧ H p = some (.tup (ivs xs)) ∧ j + 1 < xs.length ∧ Q (.int (xs.getD j 0 * 256 + xs.getD (j + 1) 0)) H
def sp_sum_of (K : PySem.W.Frag) : Sp := fun vs H Q _ => ∃ (p : Addr) (xs : List Int), vs = [.ref p] ∧ H p = some (.tup (ivs xs)) ∧ 12 ≤ xs.length ∧ (∀ x ∈ xs, IsB x) ∧ Q (.int (sumOf xs)) H
def pkF (f : Fl) (d : Addr) : List (Str × V) := putF "data" (.ref d) (putF "more" (.bl f.more) (putF "first" (.int f.first) (putF "name" (.int f.name) (putF "life" (.int f.life) (putF "kind" (.int f.kind) (putF "target" (.int f.tgt) (putF "source" (.int f.src) [])))))))
/-- a Packet -/
def PkR (K : PySem.W.Frag) (H : Hp) (x : Addr) (f : Fl) : Prop := ∃ dx d, H x = some (.ins (He.ga K "Packet") dx (pkF f d)) ∧ H d = some (.tup (ivs f.data))
def flV (f : Fl) (d : Addr) : List V := [.int f.src, .int f.tgt, .int f.kind, .int f.life, .int f.name, .int f.first, .bl f.more, .ref d]
/-- the tuple of a packet's fields -/
def FlR (H : Hp) (a : Addr) (f : Fl) : Prop := ∃ d, H a = some (.tup (flV f d)) ∧ H d = some (.tup (ivs f.data))
theorem PkR.ex {K : PySem.W.Frag} {H H' : Hp} {x : Addr} {f : Fl} (h : PkR K H x f) (e : Ex H H') : PkR K H' x f := let ⟨dx, d, a, b⟩ := h; ⟨dx, d, e _ _ a, e _ _ b⟩
theorem FlR.ex {H H' : Hp} {x : Addr} {f : Fl} (h : FlR H x f) (e : Ex H H') : FlR H' x f := let ⟨d, a, b⟩ := h; ⟨d, e _ _ a, e _ _ b⟩
def sp_Packet_init (K : PySem.W.Frag) : Sp := fun vs H Q _ => ∃ (x dx d : Addr) (f : Fl), vs = [.ref x, .int f.src, .int f.tgt, .int f.kind, .int f.life, .int f.name, .int f.first, .bl f.more, .ref d] ∧ H x = some (.ins (He.ga K "Packet") dx []) ∧ H d = some (.tup (ivs f.data)) ∧ FlOk f ∧
  ∀ H2, (∀ a o, H a = some o → a ≠ x → H2 a = some o) → H2 x = some (.ins (He.ga K "Packet") dx (pkF f d)) → Q .non H2
def sp_Packet_told (K : PySem.W.Frag) : Sp := fun vs H Q _ => ∃ (x : Addr) (f : Fl), vs = [.ref x] ∧ PkR K H x f ∧ ∀ p H2, Ex H H2 → FlR H2 p f → Q (.ref p) H2
def sp_packet_bytes (K : PySem.W.Frag) : Sp := fun vs H Q _ => ∃ (x : Addr) (f : Fl), vs = [.ref x] ∧ PkR K H x f ∧ FlOk f ∧ RetT (ivs (pkBytes f)) H Q
def sp_packet_by (K : PySem.W.Frag) : Sp := fun vs H Q _ => ∃ (p : Addr) (f : Fl), vs = [.ref p] ∧ H p = some (.tup (ivs (pkBytes f))) ∧ FlOk f ∧ ∀ x H2, H x = none → Ex H H2 → PkR K H2 x f → Q (.ref x) H2
end K54

set_option Elab.async false
set_option linter.all false
set_option maxRecDepth 100000
set_option maxHeartbeats 4000000
/-! Helpers: comprehensions whose elements change nothing. -/
namespace K54
open PySem PySem.Spec PyProof.Rows L2 Evl
theorem range_take {α : Type} (v : Nat → α) {n i : Nat} (h : i ≤ n) : ((List.range n).map v).take i = (List.range i).map v := by
  rw [← List.map_take, List.take_range, Nat.min_eq_left h]
theorem take_succ' {α : Type} {l : List α} {i : Nat} {x : α} (h : l[i]? = some x) : l.take (i + 1) = l.take i ++ [x] := by
  rw [List.take_add_one, h]
  rfl
section
variable {g : TG} {te : TE} {vs : List Nat} {σ : L2.St} {H1 : Hp} {D : Addr} {Qd : Hp → Prop} {K : PySem.W.Frag}
/-- the word of such a comprehension behind i items -/
def LcW (H1 : Hp) (D : Addr) (xs : List V) (i : Nat) (H : Hp) : Prop := Ex H1 H ∧ H D = some (.lst (xs.take i))
theorem lcw_0 {xs : List V} (hD : H1 D = none) : LcW H1 D xs 0 (upd H1 D (.lst [])) := ⟨Ex.new hD, upd_same⟩
theorem lcw_step {xs : List V} {i : Nat} {y : V} {H H4 : Hp} (hD : H1 D = none) (hi : xs[i]? = some y) (w : LcW H1 D xs i H) (e : Ex H H4) (hz : xs.length ≤ 50000) : ∃ acc, H4 D = some (.lst acc) ∧ acc.length < sizeLine ∧ LcW H1 D xs (i + 1) (upd H4 D (.lst (acc ++ [y]))) := by
  refine ⟨xs.take i, e _ _ w.2, szlt ?_, Ex.mut (w.1.trans e) hD, ?_⟩
  · rw [List.length_take]
    omega
  · rw [upd_same, take_succ' hi]
theorem lcw_end {xs : List V} {n : Nat} {H : Hp} (w : LcW H1 D xs n H) (hn : xs.length = n) : Ex H1 H ∧ H D = some (.lst xs) := by
  subst hn
  have := w.2
  rw [List.take_length] at this
  exact ⟨w.1, this⟩
/-- over range(n) -/
theorem lcR {n j : Nat} (v : Nat → V) (hD : H1 D = none) (hn : n ≤ 50000) (hw : ∀ x, wipe ((wipe σ vs).set j (some x)) vs = wipe σ vs)
    (hs : ∀ (i : Nat) H, i < n → Ex H1 H → ∀ Q : VK, (∀ H2, Ex H H2 → Q (v i) H2) → te ((wipe σ vs).set j (some (.int (0 + (i : Nat))))) H Q)
    (hd : ∀ H, Ex H1 H → H D = some (.lst ((List.range n).map v)) → Qd H) :
    ∃ W : Nat → Nat → Hp → Prop, (∃ m, W 0 m (upd H1 D (.lst []))) ∧ ∀ i m H, W i m H →
      ((Itr 0 n).stop i H ∧ Qd H) ∨ ((Itr 0 n).go i H ∧ ∃ Nx : Hp → Prop, (∀ H', Nx H' → ∃ m', m' < m ∧ W (i + 1) m' H') ∧ ∀ x H', (Itr 0 n).yld i H x H' → gName j x (wipe σ vs) H' fun σ2 H2 => wipe σ2 vs = wipe σ vs ∧ tYes σ2 H2 fun b H3 =>
        if b = true then te σ2 H3 fun y H4 => ∃ acc, H4 D = some (.lst acc) ∧ acc.length < sizeLine ∧ Nx (upd H4 D (.lst (acc ++ [y]))) else Nx H3) := by
  have hl : ((List.range n).map v).length = n := by simp
  refine lc_range (lo := 0) (n := n) (LcW H1 D ((List.range n).map v)) (lcw_0 hD) (fun i H hi p => ?_) (fun H p => ?_)
  · refine ⟨hw _, ?_⟩
    refine hs i H hi p.1 _ fun H2 e2 => lcw_step hD ?_ p e2 (by rw [hl]; exact hn)
    rw [List.getElem?_map, List.getElem?_range hi]
    rfl
  · obtain ⟨a, b⟩ := lcw_end p hl
    exact hd H a b
/-- over a tuple -/
theorem lcT {a : Addr} {xs ys : List V} {j : Nat} (hD : H1 D = none) (ha : H1 a = some (.tup xs)) (hl : ys.length = xs.length) (hn : xs.length ≤ 50000) (hw : ∀ x, wipe ((wipe σ vs).set j (some x)) vs = wipe σ vs)
    (hs : ∀ (i : Nat) x y H, xs[i]? = some x → ys[i]? = some y → Ex H1 H → ∀ Q : VK, (∀ H2, Ex H H2 → Q y H2) → te ((wipe σ vs).set j (some x)) H Q)
    (hd : ∀ H, Ex H1 H → H D = some (.lst ys) → Qd H) :
    ∃ W : Nat → Nat → Hp → Prop, (∃ m, W 0 m (upd H1 D (.lst []))) ∧ ∀ i m H, W i m H →
      ((Itt K a).stop i H ∧ Qd H) ∨ ((Itt K a).go i H ∧ ∃ Nx : Hp → Prop, (∀ H', Nx H' → ∃ m', m' < m ∧ W (i + 1) m' H') ∧ ∀ x H', (Itt K a).yld i H x H' → gName j x (wipe σ vs) H' fun σ2 H2 => wipe σ2 vs = wipe σ vs ∧ tYes σ2 H2 fun b H3 =>
        if b = true then te σ2 H3 fun y H4 => ∃ acc, H4 D = some (.lst acc) ∧ acc.length < sizeLine ∧ Nx (upd H4 D (.lst (acc ++ [y]))) else Nx H3) := by
  refine lc_tup (xs := xs) (LcW H1 D ys) (lcw_0 hD) (fun i H _ p => SqT.of (p.1 _ _ ha)) (fun i x H hi p => ?_) (fun H p => ?_)
  · refine ⟨hw _, ?_⟩
    have hi' : i < ys.length := by rw [hl]; exact (List.getElem?_eq_some_iff.mp hi).1
    exact hs i x ys[i] H hi (List.getElem?_eq_getElem hi') p.1 _ fun H2 e2 => lcw_step hD (List.getElem?_eq_getElem hi') p e2 (by rw [hl]; exact hn)
  · obtain ⟨a, b⟩ := lcw_end p hl
    exact hd H a b
/-- over a list that stands -/
theorem lcL {a : Addr} {xs ys : List V} {j : Nat} (hD : H1 D = none) (ha : H1 a = some (.lst xs)) (hl : ys.length = xs.length) (hn : xs.length ≤ 50000) (hw : ∀ x, wipe ((wipe σ vs).set j (some x)) vs = wipe σ vs)
    (hs : ∀ (i : Nat) x y H, xs[i]? = some x → ys[i]? = some y → Ex H1 H → ∀ Q : VK, (∀ H2, Ex H H2 → Q y H2) → te ((wipe σ vs).set j (some x)) H Q)
    (hd : ∀ H, Ex H1 H → H D = some (.lst ys) → Qd H) :
    ∃ W : Nat → Nat → Hp → Prop, (∃ m, W 0 m (upd H1 D (.lst []))) ∧ ∀ i m H, W i m H →
      ((Itl K a).stop i H ∧ Qd H) ∨ ((Itl K a).go i H ∧ ∃ Nx : Hp → Prop, (∀ H', Nx H' → ∃ m', m' < m ∧ W (i + 1) m' H') ∧ ∀ x H', (Itl K a).yld i H x H' → gName j x (wipe σ vs) H' fun σ2 H2 => wipe σ2 vs = wipe σ vs ∧ tYes σ2 H2 fun b H3 =>
        if b = true then te σ2 H3 fun y H4 => ∃ acc, H4 D = some (.lst acc) ∧ acc.length < sizeLine ∧ Nx (upd H4 D (.lst (acc ++ [y]))) else Nx H3) := by
  refine lc_list (xs := xs) (LcW H1 D ys) (lcw_0 hD) (fun i H _ p => SqL.of (p.1 _ _ ha)) (fun i x H hi p => ?_) (fun H p => ?_)
  · refine ⟨hw _, ?_⟩
    have hi' : i < ys.length := by rw [hl]; exact (List.getElem?_eq_some_iff.mp hi).1
    exact hs i x ys[i] H hi (List.getElem?_eq_getElem hi') p.1 _ fun H2 e2 => lcw_step hD (List.getElem?_eq_getElem hi') p e2 (by rw [hl]; exact hn)
  · obtain ⟨a, b⟩ := lcw_end p hl
    exact hd H a b
end
theorem sz_2 : 2 ≤ sizeLine := by decide
theorem sz_3 : 3 ≤ sizeLine := by decide
theorem sz_4 : 4 ≤ sizeLine := by decide
theorem sz_6 : 6 ≤ sizeLine := by decide
theorem sz_8 : 8 ≤ sizeLine := by decide
theorem sz_12 : 12 ≤ sizeLine := by decide
theorem sz_14 : 14 ≤ sizeLine := by decide
/-! ### fields -/
theorem putF_le {f : Str} {v : V} {fs : List (Str × V)} {k : Nat} (h : fs.length ≤ k) : (putF f v fs).length ≤ k + 1 := Nat.le_trans (length_putF f v fs) (Nat.succ_le_succ h)
theorem lt1000 {n k : Nat} (h : n ≤ k) (hk : k < 1000 := by decide) : n < 1000 := Nat.lt_of_le_of_lt h hk
section
variable {K : PySem.W.Frag} {H : Hp} {x C dx : Addr} {fs : List (Str × V)} {f : Str} {v : V}
theorem rd_fld {Q : VK} (h : H x = some (.ins C dx fs)) (cl : Cls K C) (na : NoAttr K C f) (l : fs.lookup f = some v) (q : Q v H) : ∃ a C dx fs v, V.ref x = .ref a ∧ H a = some (.ins C dx fs) ∧ Cls K C ∧ NoAttr K C f ∧ fs.lookup f = some v ∧ Q v H := ⟨x, C, dx, fs, v, rfl, h, cl, na, l, q⟩
theorem wr_fld {Q : Hp → Prop} {y : V} (h : H x = some (.ins C dx fs)) (cl : Cls K C) (na : NoAttr K C f) (l : fs.length < 1000) (q : Q (upd H x (.ins C dx (putF f y fs)))) : ∃ a C dx fs, V.ref x = .ref a ∧ H a = some (.ins C dx fs) ∧ Cls K C ∧ NoAttr K C f ∧ fs.length < 1000 ∧ Q (upd H a (.ins C dx (putF f y fs))) := ⟨x, C, dx, fs, rfl, h, cl, na, l, q⟩
end
theorem lk_same {f : Str} {v : V} {fs : List (Str × V)} : (putF f v fs).lookup f = some v := by rw [lookup_putF, if_pos rfl]
theorem lk_ne {f g : Str} {v : V} {fs : List (Str × V)} {r : Option V} (h : ¬ g = f) (k : fs.lookup g = r) : (putF f v fs).lookup g = r := by rw [lookup_putF, if_neg h]; exact k
/-- behind stores at x and laid objects -/
theorem mem_at {xs : List V} {i : Nat} {x : V} (h : xs[i]? = some x) : x ∈ xs := List.mem_of_getElem? h
theorem at_ivs {xs : List Int} {j : Nat} (h : j < xs.length) : atI (ivs xs) ((j : Nat) : Int) = some (.int (xs.getD j 0)) := by
  refine atI_nat ?_
  unfold ivs
  rw [List.getElem?_map, List.getD_eq_getElem?_getD, List.getElem?_eq_getElem h]
  rfl
/-! ### t += u (tuples, none of them empty) -/
theorem tup_iadd_none : typeLookup (.type "tuple") (dunderI "add") = pure none := am_miss_of_fast (by first | decide +kernel | rfl)
section
open HT
theorem cat_tupI {prog : Program} {w : World} {A : Around} {E : Value → Shared → Prop} {s : Shared} {t b : Addr} {vs ws : List Value} {Q : Value → Shared → Prop} (ht : IsTup s.heap t vs.toArray) (hb : IsTup s.heap b ws.toArray) (hv : vs ≠ []) (hw : ws ≠ [])
    (h2 : Q (.ref s.heap.objs.size) { s with heap := s.heap.push { cls := .type "tuple", data := .seq (vs ++ ws).toArray } })
    (hsz : vs.length + ws.length ≤ sizeLine) : wpAny (model prog w) A (inplaceOp .Add (.ref t) (.ref b)) Q E s := by
  obtain ⟨⟨cls, dd, data, sl⟩, ho, hc, n, hd⟩ := id ht
  obtain ⟨⟨cls2, dd2, data2, sl2⟩, ho2, hc2, n2, hd2⟩ := id hb
  simp only at hc hd hc2 hd2
  subst hc hd hc2 hd2
  have e : vs.toArray ++ ws.toArray = (vs ++ ws).toArray := by simp
  refine wpAny_inplaceOp_concat ⟨_, ho, rfl⟩ ⟨_, ho2, rfl⟩ tup_iadd_none noFill_tuple_add seq_tuple_add (call_meets PySem.F.slot_tuple_add ⟨_, ho, rfl⟩ PySem.F.entry_tuple_add (PySem.F.args_tuple_add_2 _ _)
    (tuple_addW2 t b vs.toArray ws.toArray n n2 dd dd2 sl sl2 (by simpa using hv) (by simpa using hw) (by rw [List.size_toArray, List.size_toArray]; exact hsz)) ⟨ho, ho2, ?_⟩)
  rw [e]
  exact h2
end
def ipCat (K : PySem.W.Frag) : TIp := fun x y H Q => ∃ a b xs ys, x = .ref a ∧ y = .ref b ∧ SqT K H a xs ∧ SqT K H b ys ∧ xs ≠ [] ∧ ys ≠ [] ∧ xs.length + ys.length ≤ sizeLine ∧ ∀ p, H p = none → Q (.ref p) (upd H p (.tup (xs ++ ys)))
theorem ip_cat {X : Cx} : PIp X .Add (ipCat X.K) := by
  intro pins s σ H x y v u Q I rx ry h
  obtain ⟨a, b, xs, ys, rfl, rfl, ha, hb, hx, hy, hz, q2⟩ := h
  cases rx
  cases ry
  obtain ⟨its, r1, p1, _⟩ := I.tuple ha
  obtain ⟨its2, r2, p2, _⟩ := I.tuple hb
  refine cat_tupI p1 p2 (fun z => hx (r1.nil_iff.mp z)) (fun z => hy (r2.nil_iff.mp z)) ?_ (by rw [← r1.length, ← r2.length]; exact hz)
  refine ⟨.ref s.heap.objs.size, _, I.laid (t' := s.toks) (o := .tup (xs ++ ys)) (fun b ob q => Heap.get?_push_of_some _ q) (Nat.le_refl _) ?_, rfl, q2 _ (I.hok.fresh (Nat.le_refl _))⟩
  exact ⟨by rw [List.length_append]; exact hz, _, r1.append r2, IsTup.new _ _⟩
/-! ### xs != [] (a list of anything) -/
def rNeNil (K : PySem.W.Frag) : R2 := fun x y H Q => ∃ a b xs, x = .ref a ∧ y = .ref b ∧ SqL K H a xs ∧ SqL K H b [] ∧ Q (.bl (!xs.isEmpty)) H
theorem op_neNil {X : Cx} (hu : X.A.units < cLine) : OpR X (compareOp .NotEq) (rNeNil X.K) := by
  intro pins s σ H x y v u Q I rx ry h
  obtain ⟨a, b, xs, rfl, rfl, ha, hb, q⟩ := h
  cases rx
  cases ry
  obtain ⟨its, r1, p1, _⟩ := I.list ha
  obtain ⟨its2, r2, p2, _⟩ := I.list hb
  cases r2
  have fin : ∀ b : Bool, b = !xs.isEmpty → EP X pins σ Q (.bool b) s := fun b e => ⟨.bl b, H, I, rfl, by rw [e]; exact q⟩
  show wpAny (model X.prog X.w) X.A (richCompare .NotEq (.ref _) (.ref _)) _ _ _
  by_cases hz : its = []
  · subst hz
    cases r1
    exact SeqAt.RcNeAt.lists (e := fun _ => true) p1.isList p2.isList rfl hu (fun j h1 _ => absurd h1 (by simp)) _ _ _ _ (fin _ rfl)
  · have hx : xs.isEmpty = false := by
      cases r1 with
      | nil => exact absurd rfl hz
      | cons _ _ => rfl
    refine SeqAt.RcNeAt.lists_lengths p1.isList p2.isList ?_ hu _ _ _ _ (fin _ (by rw [hx]; rfl))
    cases its with
    | nil => exact absurd rfl hz
    | cons _ _ => rfl
theorem all_true (n : Nat) : (List.replicate n true).all id = true := by
  induction n with
  | zero => rfl
  | succ n ih => rw [List.replicate_succ, List.all_cons, ih]; rfl
theorem rep_get {n i : Nat} {y : V} (h : (List.map V.bl (List.replicate n true))[i]? = some y) : y = .bl true := by
  rw [List.getElem?_map, List.getElem?_replicate] at h
  split at h
  · exact (Option.some.inj h).symm
  · cases h
theorem pow_cast (k : Nat) : ((2 ^ k : Nat) : Int) = (2 : Int) ^ k := by push_cast; rfl
theorem xor_nat (a b : Nat) : Builtin.bitXor (a : Int) (b : Int) = ((a ^^^ b : Nat) : Int) := Bits.bitXor_pp (Int.natCast_nonneg a) (Int.natCast_nonneg b)
theorem bits_nat {n : Nat} (h : n ≠ 0) : Builtin.Int.intBits (n : Int) = n.log2 + 1 := by
  unfold Builtin.Int.intBits
  have : ((n : Int) == 0) = false := by simpa using h
  rw [this]
  rfl
end K54

set_option Elab.async false
set_option linter.all false
set_option maxRecDepth 100000
set_option maxHeartbeats 4000000
/-! Loops and comprehensions over locked dicts, by a word; printed by mkwalk.py. -/
namespace K54
open PySem PySem.Spec PyProof.Rows L2 Evl
/-- len of a dict that is read -/
theorem call_lenR {X : Cx} : CallR X (.builtin "len") (fun xs H Q => ∃ a kvs, xs = [V.ref a] ∧ Rd H a (.dK kvs) ∧ Q (.int ((kvs.length : Nat) : Int)) H) := by
  intro pins s σ H xs us Q I r h
  obtain ⟨a, kvs, rfl, ha, q⟩ := h
  obtain ⟨u, rfl, ru⟩ := vals1 r
  cases ru
  exact d_len I ha fun t s' I' => ⟨.int kvs.length, H, I', ⟨t, rfl⟩, q⟩
theorem for_keys {d : Addr} {o : Obj} {kvs : List (Key × V)} {g : TG} {tb : TS} {D : Ends} {σ : L2.St} {H : Hp} (Pv : Nat → L2.St → Hp → Prop) (h0 : Pv 0 σ H) (hl : ∀ i σ H, i ≤ kvs.length → Pv i σ H → H d = some (.frz o (.dK kvs)))
    (hs : ∀ i (k : Key) (v : V) σ H, kvs[i]? = some (k, v) → Pv i σ H → g (kV k) σ H fun σ2 H2 => tb { D with nx := Pv (i + 1), ct := Pv (i + 1), bk := D.nx } σ2 H2) (hd : ∀ σ H, Pv kvs.length σ H → D.nx σ H) :
    ∃ W : Nat → Nat → L2.St → Hp → Prop, (∃ m, W 0 m σ H) ∧ ∀ i m σ H, W i m σ H →
      ((Itk d o kvs).stop i H ∧ D.nx σ H) ∨ ((Itk d o kvs).go i H ∧ ∃ N : L2.St → Hp → Prop, (∀ σ' H', N σ' H' → ∃ m', m' < m ∧ W (i + 1) m' σ' H') ∧ ∀ x H', (Itk d o kvs).yld i H x H' → g x σ H' fun σ2 H2 => tb { D with nx := N, ct := N, bk := D.nx } σ2 H2) := by
  refine ⟨fun i m σ H => m = kvs.length - i ∧ i ≤ kvs.length ∧ Pv i σ H, ⟨kvs.length, by simp, Nat.zero_le _, h0⟩, ?_⟩
  rintro i m σ H ⟨rfl, hi, p⟩
  have q := hl i σ H hi p
  by_cases hlt : i < kvs.length
  · refine .inr ⟨⟨q, hlt⟩, Pv (i + 1), fun σ' H' p' => ⟨kvs.length - (i + 1), by omega, rfl, hlt, p'⟩, fun x H' y => ?_⟩
    obtain ⟨e, k, v, hk, hx⟩ := y
    subst e hx
    exact hs i k v σ _ hk p
  · have e : i = kvs.length := by omega
    subst e
    exact .inl ⟨⟨q, Nat.le_refl _⟩, hd σ H p⟩
theorem lc_keys {d : Addr} {o : Obj} {kvs : List (Key × V)} {g : TG} {tt : TT} {te : TE} {vs : List Nat} {σ : L2.St} {H1 : Hp} {D : Addr} {Qd : Hp → Prop} (Pv : Nat → Hp → Prop) (h0 : Pv 0 (upd H1 D (.lst []))) (hl : ∀ i H, i ≤ kvs.length → Pv i H → H d = some (.frz o (.dK kvs)))
    (hs : ∀ i (k : Key) (v : V) H, kvs[i]? = some (k, v) → Pv i H → g (kV k) (wipe σ vs) H fun σ2 H2 => wipe σ2 vs = wipe σ vs ∧ tt σ2 H2 fun b H3 =>
      if b = true then te σ2 H3 fun y H4 => ∃ acc, H4 D = some (.lst acc) ∧ acc.length < sizeLine ∧ Pv (i + 1) (upd H4 D (.lst (acc ++ [y]))) else Pv (i + 1) H3) (hd : ∀ H, Pv kvs.length H → Qd H) :
    ∃ W : Nat → Nat → Hp → Prop, (∃ m, W 0 m (upd H1 D (.lst []))) ∧ ∀ i m H, W i m H →
      ((Itk d o kvs).stop i H ∧ Qd H) ∨ ((Itk d o kvs).go i H ∧ ∃ Nx : Hp → Prop, (∀ H', Nx H' → ∃ m', m' < m ∧ W (i + 1) m' H') ∧ ∀ x H', (Itk d o kvs).yld i H x H' → g x (wipe σ vs) H' fun σ2 H2 => wipe σ2 vs = wipe σ vs ∧ tt σ2 H2 fun b H3 =>
        if b = true then te σ2 H3 fun y H4 => ∃ acc, H4 D = some (.lst acc) ∧ acc.length < sizeLine ∧ Nx (upd H4 D (.lst (acc ++ [y]))) else Nx H3) := by
  refine ⟨fun i m H => m = kvs.length - i ∧ i ≤ kvs.length ∧ Pv i H, ⟨kvs.length, by simp, Nat.zero_le _, h0⟩, ?_⟩
  rintro i m H ⟨rfl, hi, p⟩
  have q := hl i H hi p
  by_cases hlt : i < kvs.length
  · refine .inr ⟨⟨q, hlt⟩, Pv (i + 1), fun H' p' => ⟨kvs.length - (i + 1), by omega, rfl, hlt, p'⟩, fun x H' y => ?_⟩
    obtain ⟨e, k, v, hk, hx⟩ := y
    subst e hx
    exact hs i k v _ hk p
  · have e : i = kvs.length := by omega
    subst e
    exact .inl ⟨⟨q, Nat.le_refl _⟩, hd H p⟩
theorem for_keysT {d : Addr} {o : Obj} {kvs : List (List Key × V)} {g : TG} {tb : TS} {D : Ends} {σ : L2.St} {H : Hp} (Pv : Nat → L2.St → Hp → Prop) (h0 : Pv 0 σ H) (hl : ∀ i σ H, i ≤ kvs.length → Pv i σ H → H d = some (.frz o (.dT kvs)))
    (hs : ∀ i (k : List Key) (v : V) (q : Addr) σ H, kvs[i]? = some (k, v) → H q = some (.tup (k.map kV)) → Pv i σ H → g (.ref q) σ H fun σ2 H2 => tb { D with nx := Pv (i + 1), ct := Pv (i + 1), bk := D.nx } σ2 H2) (hd : ∀ σ H, Pv kvs.length σ H → D.nx σ H) :
    ∃ W : Nat → Nat → L2.St → Hp → Prop, (∃ m, W 0 m σ H) ∧ ∀ i m σ H, W i m σ H →
      ((Itkt d o kvs).stop i H ∧ D.nx σ H) ∨ ((Itkt d o kvs).go i H ∧ ∃ N : L2.St → Hp → Prop, (∀ σ' H', N σ' H' → ∃ m', m' < m ∧ W (i + 1) m' σ' H') ∧ ∀ x H', (Itkt d o kvs).yld i H x H' → g x σ H' fun σ2 H2 => tb { D with nx := N, ct := N, bk := D.nx } σ2 H2) := by
  refine ⟨fun i m σ H => m = kvs.length - i ∧ i ≤ kvs.length ∧ Pv i σ H, ⟨kvs.length, by simp, Nat.zero_le _, h0⟩, ?_⟩
  rintro i m σ H ⟨rfl, hi, p⟩
  have q := hl i σ H hi p
  by_cases hlt : i < kvs.length
  · refine .inr ⟨⟨q, hlt⟩, Pv (i + 1), fun σ' H' p' => ⟨kvs.length - (i + 1), by omega, rfl, hlt, p'⟩, fun x H' y => ?_⟩
    obtain ⟨e, k, v, b, hk, hx, hb⟩ := y
    subst e hx
    exact hs i k v b σ _ hk hb p
  · have e : i = kvs.length := by omega
    subst e
    exact .inl ⟨⟨q, Nat.le_refl _⟩, hd σ H p⟩
theorem lc_keysT {d : Addr} {o : Obj} {kvs : List (List Key × V)} {g : TG} {tt : TT} {te : TE} {vs : List Nat} {σ : L2.St} {H1 : Hp} {D : Addr} {Qd : Hp → Prop} (Pv : Nat → Hp → Prop) (h0 : Pv 0 (upd H1 D (.lst []))) (hl : ∀ i H, i ≤ kvs.length → Pv i H → H d = some (.frz o (.dT kvs)))
    (hs : ∀ i (k : List Key) (v : V) (q : Addr) H, kvs[i]? = some (k, v) → H q = some (.tup (k.map kV)) → Pv i H → g (.ref q) (wipe σ vs) H fun σ2 H2 => wipe σ2 vs = wipe σ vs ∧ tt σ2 H2 fun b H3 =>
      if b = true then te σ2 H3 fun y H4 => ∃ acc, H4 D = some (.lst acc) ∧ acc.length < sizeLine ∧ Pv (i + 1) (upd H4 D (.lst (acc ++ [y]))) else Pv (i + 1) H3) (hd : ∀ H, Pv kvs.length H → Qd H) :
    ∃ W : Nat → Nat → Hp → Prop, (∃ m, W 0 m (upd H1 D (.lst []))) ∧ ∀ i m H, W i m H →
      ((Itkt d o kvs).stop i H ∧ Qd H) ∨ ((Itkt d o kvs).go i H ∧ ∃ Nx : Hp → Prop, (∀ H', Nx H' → ∃ m', m' < m ∧ W (i + 1) m' H') ∧ ∀ x H', (Itkt d o kvs).yld i H x H' → g x (wipe σ vs) H' fun σ2 H2 => wipe σ2 vs = wipe σ vs ∧ tt σ2 H2 fun b H3 =>
        if b = true then te σ2 H3 fun y H4 => ∃ acc, H4 D = some (.lst acc) ∧ acc.length < sizeLine ∧ Nx (upd H4 D (.lst (acc ++ [y]))) else Nx H3) := by
  refine ⟨fun i m H => m = kvs.length - i ∧ i ≤ kvs.length ∧ Pv i H, ⟨kvs.length, by simp, Nat.zero_le _, h0⟩, ?_⟩
  rintro i m H ⟨rfl, hi, p⟩
  have q := hl i H hi p
  by_cases hlt : i < kvs.length
  · refine .inr ⟨⟨q, hlt⟩, Pv (i + 1), fun H' p' => ⟨kvs.length - (i + 1), by omega, rfl, hlt, p'⟩, fun x H' y => ?_⟩
    obtain ⟨e, k, v, b, hk, hx, hb⟩ := y
    subst e hx
    exact hs i k v b _ hk hb p
  · have e : i = kvs.length := by omega
    subst e
    exact .inl ⟨⟨q, Nat.le_refl _⟩, hd H p⟩
theorem for_vals {d : Addr} {o : Obj} {kvs : List (Key × V)} {g : TG} {tb : TS} {D : Ends} {σ : L2.St} {H : Hp} (Pv : Nat → L2.St → Hp → Prop) (h0 : Pv 0 σ H) (hl : ∀ i σ H, i ≤ kvs.length → Pv i σ H → H d = some (.frz o (.dK kvs)))
    (hs : ∀ i (k : Key) (v : V) σ H, kvs[i]? = some (k, v) → Pv i σ H → g v σ H fun σ2 H2 => tb { D with nx := Pv (i + 1), ct := Pv (i + 1), bk := D.nx } σ2 H2) (hd : ∀ σ H, Pv kvs.length σ H → D.nx σ H) :
    ∃ W : Nat → Nat → L2.St → Hp → Prop, (∃ m, W 0 m σ H) ∧ ∀ i m σ H, W i m σ H →
      ((Itd d o kvs).stop i H ∧ D.nx σ H) ∨ ((Itd d o kvs).go i H ∧ ∃ N : L2.St → Hp → Prop, (∀ σ' H', N σ' H' → ∃ m', m' < m ∧ W (i + 1) m' σ' H') ∧ ∀ x H', (Itd d o kvs).yld i H x H' → g x σ H' fun σ2 H2 => tb { D with nx := N, ct := N, bk := D.nx } σ2 H2) := by
  refine ⟨fun i m σ H => m = kvs.length - i ∧ i ≤ kvs.length ∧ Pv i σ H, ⟨kvs.length, by simp, Nat.zero_le _, h0⟩, ?_⟩
  rintro i m σ H ⟨rfl, hi, p⟩
  have q := hl i σ H hi p
  by_cases hlt : i < kvs.length
  · refine .inr ⟨⟨q, hlt⟩, Pv (i + 1), fun σ' H' p' => ⟨kvs.length - (i + 1), by omega, rfl, hlt, p'⟩, fun x H' y => ?_⟩
    obtain ⟨e, k, hk⟩ := y
    subst e
    exact hs i k x σ _ hk p
  · have e : i = kvs.length := by omega
    subst e
    exact .inl ⟨⟨q, Nat.le_refl _⟩, hd σ H p⟩
theorem lc_vals {d : Addr} {o : Obj} {kvs : List (Key × V)} {g : TG} {tt : TT} {te : TE} {vs : List Nat} {σ : L2.St} {H1 : Hp} {D : Addr} {Qd : Hp → Prop} (Pv : Nat → Hp → Prop) (h0 : Pv 0 (upd H1 D (.lst []))) (hl : ∀ i H, i ≤ kvs.length → Pv i H → H d = some (.frz o (.dK kvs)))
    (hs : ∀ i (k : Key) (v : V) H, kvs[i]? = some (k, v) → Pv i H → g v (wipe σ vs) H fun σ2 H2 => wipe σ2 vs = wipe σ vs ∧ tt σ2 H2 fun b H3 =>
      if b = true then te σ2 H3 fun y H4 => ∃ acc, H4 D = some (.lst acc) ∧ acc.length < sizeLine ∧ Pv (i + 1) (upd H4 D (.lst (acc ++ [y]))) else Pv (i + 1) H3) (hd : ∀ H, Pv kvs.length H → Qd H) :
    ∃ W : Nat → Nat → Hp → Prop, (∃ m, W 0 m (upd H1 D (.lst []))) ∧ ∀ i m H, W i m H →
      ((Itd d o kvs).stop i H ∧ Qd H) ∨ ((Itd d o kvs).go i H ∧ ∃ Nx : Hp → Prop, (∀ H', Nx H' → ∃ m', m' < m ∧ W (i + 1) m' H') ∧ ∀ x H', (Itd d o kvs).yld i H x H' → g x (wipe σ vs) H' fun σ2 H2 => wipe σ2 vs = wipe σ vs ∧ tt σ2 H2 fun b H3 =>
        if b = true then te σ2 H3 fun y H4 => ∃ acc, H4 D = some (.lst acc) ∧ acc.length < sizeLine ∧ Nx (upd H4 D (.lst (acc ++ [y]))) else Nx H3) := by
  refine ⟨fun i m H => m = kvs.length - i ∧ i ≤ kvs.length ∧ Pv i H, ⟨kvs.length, by simp, Nat.zero_le _, h0⟩, ?_⟩
  rintro i m H ⟨rfl, hi, p⟩
  have q := hl i H hi p
  by_cases hlt : i < kvs.length
  · refine .inr ⟨⟨q, hlt⟩, Pv (i + 1), fun H' p' => ⟨kvs.length - (i + 1), by omega, rfl, hlt, p'⟩, fun x H' y => ?_⟩
    obtain ⟨e, k, hk⟩ := y
    subst e
    exact hs i k x _ hk p
  · have e : i = kvs.length := by omega
    subst e
    exact .inl ⟨⟨q, Nat.le_refl _⟩, hd H p⟩
theorem for_items {d : Addr} {o : Obj} {kvs : List (Key × V)} {g : TG} {tb : TS} {D : Ends} {σ : L2.St} {H : Hp} (Pv : Nat → L2.St → Hp → Prop) (h0 : Pv 0 σ H) (hl : ∀ i σ H, i ≤ kvs.length → Pv i σ H → H d = some (.frz o (.dK kvs)))
    (hs : ∀ i (k : Key) (v : V) (T : Addr) σ H, kvs[i]? = some (k, v) → H T = none → Pv i σ H → g (.ref T) σ (upd H T (.tup [kV k, v])) fun σ2 H2 => tb { D with nx := Pv (i + 1), ct := Pv (i + 1), bk := D.nx } σ2 H2) (hd : ∀ σ H, Pv kvs.length σ H → D.nx σ H) :
    ∃ W : Nat → Nat → L2.St → Hp → Prop, (∃ m, W 0 m σ H) ∧ ∀ i m σ H, W i m σ H →
      ((Iti d o kvs).stop i H ∧ D.nx σ H) ∨ ((Iti d o kvs).go i H ∧ ∃ N : L2.St → Hp → Prop, (∀ σ' H', N σ' H' → ∃ m', m' < m ∧ W (i + 1) m' σ' H') ∧ ∀ x H', (Iti d o kvs).yld i H x H' → g x σ H' fun σ2 H2 => tb { D with nx := N, ct := N, bk := D.nx } σ2 H2) := by
  refine ⟨fun i m σ H => m = kvs.length - i ∧ i ≤ kvs.length ∧ Pv i σ H, ⟨kvs.length, by simp, Nat.zero_le _, h0⟩, ?_⟩
  rintro i m σ H ⟨rfl, hi, p⟩
  have q := hl i σ H hi p
  by_cases hlt : i < kvs.length
  · refine .inr ⟨⟨q, hlt⟩, Pv (i + 1), fun σ' H' p' => ⟨kvs.length - (i + 1), by omega, rfl, hlt, p'⟩, fun x H' y => ?_⟩
    obtain ⟨T, k, v, hk, hx, hT, e⟩ := y
    subst e hx
    exact hs i k v T σ _ hk hT p
  · have e : i = kvs.length := by omega
    subst e
    exact .inl ⟨⟨q, Nat.le_refl _⟩, hd σ H p⟩
theorem lc_items {d : Addr} {o : Obj} {kvs : List (Key × V)} {g : TG} {tt : TT} {te : TE} {vs : List Nat} {σ : L2.St} {H1 : Hp} {D : Addr} {Qd : Hp → Prop} (Pv : Nat → Hp → Prop) (h0 : Pv 0 (upd H1 D (.lst []))) (hl : ∀ i H, i ≤ kvs.length → Pv i H → H d = some (.frz o (.dK kvs)))
    (hs : ∀ i (k : Key) (v : V) (T : Addr) H, kvs[i]? = some (k, v) → H T = none → Pv i H → g (.ref T) (wipe σ vs) (upd H T (.tup [kV k, v])) fun σ2 H2 => wipe σ2 vs = wipe σ vs ∧ tt σ2 H2 fun b H3 =>
      if b = true then te σ2 H3 fun y H4 => ∃ acc, H4 D = some (.lst acc) ∧ acc.length < sizeLine ∧ Pv (i + 1) (upd H4 D (.lst (acc ++ [y]))) else Pv (i + 1) H3) (hd : ∀ H, Pv kvs.length H → Qd H) :
    ∃ W : Nat → Nat → Hp → Prop, (∃ m, W 0 m (upd H1 D (.lst []))) ∧ ∀ i m H, W i m H →
      ((Iti d o kvs).stop i H ∧ Qd H) ∨ ((Iti d o kvs).go i H ∧ ∃ Nx : Hp → Prop, (∀ H', Nx H' → ∃ m', m' < m ∧ W (i + 1) m' H') ∧ ∀ x H', (Iti d o kvs).yld i H x H' → g x (wipe σ vs) H' fun σ2 H2 => wipe σ2 vs = wipe σ vs ∧ tt σ2 H2 fun b H3 =>
        if b = true then te σ2 H3 fun y H4 => ∃ acc, H4 D = some (.lst acc) ∧ acc.length < sizeLine ∧ Nx (upd H4 D (.lst (acc ++ [y]))) else Nx H3) := by
  refine ⟨fun i m H => m = kvs.length - i ∧ i ≤ kvs.length ∧ Pv i H, ⟨kvs.length, by simp, Nat.zero_le _, h0⟩, ?_⟩
  rintro i m H ⟨rfl, hi, p⟩
  have q := hl i H hi p
  by_cases hlt : i < kvs.length
  · refine .inr ⟨⟨q, hlt⟩, Pv (i + 1), fun H' p' => ⟨kvs.length - (i + 1), by omega, rfl, hlt, p'⟩, fun x H' y => ?_⟩
    obtain ⟨T, k, v, hk, hx, hT, e⟩ := y
    subst e hx
    exact hs i k v T _ hk hT p
  · have e : i = kvs.length := by omega
    subst e
    exact .inl ⟨⟨q, Nat.le_refl _⟩, hd H p⟩
end K54

set_option Elab.async false
set_option linter.all false
set_option maxRecDepth 100000
set_option maxHeartbeats 4000000
/-! Tables: what stands in the heap, the promises. -/
namespace K54
open PySem PySem.Spec PyProof.Rows L2 Evl
abbrev TV := List (Int × List (Int × Int))
abbrev TB := List (Int × Addr × List (Int × Int))
def tview (tb : TB) : TV := tb.map fun t => (t.1, t.2.2)
def tout (tb : TB) : List (Key × V) := tb.map fun t => (Sum.inl t.1, V.ref t.2.1)
def tin (ws : List (Int × Int)) : List (Key × V) := ws.map fun q => (Sum.inl q.1, V.int q.2)
def plcs (tv : TV) : List Int := tv.map (·.1)
structure TvOk (tv : TV) : Prop where
  nd : (plcs tv).Nodup
  pos : 1 ≤ tv.length
  le : tv.length ≤ 6
  byt : ∀ p ∈ plcs tv, IsB p
  nin : ∀ t ∈ tv, (t.2.map (·.1)).Nodup ∧ t.2.length ≤ 6
  inn : ∀ t ∈ tv, ∀ q ∈ t.2, q.1 ∈ plcs tv ∧ q.1 ≠ t.1 ∧ q.2 ∈ plcs tv ∧ q.2 ≠ t.1
/-- to which neighbour a packet goes on -/
def nxt (tv : TV) (p t : Int) : Option Int := (tv.find? fun r => decide (r.1 = p)).bind fun r => (r.2.find? fun q => decide (q.1 = t)).map (·.2)
def TabR (H : Hp) (d : Addr) (tv : TV) : Prop := ∃ tb : TB, tview tb = tv ∧ Rd H d (.dK (tout tb)) ∧ ∀ t ∈ tb, Rd H t.2.1 (.dK (tin t.2.2))
/-- a table while it is walked -/
def TabZ (H : Hp) (d : Addr) (tv : TV) : Prop := ∃ (tb : TB) (o : Obj), tview tb = tv ∧ H d = some (.frz o (.dK (tout tb))) ∧ ∀ t ∈ tb, H t.2.1 = some (.dK (tin t.2.2))
/-- a table that isn't -/
def TabP (H : Hp) (d : Addr) (tv : TV) : Prop := ∃ tb : TB, tview tb = tv ∧ H d = some (.dK (tout tb)) ∧ ∀ t ∈ tb, H t.2.1 = some (.dK (tin t.2.2))
/-- a table none of whose dicts is in A -/
def TabRA (H : Hp) (d : Addr) (tv : TV) (A : Addr → Prop) : Prop := ∃ tb : TB, tview tb = tv ∧ (Rd H d (.dK (tout tb)) ∧ ¬ A d) ∧ ∀ t ∈ tb, Rd H t.2.1 (.dK (tin t.2.2)) ∧ ¬ A t.2.1
section
variable {H H' : Hp} {d : Addr} {tv : TV}
theorem TabZ.r (h : TabZ H d tv) : TabR H d tv := let ⟨tb, o, a, b, c⟩ := h; ⟨tb, a, .inr ⟨o, b⟩, fun t ht => .inl (c t ht)⟩
theorem TabP.r (h : TabP H d tv) : TabR H d tv := let ⟨tb, a, b, c⟩ := h; ⟨tb, a, .inl b, fun t ht => .inl (c t ht)⟩
theorem TabR.ex (h : TabR H d tv) (e : Ex H H') : TabR H' d tv := let ⟨tb, a, b, c⟩ := h; ⟨tb, a, ex_rd e b, fun t ht => ex_rd e (c t ht)⟩
theorem TabZ.ex (h : TabZ H d tv) (e : Ex H H') : TabZ H' d tv := let ⟨tb, o, a, b, c⟩ := h; ⟨tb, o, a, e _ _ b, fun t ht => e _ _ (c t ht)⟩
theorem TabP.ex (h : TabP H d tv) (e : Ex H H') : TabP H' d tv := let ⟨tb, a, b, c⟩ := h; ⟨tb, a, e _ _ b, fun t ht => e _ _ (c t ht)⟩
theorem plcs_view (tb : TB) : plcs (tview tb) = tb.map (·.1) := by
  unfold plcs tview
  rw [List.map_map]
  rfl
theorem valV_map {α : Type} (k : α → Int) (v : α → V) (p : Int) : ∀ l : List α, valV (l.map fun x => ((Sum.inl (k x) : Key), v x)) (Sum.inl p) = (l.find? fun x => decide (k x = p)).map v
  | [] => rfl
  | x :: l => by
    by_cases h : k x = p
    · rw [List.map_cons, valV_pos (by rw [h]), List.find?_cons, decide_eq_true h]
      rfl
    · rw [List.map_cons, valV_neg (fun z => h (Sum.inl.inj z)), valV_map k v p l, List.find?_cons, decide_eq_false h]
theorem valV_tout (tb : TB) (p : Int) : valV (tout tb) (Sum.inl p) = (tb.find? fun t => decide (t.1 = p)).map fun t => V.ref t.2.1 := valV_map (fun t : Int × Addr × List (Int × Int) => t.1) (fun t => V.ref t.2.1) p tb
theorem valV_tin (ws : List (Int × Int)) (p : Int) : valV (tin ws) (Sum.inl p) = (ws.find? fun q => decide (q.1 = p)).map fun q => V.int q.2 := valV_map (fun q : Int × Int => q.1) (fun q => V.int q.2) p ws
theorem find_view (tb : TB) (p : Int) : ((tview tb).find? fun r => decide (r.1 = p)) = (tb.find? fun t => decide (t.1 = p)).map fun t => (t.1, t.2.2) := by
  induction tb with
  | nil => rfl
  | cons t r ih =>
    show List.find? _ ((t.1, t.2.2) :: tview r) = _
    rw [List.find?_cons, List.find?_cons]
    by_cases h : t.1 = p
    · simp only [h, decide_true, Option.map_some]
    · simp only [h, decide_false]
      exact ih
/-- what is told at a place -/
theorem TabR.get (h : TabR H d tv) {p : Int} (hp : p ∈ plcs tv) : ∃ (a : Addr) (ws : List (Int × Int)), DGet H d (.int p) (some (.ref a)) ∧ Rd H a (.dK (tin ws)) ∧ (∀ t, DGet H a (.int t) ((nxt tv p t).map V.int)) ∧ (∀ t, nxt tv p t = (ws.find? fun q => decide (q.1 = t)).map (·.2)) := by
  obtain ⟨tb, rfl, hd, hi⟩ := h
  rw [plcs_view] at hp
  obtain ⟨t0, ht0, e0⟩ := List.mem_map.mp hp
  cases hf : tb.find? fun t => decide (t.1 = p) with
  | none => exact absurd e0 (by simpa using List.find?_eq_none.mp hf t0 ht0)
  | some t =>
    have ht := List.mem_of_find?_eq_some hf
    have hn : ∀ x, nxt (tview tb) p x = (t.2.2.find? fun q => decide (q.1 = x)).map (·.2) := fun x => by
      unfold nxt
      rw [find_view, hf]
      rfl
    refine ⟨t.2.1, t.2.2, .inl ⟨tout tb, Sum.inl p, hd, rfl, by rw [valV_tout, hf]; rfl⟩, hi t ht, fun x => .inl ⟨tin t.2.2, Sum.inl x, hi t ht, rfl, ?_⟩, hn⟩
    rw [valV_tin, hn, Option.map_map]
    rfl
theorem TabR.has (h : TabR H d tv) (p : Int) : ∃ o, DGet H d (.int p) o ∧ o.isSome = decide (p ∈ plcs tv) := by
  obtain ⟨tb, rfl, hd, hi⟩ := h
  refine ⟨_, .inl ⟨tout tb, Sum.inl p, hd, rfl, rfl⟩, ?_⟩
  rw [valV_tout, plcs_view, Option.isSome_map]
  cases hf : tb.find? fun t => decide (t.1 = p) with
  | none =>
    have := List.find?_eq_none.mp hf
    rw [decide_eq_false]
    · rfl
    · intro hm
      obtain ⟨t, ht, e⟩ := List.mem_map.mp hm
      exact absurd e (by simpa using this t ht)
  | some t =>
    rw [decide_eq_true]
    · rfl
    · exact List.mem_map.mpr ⟨t, List.mem_of_find?_eq_some hf, by simpa using List.find?_some hf⟩
theorem nxt_in (ok : TvOk tv) {p t y : Int} (h : nxt tv p t = some y) : p ∈ plcs tv ∧ t ∈ plcs tv ∧ t ≠ p ∧ y ∈ plcs tv ∧ y ≠ p := by
  unfold nxt at h
  cases hf : tv.find? fun r => decide (r.1 = p) with
  | none => rw [hf] at h; cases h
  | some r =>
    rw [hf] at h
    have hr := List.mem_of_find?_eq_some hf
    have er : r.1 = p := by simpa using List.find?_some hf
    have h : (r.2.find? fun q => decide (q.1 = t)).map (·.2) = some y := h
    cases hq : r.2.find? fun q => decide (q.1 = t) with
    | none => rw [hq] at h; cases h
    | some q =>
      rw [hq] at h
      have hqm := List.mem_of_find?_eq_some hq
      have eq : q.1 = t := by simpa using List.find?_some hq
      have ey : q.2 = y := Option.some.inj h
      obtain ⟨a, b, c, e⟩ := ok.inn r hr q hqm
      rw [eq] at a b
      rw [ey] at c e
      rw [er] at b e
      exact ⟨List.mem_map.mpr ⟨r, hr, er⟩, a, b, c, e⟩
/-! ### locking -/
theorem ex_unlock {a : Addr} {o : Obj} {u : HO} (hw : H a = some u) (e : Ex (upd H a (.frz o u)) H') : Ex H (upd H' a u) := fun b x hb => by
  by_cases h : b = a
  · rw [h, upd_same]
    rw [h, hw] at hb
    exact hb
  · rw [upd_ne h]
    exact e b x (by rw [upd_ne h]; exact hb)
theorem TabZ.lockIn (h : TabZ H d tv) {w : Addr} {ws : List (Int × Int)} {od : Obj} (hw : H w = some (.dK (tin ws))) : TabR (upd H w (.frz od (.dK (tin ws)))) d tv := by
  obtain ⟨tb, o, e, hd, hi⟩ := h
  have ne : d ≠ w := ne_of hd hw (fun z => nomatch z)
  refine ⟨tb, e, .inr ⟨o, by rw [upd_ne ne]; exact hd⟩, fun t ht => ?_⟩
  by_cases hq : t.2.1 = w
  · have : HO.dK (tin t.2.2) = HO.dK (tin ws) := Option.some.inj ((hi t ht).symm.trans (by rw [hq]; exact hw))
    rw [hq, this]
    exact .inr ⟨od, upd_same⟩
  · exact .inl (by rw [upd_ne hq]; exact hi t ht)
/-- a plain table, locked -/
theorem tab_lock (hp : 1 ≤ tv.length) {tb : TB} (e : tview tb = tv) (hd : H d = some (.dK (tout tb))) (hi : ∀ t ∈ tb, H t.2.1 = some (.dK (tin t.2.2))) (od : Obj) : TabZ (upd H d (.frz od (.dK (tout tb)))) d tv := by
  refine ⟨tb, od, e, upd_same, fun t ht => ?_⟩
  have ne : t.2.1 ≠ d := by
    intro z
    have h1 := hi t ht
    rw [z, hd] at h1
    injection h1 with h1
    injection h1 with h1
    cases tb with
    | nil =>
      rw [← e] at hp
      exact absurd hp (by decide)
    | cons a r =>
      cases hw : t.2.2 with
      | nil =>
        rw [hw] at h1
        cases h1
      | cons b s =>
        rw [hw] at h1
        have h2 := congrArg (fun l => l.head?.map (·.2)) h1
        have h3 : some (V.ref a.2.1) = some (V.int b.2) := h2
        cases h3
  rw [upd_ne ne]
  exact hi t ht
end
/-! ### the promises -/
def sp_is_place (K : PySem.W.Frag) : Sp := fun vs H Q _ => ∃ i : Int, vs = [.int i] ∧ IsB i ∧ Q (.bl true) H
def sp_is_other (K : PySem.W.Frag) : Sp := fun vs H Q _ => ∃ (i p : Int) (d : Addr) (tv : TV), vs = [.int i, .int p, .ref d] ∧ TabR H d tv ∧ i ∈ plcs tv ∧ IsB i ∧ i ≠ p ∧ Q (.bl true) H
def sp_are_ways (K : PySem.W.Frag) : Sp := fun vs H Q _ => ∃ (w : Addr) (p : Int) (d : Addr) (tv : TV) (ws : List (Int × Int)), vs = [.ref w, .int p, .ref d] ∧ TabZ H d tv ∧ TvOk tv ∧ H w = some (.dK (tin ws)) ∧ (∀ q ∈ ws, q.1 ∈ plcs tv ∧ q.1 ≠ p ∧ q.2 ∈ plcs tv ∧ q.2 ≠ p) ∧ RetV (.bl true) H Q
def sp_need_table (K : PySem.W.Frag) : Sp := fun vs H Q _ => ∃ (d : Addr) (tv : TV), vs = [.ref d] ∧ TabZ H d tv ∧ TvOk tv ∧ RetV .non H Q
/-- what a way is, as a value -/
def WV (H : Hp) (v : V) : WR → Prop
  | .non => v = .non
  | .lst l => ∃ a, v = .ref a ∧ H a = some (.lst (ivs l))
  | .ring l => ∃ a b, v = .ref a ∧ H a = some (.tup [.str "ring", .ref b]) ∧ H b = some (.lst (ivs l))
theorem WV.ex {H H' : Hp} {v : V} {r : WR} (h : WV H v r) (e : Ex H H') : WV H' v r := by
  cases r with
  | non => exact h
  | lst l => obtain ⟨a, h1, h2⟩ := h; exact ⟨a, h1, e _ _ h2⟩
  | ring l => obtain ⟨a, b, h1, h2, h3⟩ := h; exact ⟨a, b, h1, e _ _ h2, e _ _ h3⟩
def wayP (tv : TV) (p t : Int) : WR := wayOf t (walkP (fun x => nxt tv x t) t 8 [p])
def sp_led (K : PySem.W.Frag) : Sp := fun vs H Q _ => ∃ (d : Addr) (p t : Int) (tv : TV), vs = [.ref d, .int p, .int t] ∧ TabR H d tv ∧ TvOk tv ∧ p ∈ plcs tv ∧ t ∈ plcs tv ∧ ∀ v H2, Ex H H2 → WV H2 v (wayP tv p t) → Q v H2
def sp_way (K : PySem.W.Frag) : Sp := fun vs H Q _ => ∃ (d : Addr) (p t : Int) (tv : TV), vs = [.ref d, .int p, .int t] ∧ TabZ H d tv ∧ TvOk tv ∧ p ∈ plcs tv ∧ t ∈ plcs tv ∧ ∀ v H2, Ex H H2 → WV H2 v (wayP tv p t) → Q v H2
def oV : Option Int → V
  | none => .non
  | some y => .int y
def sp_law_walked (K : PySem.W.Frag) : Sp := fun vs H Q _ => ∃ (d : Addr) (p t : Int) (tv : TV), vs = [.ref d, .int p, .int t] ∧ TabR H d tv ∧ TvOk tv ∧ p ∈ plcs tv ∧ t ∈ plcs tv ∧
  ∀ a l H2, Ex H H2 → H2 a = some (.tup [.ref l, oV (walkP (fun x => nxt tv x t) t 8 [p]).2]) → H2 l = some (.lst (ivs (walkP (fun x => nxt tv x t) t 8 [p]).1)) → Q (.ref a) H2
def sp_law_way (K : PySem.W.Frag) : Sp := sp_led K
end K54

set_option Elab.async false
set_option linter.all false
set_option maxRecDepth 100000
set_option maxHeartbeats 4000000
/-! The defs of bits and codes keep their promises. -/
namespace K54
open PySem PySem.Spec PyProof.Rows L2 Evl
section
variable {P : Program} {w : World} {K : PySem.W.Frag} {mg : Str → Option Value} {base : Heap}
theorem cal_is_whole (T : TX K mg) : Cal P w K mg base "is_whole" 1 (sp_is_whole K) := by
  obtain ⟨fd, F⟩ := T.df_is_whole
  have hb : Binds K fd ["thing", "least", "most"] [] := F.bindsN fun _ _ _ _ _ _ us hl => match us, hl with | [_, _, _], _ => rfl
  refine Cal.mk2 T.g_is_whole F.kp hb (F.ok (CX := CX0) (k := 0) sc_is_whole (fun vs H Q E h => ?_) (fun cdv A outer s H vs Q E hr h => ?_))
  · obtain ⟨_, _, _, rfl, _⟩ := h
    rfl
  · obtain ⟨i, a, b, rfl, h1, h2, q⟩ := h
    refine ⟨_, PSs.nox (pss_one (ps_ret (pe_and (pe_callB call_isi (by rfl) T.f_isinstance bt_isinstance (pa_cons (pv 0) (pa_cons (pe_bty T.f_int bt_int) pa_nil))) (pe_and (pe_not (pe_callB call_isi (by rfl) T.f_isinstance bt_isinstance (pa_cons (pv 0) (pa_cons (pe_bty T.f_bool bt_bool) pa_nil)))) (pe_one (pe_chain op_le op_le (pv 1) (pv 0) (pv 2))))))), ?_⟩
    refine ⟨_, rfl, _, _, _, _, true, rfl, .ty _, .base (.int _), isi_ii, true, rfl, iteT ?_⟩
    refine ⟨_, rfl, _, _, _, _, false, rfl, .ty _, .base (.int _), isi_ib, _, rfl, true, rfl, iteT ?_⟩
    refine ⟨_, rfl, _, rfl, _, _, rfl, rfl, _, rfl, le_T h1 ⟨_, rfl, _, _, rfl, rfl, ?_⟩⟩
    show Q (V.bl (decide (i ≤ b))) H
    rw [decide_eq_true h2]
    exact q
theorem cal_is_bits (T : TX K mg) (c_is_whole : Cal P w K mg base "is_whole" 1 (sp_is_whole K)) : Cal P w K mg base "is_bits" 2 (sp_is_bits K) := by
  obtain ⟨fd, F⟩ := T.df_is_bits
  have hb : Binds K fd ["thing"] [] := F.bindsN fun _ _ _ _ _ _ us hl => match us, hl with | [_], _ => rfl
  refine Cal.mk2 T.g_is_bits F.kp hb (F.ok (CX := CX0) (k := 1) sc_is_bits (fun vs H Q E h => ?_) (fun cdv A outer s H vs Q E hr h => ?_))
  · obtain ⟨_, _, rfl, _⟩ := h
    rfl
  · obtain ⟨p, bs, rfl, hp, hl, q⟩ := h
    refine ⟨_, PSs.nox (pss_one (ps_ret (pe_and (pe_callB call_isi (by rfl) T.f_isinstance bt_isinstance (pa_cons (pv 0) (pa_cons (pe_bty T.f_tuple bt_tuple) pa_nil))) (pe_one (pe_callB (cr_all rfl) (by rfl) T.f_all bt_all (pa_cons (pe_lc (own := [("bit", 1)]) rfl sc_is_bits.nd (pi_tup (pv 0)) (blkOk_by (own := [("bit", 1)]) (N := sn_is_bits) (sc := defScope s_is_bits) (by decide +kernel)) (fun _ _ _ _ _ => pg_name (i := 1) sc_is_bits.nd rfl (.inl rfl)) (fun _ _ _ _ _ => pts_nil) (fun _ _ _ _ _ => (pe_cal c_is_whole hr (pa_cons (pv 1) (pa_cons pe_int (pa_cons pe_int pa_nil)))))) pa_nil)))))), ?_⟩
    refine ⟨_, rfl, _, _, _, _, true, rfl, .ty _, .base (.tup hp), isi_tt, true, rfl, iteT ?_⟩
    refine ⟨_, rfl, p, rfl, ⟨_, SqT.of hp⟩, fun D hD => lcT (xs := bvs bs) (ys := (List.replicate bs.length true).map V.bl) hD hp (by simp [bvs]) (by rw [bvs_len]; omega) (fun x => rfl) (fun i x y H1 hx hy e Q1 k => ?_) (fun H1 e hq => ?_)⟩
    · rw [rep_get hy] at k
      unfold bvs at hx
      rw [List.getElem?_map] at hx
      cases hb : bs[i]? with
      | none => rw [hb] at hx; cases hx
      | some b =>
        rw [hb] at hx
        cases hx
        exact ⟨_, rfl, _, 0, 1, rfl, by cases b <;> decide, by cases b <;> decide, k H1 (Ex.refl _)⟩
    · refine ⟨D, _, rfl, SqL.of hq, ?_⟩
      rw [all_true]
      exact q H1 e
theorem cal_spread (T : TX K mg) : Cal P w K mg base "spread" 1 (sp_spread K) := by
  obtain ⟨fd, F⟩ := T.df_spread
  have hb : Binds K fd ["number", "many"] [] := F.bindsN fun _ _ _ _ _ _ us hl => match us, hl with | [_, _], _ => rfl
  refine Cal.mk2 T.g_spread F.kp hb (F.ok (CX := CX0) (k := 0) sc_spread (fun vs H Q E h => ?_) (fun cdv A outer s H vs Q E hr h => ?_))
  · obtain ⟨_, _, rfl, _⟩ := h
    rfl
  · obtain ⟨n, m, rfl, hm, q⟩ := h
    refine ⟨_, PSs.nox (pss_one (ps_ret (pe_lc (own := [("place", 2)]) rfl sc_spread.nd (pi_range1 rfl T.f_range (pa_cons (pv 1) pa_nil)) (blkOk_by (own := [("place", 2)]) (N := sn_spread) (sc := defScope s_spread) (by decide +kernel)) (fun _ _ _ _ _ => pg_name (i := 2) sc_spread.nd rfl (.inl rfl)) (fun _ _ _ _ _ => pts_nil) (fun _ _ _ _ _ => (pe_op op_odd (pe_op op_shrN (pv 0) (pe_op op_sub (pe_op op_sub (pv 1) pe_int) (pv 2))) pe_int))))), ?_⟩
    refine ⟨_, rfl, _, rfl, by omega, by omega, fun D hD => lcR (n := m) (fun i => bv (decide ((n / 2 ^ (m - 1 - i)) % 2 = 1))) hD (by omega) (fun x => rfl) (fun i H1 hi e Q1 k => ?_) (fun H1 e hq => ?_)⟩
    · refine ⟨_, rfl, _, rfl, _, _, rfl, rfl, _, rfl, _, _, rfl, rfl, (n : Int), m - 1 - i, rfl, congrArg V.int (by omega), n / 2 ^ (m - 1 - i), congrArg V.int (by push_cast; rfl), rfl, ?_⟩
      have := k H1 (Ex.refl _)
      have e1 : bv (decide ((n / 2 ^ (m - 1 - i)) % 2 = 1)) = V.int ((n / 2 ^ (m - 1 - i) % 2 : Nat) : Int) := by
        unfold bv
        rw [b2z_b2n, b2n_dec]
      rw [← e1]
      exact this
    · refine q D H1 hD e ?_
      rw [hq]
      unfold bvs spr
      rw [List.map_map]
      rfl
theorem cal_gathered (T : TX K mg) : Cal P w K mg base "gathered" 1 (sp_gathered K) := by
  obtain ⟨fd, F⟩ := T.df_gathered
  have hb : Binds K fd ["bits"] [] := F.bindsN fun _ _ _ _ _ _ us hl => match us, hl with | [_], _ => rfl
  refine Cal.mk2 T.g_gathered F.kp hb (F.ok (CX := CX0) (k := 0) sc_gathered (fun vs H Q E h => ?_) (fun cdv A outer s H vs Q E hr h => ?_))
  · obtain ⟨_, _, rfl, _⟩ := h
    rfl
  · obtain ⟨p, bs, rfl, hp, hl, q⟩ := h
    refine ⟨_, PSs.nox (pss_cons (ps_set (i := 1) sc_gathered.nd rfl (.inl rfl) pe_int)
    (pss_cons (ps_for PassesOwn.never rfl (pi_tup (pv 0)) (pg_name (i := 2) sc_gathered.nd rfl (.inl rfl)) (pss_one (ps_set (i := 1) sc_gathered.nd rfl (.inl rfl) (pe_op op_orL (pe_op op_shlW (pv 1) pe_int) (pv 2)))))
    (pss_one (ps_ret (pv 1))))), ?_⟩
    refine ⟨_, rfl, p, rfl, ⟨_, SqT.of hp⟩, for_tup (K := K) (a := p) (xs := bvs bs) (fun i σ H' => H' = H ∧ ∃ v, σ = [some (.ref p), some (.int ((natOf (bs.take i) : Nat) : Int)), v]) ⟨rfl, none, rfl⟩ (fun i σ H' _ hh => hh.1 ▸ SqT.of hp) ?_ ?_⟩
    · rintro i x σ H' hx ⟨rfl, v, rfl⟩
      unfold bvs at hx
      rw [List.getElem?_map] at hx
      cases hb : bs[i]? with
      | none => rw [hb] at hx; cases hx
      | some b =>
        rw [hb] at hx
        cases hx
        have hlt : natOf (bs.take i) < 2 ^ 200 := Nat.lt_of_lt_of_le (natOf_lt _) (Nat.pow_le_pow_right (by decide) (by rw [List.length_take]; omega))
        refine ⟨_, rfl, _, _, rfl, rfl, shl_ok (j := 1) (n := 200) (by simpa using hlt) (by decide), _, rfl, ((natOf (bs.take i) : Nat) : Int), b2z b, 1, rfl, rfl, ⟨Int.natCast_nonneg _, by cases b <;> decide, by cases b <;> decide⟩, ?_⟩
        refine ⟨rfl, some (bv b), ?_⟩
        rw [take_succ' hb, natOf_snoc, b2z_b2n]
        have e : ((natOf (bs.take i) : Nat) : Int) * 2 ^ 1 + ((b2n b : Nat) : Int) = ((2 * natOf (bs.take i) + b2n b : Nat) : Int) := by push_cast; omega
        rw [e]
        rfl
    · rintro σ H' ⟨rfl, v, rfl⟩
      rw [bvs_len, List.take_length]
      exact ⟨_, rfl, q⟩
theorem cal_bits_by (T : TX K mg) (c_spread : Cal P w K mg base "spread" 1 (sp_spread K)) : Cal P w K mg base "bits_by" 2 (sp_bits_by K) := by
  obtain ⟨fd, F⟩ := T.df_bits_by
  have hb : Binds K fd ["number", "many"] [] := F.bindsN fun _ _ _ _ _ _ us hl => match us, hl with | [_, _], _ => rfl
  refine Cal.mk2 T.g_bits_by F.kp hb (F.ok (CX := CX0) (k := 1) sc_bits_by (fun vs H Q E h => ?_) (fun cdv A outer s H vs Q E hr h => ?_))
  · obtain ⟨_, _, rfl, _⟩ := h
    rfl
  · obtain ⟨n, m, rfl, hm, hn, q⟩ := h
    refine ⟨_, PSs.nox (pss_cons (ps_if (PW.pt (pw_or (pt_not (pt_val (pe_callB call_isi (by rfl) T.f_isinstance bt_isinstance (pa_cons (pv 0) (pa_cons (pe_bty T.f_int bt_int) pa_nil))))) (pw_or (pt_val (pe_callB call_isi (by rfl) T.f_isinstance bt_isinstance (pa_cons (pv 0) (pa_cons (pe_bty T.f_bool bt_bool) pa_nil)))) (pw_or (pt_cmpR op_lt (pv 0) pe_int (nomark _)) (pw_or1 (pt_cmpR op_gt (pe_op op_shrN (pv 0) (pv 1)) pe_int (nomark _))))))) (pss_one ps_never) pss_nil)
    (pss_one (ps_ret (pe_callTy call_tuple_of (by rfl) T.f_tuple bt_tuple (pa_cons (pe_cal c_spread hr (pa_cons (pv 0) (pa_cons (pv 1) pa_nil))) pa_nil))))), ?_⟩
    refine ⟨_, rfl, _, _, _, _, true, rfl, .ty _, .base (.int _), isi_ii, _, rfl, iteF ?_⟩
    refine ⟨_, rfl, _, _, _, _, false, rfl, .ty _, .base (.int _), isi_ib, _, rfl, iteF ?_⟩
    refine ⟨_, rfl, _, _, rfl, rfl, _, rfl, ?_⟩
    rw [decide_eq_false (by omega)]
    refine iteF ⟨_, rfl, _, rfl, _, m, rfl, rfl, _, _, rfl, rfl, _, rfl, ?_⟩
    have e : ((n : Int) / 2 ^ m) = 0 := Int.ediv_eq_zero_of_lt (by omega) (by rw [← pow_cast]; exact_mod_cast hn)
    rw [e]
    refine iteF ⟨_, rfl, _, rfl, n, m, rfl, hm, fun D H1 hD e1 hq => ⟨D, _, rfl, .inl ⟨SqL.of hq, fun l hl' => ?_⟩⟩⟩
    exact q l _ (e1.trans (Ex.new hl')) upd_same
theorem cal_number_of (T : TX K mg) (c_gathered : Cal P w K mg base "gathered" 1 (sp_gathered K)) (c_is_bits : Cal P w K mg base "is_bits" 2 (sp_is_bits K)) : Cal P w K mg base "number_of" 3 (sp_number_of K) := by
  obtain ⟨fd, F⟩ := T.df_number_of
  have hb : Binds K fd ["bits"] [] := F.bindsN fun _ _ _ _ _ _ us hl => match us, hl with | [_], _ => rfl
  refine Cal.mk2 T.g_number_of F.kp hb (F.ok (CX := CX0) (k := 2) sc_number_of (fun vs H Q E h => ?_) (fun cdv A outer s H vs Q E hr h => ?_))
  · obtain ⟨_, _, rfl, _⟩ := h
    rfl
  · obtain ⟨p, bs, rfl, hp, hl, q⟩ := h
    refine ⟨_, PSs.nox (pss_cons (ps_if (pt_not (pt_val (pe_cal c_is_bits hr (pa_cons (pv 0) pa_nil)))) (pss_one ps_never) pss_nil)
    (pss_one (ps_ret (pe_cal c_gathered (hr.mono (by decide)) (pa_cons (pv 0) pa_nil))))), ?_⟩
    refine ⟨_, rfl, p, bs, rfl, hp, hl, fun H1 e1 => ⟨true, rfl, iteF ?_⟩⟩
    exact ⟨_, rfl, p, bs, rfl, e1 _ _ hp, hl, q H1 e1⟩
theorem cal_need_code (T : TX K mg) : Cal P w K mg base "need_code" 1 (sp_need_code K) := by
  obtain ⟨fd, F⟩ := T.df_need_code
  have hb : Binds K fd ["code"] [] := F.bindsN fun _ _ _ _ _ _ us hl => match us, hl with | [_], _ => rfl
  refine Cal.mk2 T.g_need_code F.kp hb (F.ok (CX := CX0) (k := 0) sc_need_code (fun vs H Q E h => ?_) (fun cdv A outer s H vs Q E hr h => ?_))
  · obtain ⟨_, rfl, _⟩ := h
    rfl
  · obtain ⟨_, rfl, q⟩ := h
    refine ⟨_, PSs.nox (pss_one (ps_if (PW.pt (pw_or (pt_not (pt_val (pe_callB call_isi (by rfl) T.f_isinstance bt_isinstance (pa_cons (pv 0) (pa_cons (pe_bty T.f_int bt_int) pa_nil))))) (pw_or (pt_val (pe_callB call_isi (by rfl) T.f_isinstance bt_isinstance (pa_cons (pv 0) (pa_cons (pe_bty T.f_bool bt_bool) pa_nil)))) (pw_or (pt_not (pt_chain op_le op_le (pe_gint T.i_LEAST) (pv 0) (pe_gint T.i_GREATEST))) (pw_or1 (pt_cmpR op_eq (pe_op op_mod (pv 0) pe_int) pe_int (nomark _))))))) (pss_one ps_never) pss_nil)), ?_⟩
    refine ⟨_, rfl, _, _, _, _, true, rfl, .ty _, .base (.int _), isi_ii, _, rfl, iteF ?_⟩
    refine ⟨_, rfl, _, _, _, _, false, rfl, .ty _, .base (.int _), isi_ib, _, rfl, iteF ?_⟩
    refine ⟨_, rfl, _, _, rfl, rfl, _, rfl, iteT ⟨_, _, rfl, rfl, _, rfl, iteF ?_⟩⟩
    exact ⟨_, rfl, _, _, rfl, rfl, by decide, rfl, _, rfl, iteF q⟩
theorem cal_width (T : TX K mg) (c_need_code : Cal P w K mg base "need_code" 1 (sp_need_code K)) : Cal P w K mg base "width" 2 (sp_width K) := by
  obtain ⟨fd, F⟩ := T.df_width
  have hb : Binds K fd ["code"] [] := F.bindsN fun _ _ _ _ _ _ us hl => match us, hl with | [_], _ => rfl
  refine Cal.mk2 T.g_width F.kp hb (F.ok (CX := CX0) (k := 1) sc_width (fun vs H Q E h => ?_) (fun cdv A outer s H vs Q E hr h => ?_))
  · obtain ⟨_, rfl, _⟩ := h
    rfl
  · obtain ⟨_, rfl, q⟩ := h
    refine ⟨_, PSs.nox (pss_cons (ps_expr (pe_cal c_need_code hr (pa_cons (pv 0) pa_nil)))
    (pss_one (ps_ret (pe_op op_sub (pe_bits (pv 0)) pe_int)))), ?_⟩
    exact ⟨_, rfl, (), rfl, _, rfl, _, rfl, _, _, rfl, rfl, q⟩
theorem cal_divided (T : TX K mg) : Cal P w K mg base "divided" 1 (sp_divided K) := by
  obtain ⟨fd, F⟩ := T.df_divided
  have hb : Binds K fd ["number", "code"] [] := F.bindsN fun _ _ _ _ _ _ us hl => match us, hl with | [_, _], _ => rfl
  refine Cal.mk2 T.g_divided F.kp hb (F.ok (CX := CX0) (k := 0) sc_divided (fun vs H Q E h => ?_) (fun cdv A outer s H vs Q E hr h => ?_))
  · obtain ⟨_, rfl, _⟩ := h
    rfl
  · obtain ⟨n, rfl, hn, q⟩ := h
    refine ⟨_, PSs.nox (pss_cons (ps_set (i := 2) sc_divided.nd rfl (.inl rfl) (pe_bits (pv 1)))
    (pss_cons (ps_while PassesOwn.never (pt_cmpR op_ge (pe_bits (pv 0)) (pv 2) (nomark _)) (pss_one (ps_set (i := 0) sc_divided.nd rfl (.inl rfl) (pe_op op_xor (pv 0) (pe_op op_shl (pv 1) (pe_op op_sub (pe_bits (pv 0)) (pv 2)))))))
    (pss_one (ps_ret (pv 0))))), ?_⟩
    refine ⟨_, rfl, _, rfl, ?_⟩
    refine while_by (fun σ H' => H' = H ∧ ∃ m : Nat, σ = [some (.int m), some (.int 69665), some (.int 17)] ∧ syn m = syn n ∧ m < 2 ^ 220) (fun σ _ => match σ with | some (.int i) :: _ => i.toNat | _ => 0) ⟨rfl, n, rfl, rfl, hn⟩ ?_ (fun σ H1 Q1 Q2 k1 k2 => ?_)
    · rintro σ H' ⟨rfl, m, rfl, hm, hlt⟩
      refine ⟨_, rfl, _, rfl, _, rfl, _, _, rfl, rfl, _, rfl, ?_⟩
      by_cases h16 : 65536 ≤ m
      · have h0 : m ≠ 0 := by omega
        have hl : 16 ≤ m.log2 := (Nat.le_log2 h0).mpr (by omega)
        have hl2 : m.log2 < 220 := (Nat.log2_lt h0).mpr hlt
        obtain ⟨d1, d2⟩ := div_turn h16
        have dm : 2 ^ m.log2 ≤ m := Nat.log2_self_le h0
        rw [bits_nat h0, decide_eq_true (by omega)]
        refine iteT ⟨_, rfl, _, rfl, _, rfl, _, rfl, _, rfl, _, _, rfl, rfl, _, _, rfl, rfl, ⟨?_, ?_, by decide⟩, _, _, rfl, rfl, ?_⟩
        · rw [bits_nat h0]
          omega
        · rw [bits_nat h0]
          omega
        · have e1 : ((Builtin.Int.intBits (m : Int) : Nat) : Int) - 17 = ((m.log2 - 16 : Nat) : Int) := by
            rw [bits_nat h0]
            omega
          have e2 : (69665 : Int) * 2 ^ (m.log2 - 16) = ((G * 2 ^ (m.log2 - 16) : Nat) : Int) := by
            rw [Int.natCast_mul, pow_cast]
            rfl
          have e3 : ∀ k : Nat, ((k : Int)).toNat = k := fun k => rfl
          rw [e1, e3, e2]
          show gName 0 (V.int (Builtin.bitXor (m : Int) ((G * 2 ^ (m.log2 - 16) : Nat) : Int))) _ _ _
          rw [xor_nat]
          refine ⟨⟨rfl, _, rfl, d1.trans hm, by omega⟩, ?_⟩
          show ((m ^^^ (G * 2 ^ (m.log2 - 16)) : Nat) : Int).toNat < ((m : Nat) : Int).toNat
          rw [e3, e3]
          omega
      · have hb : Builtin.Int.intBits (m : Int) ≤ 16 := by
          by_cases h0 : m = 0
          · subst h0
            decide
          · rw [bits_nat h0]
            have := (Nat.log2_lt h0 (k := 16)).mpr (by omega)
            omega
        rw [decide_eq_false (by omega)]
        refine iteF ⟨_, rfl, ?_⟩
        have e : m = syn n := by rw [← hm, syn_small (by omega)]
        rw [e]
        exact q
    · obtain ⟨v, hv, i, hi, v2, hv2, a, b, ha, hb, z, hz, k2⟩ := k2
      exact ⟨v, hv, i, hi, v2, hv2, a, b, ha, hb, z, hz, k1 _ _ k2⟩
theorem cal_number_by (T : TX K mg) (c_number_of : Cal P w K mg base "number_of" 3 (sp_number_of K)) (c_is_bits : Cal P w K mg base "is_bits" 2 (sp_is_bits K)) : Cal P w K mg base "number_by" 4 (sp_number_by K) := by
  obtain ⟨fd, F⟩ := T.df_number_by
  have hb : Binds K fd ["bits"] [] := F.bindsN fun _ _ _ _ _ _ us hl => match us, hl with | [_], _ => rfl
  refine Cal.mk2 T.g_number_by F.kp hb (F.ok (CX := CX0) (k := 3) sc_number_by (fun vs H Q E h => ?_) (fun cdv A outer s H vs Q E hr h => ?_))
  · obtain ⟨_, _, rfl, _⟩ := h
    rfl
  · obtain ⟨p, bs, rfl, hp, hl, q⟩ := h
    refine ⟨_, PSs.nox (pss_cons (ps_if (pt_not (pt_val (pe_cal c_is_bits (hr.mono (by decide)) (pa_cons (pv 0) pa_nil)))) (pss_one ps_never) pss_nil)
    (pss_one (ps_ret (pe_cal c_number_of hr (pa_cons (pv 0) pa_nil))))), ?_⟩
    refine ⟨_, rfl, p, bs, rfl, hp, hl, fun H1 e1 => ⟨true, rfl, iteF ?_⟩⟩
    exact ⟨_, rfl, p, bs, rfl, e1 _ _ hp, hl, fun H2 e2 => q H2 (e1.trans e2)⟩
theorem cal_coded (T : TX K mg) (c_need_code : Cal P w K mg base "need_code" 1 (sp_need_code K)) (c_width : Cal P w K mg base "width" 2 (sp_width K)) (c_bits_by : Cal P w K mg base "bits_by" 2 (sp_bits_by K)) (c_divided : Cal P w K mg base "divided" 1 (sp_divided K)) (c_number_by : Cal P w K mg base "number_by" 4 (sp_number_by K)) : Cal P w K mg base "coded" 5 (sp_coded K) := by
  obtain ⟨fd, F⟩ := T.df_coded
  have hb : Binds K fd ["bits", "code"] [] := F.bindsN fun _ _ _ _ _ _ us hl => match us, hl with | [_, _], _ => rfl
  refine Cal.mk2 T.g_coded F.kp hb (F.ok (CX := CX0) (k := 4) sc_coded (fun vs H Q E h => ?_) (fun cdv A outer s H vs Q E hr h => ?_))
  · obtain ⟨_, _, rfl, _⟩ := h
    rfl
  · obtain ⟨p, bs, rfl, hp, hl, q⟩ := h
    have hn := natOf_lt bs
    have hlt : natOf bs < 2 ^ 180 := Nat.lt_of_lt_of_le hn (Nat.pow_le_pow_right (by decide) hl)
    refine ⟨_, PSs.nox (pss_cons (ps_expr (pe_cal c_need_code (hr.mono (by decide)) (pa_cons (pv 1) pa_nil)))
    (pss_cons (ps_set (i := 2) sc_coded.nd rfl (.inl rfl) (pe_cal c_width (hr.mono (by decide)) (pa_cons (pv 1) pa_nil)))
    (pss_one (ps_ret (pe_op op_catA (pv 0) (pe_cal c_bits_by (hr.mono (by decide)) (pa_cons (pe_cal c_divided (hr.mono (by decide)) (pa_cons (pe_op op_shlW (pe_cal c_number_by hr (pa_cons (pv 0) pa_nil)) (pv 2)) (pa_cons (pv 1) pa_nil))) (pa_cons (pv 2) pa_nil)))))))), ?_⟩
    refine ⟨_, rfl, (), rfl, _, rfl, (), rfl, _, rfl, _, rfl, p, bs, rfl, hp, by omega, fun H1 e1 => ⟨_, rfl, _, _, rfl, rfl, shl_ok (j := 16) (n := 180) (by simpa using hlt) (by decide), _, rfl, natOf bs * 2 ^ 16, congrArg (fun z => [V.int z, V.int 69665]) (by rw [Int.natCast_mul]; rfl), by omega, ?_⟩⟩
    refine ⟨_, rfl, _, 16, rfl, by decide, syn_lt _, fun b H2 e2 hb => ⟨_, _, _, _, rfl, rfl, SqT.of (e2 _ _ (e1 _ _ hp)), SqT.of hb, ?_, fun hx => ?_, fun _ hy => ?_, fun _ _ u hu => ?_⟩⟩
    · rw [bvs_len, bvs_len, spr_len]
      exact szl (by omega)
    · refine q b H2 (e1.trans e2) ?_
      have e : bs = [] := by cases bs with | nil => rfl | cons _ _ => cases hx
      rw [hb]
      unfold codedB
      rw [e]
      rfl
    · have := congrArg List.length hy
      rw [bvs_len, spr_len] at this
      cases this
    · refine q u _ ((e1.trans e2).trans (Ex.new hu)) ?_
      rw [upd_same]
      unfold codedB
      rw [bvs_app]
theorem cal_is_right (T : TX K mg) (c_need_code : Cal P w K mg base "need_code" 1 (sp_need_code K)) (c_divided : Cal P w K mg base "divided" 1 (sp_divided K)) (c_number_by : Cal P w K mg base "number_by" 4 (sp_number_by K)) : Cal P w K mg base "is_right" 5 (sp_is_right K) := by
  obtain ⟨fd, F⟩ := T.df_is_right
  have hb : Binds K fd ["bits", "code"] [] := F.bindsN fun _ _ _ _ _ _ us hl => match us, hl with | [_, _], _ => rfl
  refine Cal.mk2 T.g_is_right F.kp hb (F.ok (CX := CX0) (k := 4) sc_is_right (fun vs H Q E h => ?_) (fun cdv A outer s H vs Q E hr h => ?_))
  · obtain ⟨_, _, rfl, _⟩ := h
    rfl
  · obtain ⟨p, bs, rfl, hp, hl, q⟩ := h
    refine ⟨_, PSs.nox (pss_cons (ps_expr (pe_cal c_need_code (hr.mono (by decide)) (pa_cons (pv 1) pa_nil)))
    (pss_one (ps_ret (pe_cmpR op_eq (pe_cal c_divided (hr.mono (by decide)) (pa_cons (pe_cal c_number_by hr (pa_cons (pv 0) pa_nil)) (pa_cons (pv 1) pa_nil))) pe_int (nomark _))))), ?_⟩
    refine ⟨_, rfl, (), rfl, _, rfl, p, bs, rfl, hp, hl, fun H1 e1 => ⟨_, rfl, natOf bs, rfl, ?_, rfl, ?_⟩⟩
    · have := natOf_lt bs
      exact Nat.lt_of_lt_of_le this (Nat.pow_le_pow_right (by decide) (by omega))
    · have := q H1 e1
      have e : decide (V.int ((syn (natOf bs) : Nat) : Int) = V.int 0) = decide (syn (natOf bs) = 0) := by
        by_cases h : syn (natOf bs) = 0
        · rw [h]
          rfl
        · rw [decide_eq_false h, decide_eq_false fun z => h (by injection z with z; omega)]
      show Q (V.bl (decide (V.int ((syn (natOf bs) : Nat) : Int) = V.int 0))) H1
      rw [e]
      exact this
end
end K54

set_option Elab.async false
set_option linter.all false
set_option maxRecDepth 100000
set_option maxHeartbeats 4000000
/-! The defs of packets keep their promises. -/
namespace K54
open PySem PySem.Spec PyProof.Rows L2 Evl
theorem nS {a b : String} (h : ¬ Str.ofString a = Str.ofString b := by decide +kernel) : ¬ Str.ofString a = Str.ofString b := h
section
variable {f : Fl} {d : Addr}
theorem pkl_data : (pkF f d).lookup ("data" : Str) = some (V.ref d) := lk_same
theorem pkl_more : (pkF f d).lookup ("more" : Str) = some (V.bl f.more) := lk_ne nS lk_same
theorem pkl_first : (pkF f d).lookup ("first" : Str) = some (V.int f.first) := lk_ne nS (lk_ne nS lk_same)
theorem pkl_name : (pkF f d).lookup ("name" : Str) = some (V.int f.name) := lk_ne nS (lk_ne nS (lk_ne nS lk_same))
theorem pkl_life : (pkF f d).lookup ("life" : Str) = some (V.int f.life) := lk_ne nS (lk_ne nS (lk_ne nS (lk_ne nS lk_same)))
theorem pkl_kind : (pkF f d).lookup ("kind" : Str) = some (V.int f.kind) := lk_ne nS (lk_ne nS (lk_ne nS (lk_ne nS (lk_ne nS lk_same))))
theorem pkl_target : (pkF f d).lookup ("target" : Str) = some (V.int f.tgt) := lk_ne nS (lk_ne nS (lk_ne nS (lk_ne nS (lk_ne nS (lk_ne nS lk_same)))))
theorem pkl_source : (pkF f d).lookup ("source" : Str) = some (V.int f.src) := lk_ne nS (lk_ne nS (lk_ne nS (lk_ne nS (lk_ne nS (lk_ne nS (lk_ne nS lk_same))))))
theorem pkl_told : (pkF f d).lookup ("told" : Str) = none := lk_ne nS (lk_ne nS (lk_ne nS (lk_ne nS (lk_ne nS (lk_ne nS (lk_ne nS (lk_ne nS rfl)))))))
end
section
variable {P : Program} {w : World} {K : PySem.W.Frag} {mg : Str → Option Value} {base : Heap}
theorem cal_is_number_packets (T : TX K mg) : Cal P w K mg base "is_number_packets" 1 (sp_is_number_packets K) := by
  obtain ⟨fd, F⟩ := T.df_is_number_packets
  have hb : Binds K fd ["thing", "most"] [] := F.bindsN fun _ _ _ _ _ _ us hl => match us, hl with | [_, _], _ => rfl
  refine Cal.mk2 T.g_is_number_packets F.kp hb (F.ok (CX := CX0) (k := 0) sc_is_number_packets (fun vs H Q E h => ?_) (fun cdv A outer s H vs Q E hr h => ?_))
  · obtain ⟨_, _, rfl, _⟩ := h
    rfl
  · obtain ⟨i, b, rfl, h1, h2, q⟩ := h
    refine ⟨_, PSs.nox (pss_one (ps_ret (pe_and (pe_callB call_isi (by rfl) T.f_isinstance bt_isinstance (pa_cons (pv 0) (pa_cons (pe_bty T.f_int bt_int) pa_nil))) (pe_and (pe_not (pe_callB call_isi (by rfl) T.f_isinstance bt_isinstance (pa_cons (pv 0) (pa_cons (pe_bty T.f_bool bt_bool) pa_nil)))) (pe_one (pe_chain op_le op_le pe_int (pv 0) (pv 1))))))), ?_⟩
    refine ⟨_, rfl, _, _, _, _, true, rfl, .ty _, .base (.int _), isi_ii, true, rfl, iteT ?_⟩
    refine ⟨_, rfl, _, _, _, _, false, rfl, .ty _, .base (.int _), isi_ib, _, rfl, true, rfl, iteT ?_⟩
    refine ⟨_, rfl, _, _, rfl, rfl, _, rfl, le_T h1 ⟨_, rfl, _, _, rfl, rfl, ?_⟩⟩
    show Q (V.bl (decide (i ≤ b))) H
    rw [decide_eq_true h2]
    exact q
theorem cal_are_bytes (T : TX K mg) (c_is_number_packets : Cal P w K mg base "is_number_packets" 1 (sp_is_number_packets K)) : Cal P w K mg base "are_bytes" 2 (sp_are_bytes K) := by
  obtain ⟨fd, F⟩ := T.df_are_bytes
  have hb : Binds K fd ["thing", "most"] [] := F.bindsN fun _ _ _ _ _ _ us hl => match us, hl with | [_, _], _ => rfl
  refine Cal.mk2 T.g_are_bytes F.kp hb (F.ok (CX := CX0) (k := 1) sc_are_bytes (fun vs H Q E h => ?_) (fun cdv A outer s H vs Q E hr h => ?_))
  · obtain ⟨_, _, _, rfl, _⟩ := h
    rfl
  · obtain ⟨p, m, xs, rfl, hp, hm, hl, hb, q⟩ := h
    refine ⟨_, PSs.nox (pss_one (ps_ret (pe_and (pe_callB call_isi (by rfl) T.f_isinstance bt_isinstance (pa_cons (pv 0) (pa_cons (pe_bty T.f_tuple bt_tuple) pa_nil))) (pe_and (pe_cmpR op_le (pe_callB call_len_seq (by rfl) T.f_len bt_len (pa_cons (pv 0) pa_nil)) (pv 1) (nomark _)) (pe_one (pe_callB (cr_all rfl) (by rfl) T.f_all bt_all (pa_cons (pe_lc (own := [("byte", 2)]) rfl sc_are_bytes.nd (pi_tup (pv 0)) (blkOk_by (own := [("byte", 2)]) (N := sn_are_bytes) (sc := defScope s_are_bytes) (by decide +kernel)) (fun _ _ _ _ _ => pg_name (i := 2) sc_are_bytes.nd rfl (.inl rfl)) (fun _ _ _ _ _ => pts_nil) (fun _ _ _ _ _ => (pe_cal c_is_number_packets hr (pa_cons (pv 2) (pa_cons (pe_gint T.i_MOST_BYTE_packets) pa_nil))))) pa_nil))))))), ?_⟩
    refine ⟨_, rfl, _, _, _, _, true, rfl, .ty _, .base (.tup hp), isi_tt, true, rfl, iteT ?_⟩
    refine ⟨_, rfl, p, _, rfl, .inr (SqT.of hp), _, rfl, _, _, rfl, rfl, _, rfl, ?_⟩
    rw [ivs_len]
    refine le_T hm ?_
    refine ⟨_, rfl, p, rfl, ⟨_, SqT.of hp⟩, fun D hD => lcT (xs := ivs xs) (ys := (List.replicate xs.length true).map V.bl) hD hp (by simp [ivs]) (by rw [ivs_len]; omega) (fun x => rfl) (fun i x y H1 hx hy e Q1 k => ?_) (fun H1 e hq => ?_)⟩
    · rw [rep_get hy] at k
      unfold ivs at hx
      rw [List.getElem?_map] at hx
      cases hq : xs[i]? with
      | none => rw [hq] at hx; cases hx
      | some b =>
        rw [hq] at hx
        cases hx
        have := hb b (List.mem_of_getElem? hq)
        exact ⟨_, rfl, _, 255, rfl, this.1, this.2, k H1 (Ex.refl _)⟩
    · refine ⟨D, _, rfl, SqL.of hq, ?_⟩
      rw [all_true]
      exact q H1 e
theorem cal_two (T : TX K mg) : Cal P w K mg base "two" 1 (sp_two K) := by
  obtain ⟨fd, F⟩ := T.df_two
  have hb : Binds K fd ["number"] [] := F.bindsN fun _ _ _ _ _ _ us hl => match us, hl with | [_], _ => rfl
  refine Cal.mk2 T.g_two F.kp hb (F.ok (CX := CX0) (k := 0) sc_two (fun vs H Q E h => ?_) (fun cdv A outer s H vs Q E hr h => ?_))
  · obtain ⟨_, rfl, _⟩ := h
    rfl
  · obtain ⟨n, rfl, q⟩ := h
    refine ⟨_, PSs.nox (pss_one (ps_ret (pe_tup (pa_cons (pe_op op_fdiv (pv 0) pe_int) (pa_cons (pe_op op_mod (pv 0) pe_int) pa_nil))))), ?_⟩
    exact ⟨_, rfl, _, _, rfl, rfl, ⟨by decide, by decide⟩, _, rfl, _, _, rfl, rfl, (by show (0 : Int) < 256; decide), sz_2, fun p hp => q p _ (Ex.new hp) upd_same⟩
theorem cal_of_two (T : TX K mg) : Cal P w K mg base "of_two" 1 (sp_of_two K) := by
  obtain ⟨fd, F⟩ := T.df_of_two
  have hb : Binds K fd ["row", "place"] [] := F.bindsN fun _ _ _ _ _ _ us hl => match us, hl with | [_, _], _ => rfl
  refine Cal.mk2 T.g_of_two F.kp hb (F.ok (CX := CX0) (k := 0) sc_of_two (fun vs H Q E h => ?_) (fun cdv A outer s H vs Q E hr h => ?_))
  · obtain ⟨_, _, _, rfl, _⟩ := h
    rfl
  · obtain ⟨p, j, xs, rfl, hp, hj, q⟩ := h
    refine ⟨_, PSs.nox (pss_one (ps_ret (pe_op op_add (pe_op op_mul (pe_ix ix_tup (pv 0) (pv 1) (fun _ _ => rfl)) pe_int) (pe_ix ix_tup (pv 0) (pe_op op_add (pv 1) pe_int) (fun _ _ => rfl))))), ?_⟩
    refine ⟨_, rfl, _, rfl, _, _, _, _, rfl, rfl, SqT.of hp, at_ivs (by omega), _, _, rfl, rfl, .inr ⟨by decide, by decide⟩, _, rfl, _, rfl, _, _, rfl, rfl, _, _, _, _, rfl, rfl, SqT.of hp, ?_, _, _, rfl, rfl, q⟩
    exact at_ivs (j := j + 1) hj
theorem cal_sum_of (T : TX K mg) (c_of_two : Cal P w K mg base "of_two" 1 (sp_of_two K)) : Cal P w K mg base "sum_of" 2 (sp_sum_of K) := by
  obtain ⟨fd, F⟩ := T.df_sum_of
  have hb : Binds K fd ["head"] [] := F.bindsN fun _ _ _ _ _ _ us hl => match us, hl with | [_], _ => rfl
  refine Cal.mk2 T.g_sum_of F.kp hb (F.ok (CX := CX0) (k := 1) sc_sum_of (fun vs H Q E h => ?_) (fun cdv A outer s H vs Q E hr h => ?_))
  · obtain ⟨_, _, rfl, _⟩ := h
    rfl
  · obtain ⟨p, xs, rfl, hp, hl, hb, q⟩ := h
    refine ⟨_, PSs.nox (pss_cons (ps_set (i := 1) sc_sum_of.nd rfl (.inl rfl) pe_int)
    (pss_cons (ps_for PassesOwn.never rfl (pi_range3 rfl T.f_range (pa_cons pe_int (pa_cons (pe_gint T.i_SUM_AT) (pa_cons pe_int pa_nil)))) (pg_name (i := 2) sc_sum_of.nd rfl (.inl rfl)) (pss_one (ps_aug (i := 1) sc_sum_of.nd rfl (.inl rfl) (pe_cal c_of_two hr (pa_cons (pv 0) (pa_cons (pv 2) pa_nil))) ip_add)))
    (pss_cons (ps_while PassesOwn.never (pt_cmpR op_gt (pv 1) (pe_gint T.i_MOST_WORD) (nomark _)) (pss_one (ps_set (i := 1) sc_sum_of.nd rfl (.inl rfl) (pe_op op_add (pe_op op_fdiv (pv 1) (pe_op op_add (pe_gint T.i_MOST_WORD) pe_int)) (pe_op op_mod (pv 1) (pe_op op_add (pe_gint T.i_MOST_WORD) pe_int))))))
    (pss_one (ps_ret (pe_op op_sub (pe_gint T.i_MOST_WORD) (pv 1))))))), ?_⟩
    have T0 := totI_range hb 6
    refine ⟨0, 12, 2, 6, rfl, ⟨by decide, by decide, by decide, by decide⟩, for_rangeC (lo := 0) (c := 2) (n := 6) (fun i σ H' => H' = H ∧ ∃ v, σ = [some (.ref p), some (.int (totI xs i)), v]) ⟨rfl, none, rfl⟩ ?_ ?_⟩
    · rintro i σ H' hi ⟨rfl, v, rfl⟩
      refine ⟨_, rfl, _, rfl, _, rfl, p, 2 * i, xs, ?_, hp, by omega, _, _, rfl, rfl, rfl, some (.int (0 + (i : Nat) * 2)), rfl⟩
      show [V.ref p, V.int (0 + (i : Nat) * 2)] = _
      rw [show (0 : Int) + (i : Nat) * 2 = ((2 * i : Nat) : Int) by omega]
    · rintro σ H' ⟨rfl, v, rfl⟩
      refine while_by (fun σ H1 => H1 = H' ∧ ∃ t v, σ = [some (.ref p), some (.int t), v] ∧ 0 ≤ t ∧ ones t = ones (totI xs 6)) (fun σ _ => match σ with | [_, some (.int i), _] => i.toNat | _ => 0) ⟨rfl, _, v, rfl, T0.1, rfl⟩ ?_ (fun σ H1 Q1 Q2 k1 k2 => ?_)
      · rintro σ H1 ⟨rfl, t, v, rfl, h0, ht⟩
        refine ⟨_, rfl, _, _, rfl, rfl, _, rfl, ?_⟩
        by_cases hlt : 65535 < t
        · rw [decide_eq_true hlt]
          refine iteT ⟨_, rfl, _, _, rfl, rfl, _, _, rfl, rfl, ⟨by decide, by decide⟩, _, rfl, _, _, rfl, rfl, _, _, rfl, rfl, (by show (0 : Int) < 65536; decide), _, _, rfl, rfl, ?_⟩
          refine ⟨⟨rfl, _, v, rfl, by omega, (ones_turn hlt).trans ht⟩, ?_⟩
          show (t / 65536 + t % 65536).toNat < t.toNat
          omega
        · rw [decide_eq_false hlt]
          refine iteF ⟨_, rfl, _, _, rfl, rfl, ?_⟩
          have : t = ones (totI xs 6) := by rw [← ht, ones_small h0 (by omega)]
          rw [this]
          exact q
      · obtain ⟨v, hv, a, b, ha, hb, z, hz, k2⟩ := k2
        exact ⟨v, hv, a, b, ha, hb, z, hz, k1 _ _ k2⟩
theorem cal_Packet_init (T : TX K mg) (c_are_bytes : Cal P w K mg base "are_bytes" 2 (sp_are_bytes K)) (c_is_number_packets : Cal P w K mg base "is_number_packets" 1 (sp_is_number_packets K)) : NCal P w K mg base "Packet" 3 (sp_Packet_init K) := by
  obtain ⟨fd, F⟩ := T.df_Packet_init
  have hb : Binds K fd ["self", "source", "target", "kind", "life", "name", "first", "more", "data"] [] := F.bindsN fun _ _ _ _ _ _ us hl => match us, hl with | [_, _, _, _, _, _, _, _, _], _ => rfl
  refine NCal.mk2 T.gc_Packet T.mk_Packet hb (F.ok (CX := CX0) (k := 2) sc_Packet_init (fun vs H Q E h => ?_) (fun cdv A outer s H vs Q E hr h => ?_))
  · obtain ⟨_, _, _, _, rfl, _⟩ := h
    rfl
  · obtain ⟨x, dx, d, f, rfl, hx, hd, ok, q⟩ := h
    refine ⟨_, PSs.nox (pss_cons (ps_if (pt_not (pt_val (pe_callB (cr_all rfl) (by rfl) T.f_all bt_all (pa_cons (pe_lc (own := [("thing", 9)]) rfl sc_Packet_init.nd (pi_tup (pe_tup (pa_cons (pv 1) (pa_cons (pv 2) (pa_cons (pv 3) (pa_cons (pv 4) pa_nil)))))) (blkOk_by (own := [("thing", 9)]) (N := sn_Packet_init) (sc := defScope s_Packet_init) (by decide +kernel)) (fun _ _ _ _ _ => pg_name (i := 9) sc_Packet_init.nd rfl (.inl rfl)) (fun _ _ _ _ _ => pts_nil) (fun _ _ _ _ _ => (pe_cal c_is_number_packets (hr.mono (by decide)) (pa_cons (pv 9) (pa_cons (pe_gint T.i_MOST_BYTE_packets) pa_nil))))) pa_nil)))) (pss_one ps_never) pss_nil)
    (pss_cons (ps_if (PW.pt (pw_or (pt_not (pt_val (pe_cal c_is_number_packets (hr.mono (by decide)) (pa_cons (pv 5) (pa_cons (pe_gint T.i_MOST_WORD) pa_nil))))) (pw_or (pt_not (pt_val (pe_cal c_is_number_packets (hr.mono (by decide)) (pa_cons (pv 6) (pa_cons (pe_gint T.i_MOST_TOGETHER) pa_nil))))) (pw_or1 (pt_not (pt_val (pe_callB call_isi (by rfl) T.f_isinstance bt_isinstance (pa_cons (pv 7) (pa_cons (pe_bty T.f_bool bt_bool) pa_nil))))))))) (pss_one ps_never) pss_nil)
    (pss_cons (ps_if (pt_not (pt_val (pe_cal c_are_bytes hr (pa_cons (pv 8) (pa_cons (pe_op op_sub (pe_gint T.i_MOST_TOGETHER) (pv 6)) pa_nil))))) (pss_one ps_never) pss_nil)
    (pss_cons (ps_fld (pv 0) (pv 1) rfl)
    (pss_cons (ps_fld (pv 0) (pv 2) rfl)
    (pss_cons (ps_fld (pv 0) (pv 3) rfl)
    (pss_cons (ps_fld (pv 0) (pv 4) rfl)
    (pss_cons (ps_fld (pv 0) (pv 5) rfl)
    (pss_cons (ps_fld (pv 0) (pv 6) rfl)
    (pss_cons (ps_fld (pv 0) (pv 7) rfl)
    (pss_one (ps_fld (pv 0) (pv 8) rfl)))))))))))), ?_⟩
    refine ⟨_, rfl, _, rfl, _, rfl, _, rfl, sz_4, fun t ht => ⟨t, rfl, ⟨_, SqT.of upd_same⟩, fun D hD => lcT (xs := ivs [f.src, f.tgt, f.kind, f.life]) (ys := (List.replicate 4 true).map V.bl) hD upd_same rfl (show 4 ≤ 50000 by decide) (fun x => rfl) (fun i y z H1 hy hz e Q1 k => ?_) (fun H1 e hq => ?_)⟩⟩
    · rw [rep_get hz] at k
      obtain ⟨n, rfl, hn⟩ : ∃ n, y = V.int n ∧ IsB n := by
        have hm := mem_at hy
        unfold ivs at hm
        simp only [List.map_cons, List.map_nil, List.mem_cons, List.not_mem_nil, or_false] at hm
        rcases hm with rfl | rfl | rfl | rfl
        · exact ⟨_, rfl, ok.src⟩
        · exact ⟨_, rfl, ok.tgt⟩
        · exact ⟨_, rfl, ok.kind⟩
        · exact ⟨_, rfl, ok.life⟩
      exact ⟨_, rfl, n, 255, rfl, hn.1, hn.2, k H1 (Ex.refl _)⟩
    · have e0 : Ex H H1 := (Ex.new ht).trans e
      refine ⟨D, _, rfl, SqL.of hq, true, rfl, iteF ?_⟩
      refine ⟨_, rfl, f.name, 65535, rfl, ok.name0, ok.name1, true, rfl, iteF ?_⟩
      refine ⟨_, rfl, f.first, 1000, rfl, by rw [ok.first]; decide, by rw [ok.first]; decide, true, rfl, iteF ?_⟩
      refine ⟨_, rfl, _, _, _, _, true, rfl, .ty _, .base (.bl _), isi_bb, _, rfl, iteF ?_⟩
      have hl := ok.len
      refine ⟨_, rfl, _, rfl, _, _, rfl, rfl, d, 1000 - f.first, f.data, rfl, e0 _ _ hd, by rw [ok.first]; omega, by omega, ok.data, fun H2 e2 => ⟨true, rfl, iteF ?_⟩⟩
      have hx2 := e2 _ _ (e0 _ _ hx)
      refine ⟨_, rfl, _, rfl, _, _, _, _, rfl, hx2, T.cl_Packet, T.na_Packet_source, (by decide), ?_⟩
      refine ⟨_, rfl, _, rfl, _, _, _, _, rfl, upd_same, T.cl_Packet, T.na_Packet_target, (lt1000 (putF_le (Nat.zero_le 0))), ?_⟩
      refine ⟨_, rfl, _, rfl, _, _, _, _, rfl, upd_same, T.cl_Packet, T.na_Packet_kind, (lt1000 (putF_le (putF_le (Nat.zero_le 0)))), ?_⟩
      refine ⟨_, rfl, _, rfl, _, _, _, _, rfl, upd_same, T.cl_Packet, T.na_Packet_life, (lt1000 (putF_le (putF_le (putF_le (Nat.zero_le 0))))), ?_⟩
      refine ⟨_, rfl, _, rfl, _, _, _, _, rfl, upd_same, T.cl_Packet, T.na_Packet_name, (lt1000 (putF_le (putF_le (putF_le (putF_le (Nat.zero_le 0)))))), ?_⟩
      refine ⟨_, rfl, _, rfl, _, _, _, _, rfl, upd_same, T.cl_Packet, T.na_Packet_first, (lt1000 (putF_le (putF_le (putF_le (putF_le (putF_le (Nat.zero_le 0))))))), ?_⟩
      refine ⟨_, rfl, _, rfl, _, _, _, _, rfl, upd_same, T.cl_Packet, T.na_Packet_more, (lt1000 (putF_le (putF_le (putF_le (putF_le (putF_le (putF_le (Nat.zero_le 0)))))))), ?_⟩
      refine ⟨_, rfl, _, rfl, _, _, _, _, rfl, upd_same, T.cl_Packet, T.na_Packet_data, (lt1000 (putF_le (putF_le (putF_le (putF_le (putF_le (putF_le (putF_le (Nat.zero_le 0))))))))), ?_⟩
      refine q _ (fun a o ha hne => ?_) upd_same
      rw [upd_ne hne, upd_ne hne, upd_ne hne, upd_ne hne, upd_ne hne, upd_ne hne, upd_ne hne, upd_ne hne]
      exact e2 _ _ (e0 _ _ ha)
theorem cal_Packet_told (T : TX K mg) : MCal P w K mg base "Packet" "told" 1 (sp_Packet_told K) := by
  obtain ⟨fd, F⟩ := T.df_Packet_told
  have hb : Binds K fd ["self"] [] := F.bindsN fun _ _ _ _ _ _ us hl => match us, hl with | [_], _ => rfl
  refine MCal.mk2 T.cl_Packet T.m_Packet_told hb (F.ok (CX := CX0) (k := 0) sc_Packet_told (fun vs H Q E h => ?_) (fun cdv A outer s H vs Q E hr h => ?_))
  · obtain ⟨_, _, rfl, _⟩ := h
    rfl
  · obtain ⟨x, f, rfl, ⟨dx, d, hx, hd⟩, q⟩ := h
    refine ⟨_, PSs.nox (pss_cons (ps_set (i := 1) sc_Packet_told.nd rfl (.inl rfl) (pe_tup (pa_cons (pe_fld (pv 0) rfl) (pa_cons (pe_fld (pv 0) rfl) (pa_cons (pe_fld (pv 0) rfl) (pa_cons (pe_fld (pv 0) rfl) pa_nil))))))
    (pss_one (ps_ret (pe_op op_catA (pv 1) (pe_tup (pa_cons (pe_fld (pv 0) rfl) (pa_cons (pe_fld (pv 0) rfl) (pa_cons (pe_fld (pv 0) rfl) (pa_cons (pe_fld (pv 0) rfl) pa_nil))))))))), ?_⟩
    refine ⟨_, rfl, _, _, _, _, _, rfl, hx, T.cl_Packet, T.na_Packet_source, pkl_source, ⟨_, rfl, _, _, _, _, _, rfl, hx, T.cl_Packet, T.na_Packet_target, pkl_target, ⟨_, rfl, _, _, _, _, _, rfl, hx, T.cl_Packet, T.na_Packet_kind, pkl_kind, ⟨_, rfl, _, _, _, _, _, rfl, hx, T.cl_Packet, T.na_Packet_life, pkl_life, ⟨sz_4, fun t ht => ?_⟩⟩⟩⟩⟩
    have hx1 := Ex.new (o := .tup [V.int f.src, V.int f.tgt, V.int f.kind, V.int f.life]) ht _ _ hx
    refine ⟨_, rfl, _, rfl, _, _, _, _, _, rfl, hx1, T.cl_Packet, T.na_Packet_name, pkl_name, ⟨_, rfl, _, _, _, _, _, rfl, hx1, T.cl_Packet, T.na_Packet_first, pkl_first, ⟨_, rfl, _, _, _, _, _, rfl, hx1, T.cl_Packet, T.na_Packet_more, pkl_more, ⟨_, rfl, _, _, _, _, _, rfl, hx1, T.cl_Packet, T.na_Packet_data, pkl_data, ⟨sz_4, fun u hu => ?_⟩⟩⟩⟩⟩
    have hu1 := Ex.new (o := .tup [V.int f.name, V.int f.first, V.bl f.more, V.ref d]) hu _ _ (upd_same (H := H) (a := t))
    refine ⟨_, _, _, _, rfl, rfl, SqT.of hu1, SqT.of upd_same, sz_8, (fun z => nomatch z), (fun _ z => nomatch z), fun _ _ v hv => ?_⟩
    exact q v _ (((Ex.new ht).trans (Ex.new hu)).trans (Ex.new hv)) ⟨d, upd_same, Ex.new hv _ _ (Ex.new hu _ _ (Ex.new ht _ _ hd))⟩
theorem cal_packet_bytes (T : TX K mg) (c_two : Cal P w K mg base "two" 1 (sp_two K)) (c_sum_of : Cal P w K mg base "sum_of" 2 (sp_sum_of K)) : Cal P w K mg base "packet_bytes" 3 (sp_packet_bytes K) := by
  obtain ⟨fd, F⟩ := T.df_packet_bytes
  have hb : Binds K fd ["packet"] [] := F.bindsN fun _ _ _ _ _ _ us hl => match us, hl with | [_], _ => rfl
  refine Cal.mk2 T.g_packet_bytes F.kp hb (F.ok (CX := CX0) (k := 2) sc_packet_bytes (fun vs H Q E h => ?_) (fun cdv A outer s H vs Q E hr h => ?_))
  · obtain ⟨_, _, rfl, _⟩ := h
    rfl
  · obtain ⟨x, f, rfl, ⟨dx, d, hx, hd⟩, ok, q⟩ := h
    refine ⟨_, PSs.nox (pss_cons (ps_set (i := 1) sc_packet_bytes.nd rfl (.inl rfl) (pe_op op_catA (pe_op op_catA (pe_tup (pa_cons (pe_fld (pv 0) rfl) (pa_cons (pe_fld (pv 0) rfl) (pa_cons (pe_fld (pv 0) rfl) (pa_cons (pe_fld (pv 0) rfl) pa_nil))))) (pe_cal c_two (hr.mono (by decide)) (pa_cons (pe_fld (pv 0) rfl) pa_nil))) (pe_cal c_two (hr.mono (by decide)) (pa_cons (pe_fld (pv 0) rfl) pa_nil))))
    (pss_cons (ps_aug (i := 1) sc_packet_bytes.nd rfl (.inl rfl) (pe_op op_catA (pe_tup (pa_cons (pe_callTy call_int1 (by rfl) T.f_int bt_int (pa_cons (pe_fld (pv 0) rfl) pa_nil)) (pa_cons pe_int pa_nil))) (pe_cal c_two (hr.mono (by decide)) (pa_cons (pe_callB call_len_seq (by rfl) T.f_len bt_len (pa_cons (pe_fld (pv 0) rfl) pa_nil)) pa_nil))) ip_cat)
    (pss_one (ps_ret (pe_op op_catA (pe_op op_catA (pv 1) (pe_cal c_two (hr.mono (by decide)) (pa_cons (pe_cal c_sum_of hr (pa_cons (pv 1) pa_nil)) pa_nil))) (pe_fld (pv 0) rfl)))))), ?_⟩
    refine ⟨_, rfl, _, _, _, _, _, rfl, hx, T.cl_Packet, T.na_Packet_kind, pkl_kind, ⟨_, rfl, _, _, _, _, _, rfl, hx, T.cl_Packet, T.na_Packet_life, pkl_life, ⟨_, rfl, _, _, _, _, _, rfl, hx, T.cl_Packet, T.na_Packet_source, pkl_source, ⟨_, rfl, _, _, _, _, _, rfl, hx, T.cl_Packet, T.na_Packet_target, pkl_target, ⟨sz_4, fun t ht => ?_⟩⟩⟩⟩⟩
    have e1 := Ex.new (o := .tup [V.int f.kind, V.int f.life, V.int f.src, V.int f.tgt]) ht
    refine ⟨_, rfl, _, _, _, _, _, rfl, (e1 _ _ hx), T.cl_Packet, T.na_Packet_name, pkl_name, ⟨f.name, rfl, fun u H2 e2 hu => ?_⟩⟩
    refine ⟨_, _, _, _, rfl, rfl, SqT.of (e2 _ _ upd_same), SqT.of hu, sz_6, (fun z => nomatch z), (fun _ z => nomatch z), fun _ _ v hv => ?_⟩
    have e3 := (e1.trans e2).trans (Ex.new (o := .tup ([V.int f.kind, V.int f.life, V.int f.src, V.int f.tgt] ++ [V.int (f.name / 256), V.int (f.name % 256)])) hv)
    refine ⟨_, rfl, _, _, _, _, _, rfl, (e3 _ _ hx), T.cl_Packet, T.na_Packet_first, pkl_first, ⟨f.first, rfl, fun u2 H4 e4 hu2 => ?_⟩⟩
    refine ⟨_, _, _, _, rfl, rfl, SqT.of (e4 _ _ upd_same), SqT.of hu2, sz_8, (fun z => nomatch z), (fun _ z => nomatch z), fun _ _ h1 hh1 => ?_⟩
    -- head += ..
    have e5 := (e3.trans e4).trans (Ex.new (o := .tup ([V.int f.kind, V.int f.life, V.int f.src, V.int f.tgt] ++ [V.int (f.name / 256), V.int (f.name % 256)] ++ [V.int (f.first / 256), V.int (f.first % 256)])) hh1)
    refine ⟨_, rfl, _, rfl, _, _, _, _, _, rfl, (e5 _ _ hx), T.cl_Packet, T.na_Packet_more, pkl_more, (.inr ⟨_, rfl, sz_2, fun u3 hu3 => ?_⟩)⟩
    have e6 := e5.trans (Ex.new (o := .tup [V.int (if f.more = true then 1 else 0), V.int 0]) hu3)
    refine ⟨_, rfl, _, _, _, _, _, rfl, (e6 _ _ hx), T.cl_Packet, T.na_Packet_data, pkl_data, ⟨d, _, rfl, .inr (SqT.of (e6 _ _ hd)), _, rfl, fun u4 H7 e7 hu4 => ?_⟩⟩
    refine ⟨_, _, _, _, rfl, rfl, SqT.of (e7 _ _ upd_same), SqT.of hu4, sz_4, (fun z => nomatch z), (fun _ z => nomatch z), fun _ _ u5 hu5 => ?_⟩
    have hh := (e7.trans (Ex.new (o := .tup ([V.int (if f.more = true then 1 else 0), V.int 0] ++ [V.int (((ivs f.data).length : Int) / 256), V.int (((ivs f.data).length : Int) % 256)])) hu5)) _ _ (Ex.new (o := .tup [V.int (if f.more = true then 1 else 0), V.int 0]) hu3 _ _ (upd_same (a := h1)))
    refine ⟨_, _, _, _, rfl, rfl, SqT.of hh, SqT.of upd_same, (fun z => nomatch z), (fun z => nomatch z), sz_12, fun h2 hh2 => ?_⟩
    have e8 := ((e6.trans e7).trans (Ex.new (o := .tup ([V.int (if f.more = true then 1 else 0), V.int 0] ++ [V.int (((ivs f.data).length : Int) / 256), V.int (((ivs f.data).length : Int) % 256)])) hu5)).trans (Ex.new (o := .tup (ivs (hd12 f))) hh2)
    have eh : ivs (hd12 f) = ([V.int f.kind, V.int f.life, V.int f.src, V.int f.tgt] ++ [V.int (f.name / 256), V.int (f.name % 256)] ++ [V.int (f.first / 256), V.int (f.first % 256)]) ++ ([V.int (if f.more = true then 1 else 0), V.int 0] ++ [V.int (((ivs f.data).length : Int) / 256), V.int (((ivs f.data).length : Int) % 256)]) := by
      rw [ivs_len]
      rfl
    rw [← eh]
    refine ⟨_, rfl, _, rfl, h2, hd12 f, rfl, upd_same, Nat.le_refl _, hd12_B ok, _, rfl, fun u6 H9 e9 hu6 => ?_⟩
    refine ⟨_, _, _, _, rfl, rfl, SqT.of (e9 _ _ upd_same), SqT.of hu6, sz_14, (fun z => nomatch z), (fun _ z => nomatch z), fun _ _ h3 hh3 => ?_⟩
    have e10 := (e8.trans e9).trans (Ex.new (o := .tup (ivs (hd12 f) ++ [V.int (sumOf (hd12 f) / 256), V.int (sumOf (hd12 f) % 256)])) hh3)
    refine ⟨_, rfl, _, _, _, _, _, rfl, (e10 _ _ hx), T.cl_Packet, T.na_Packet_data, pkl_data, ⟨_, _, _, _, rfl, rfl, SqT.of upd_same, SqT.of (e10 _ _ hd), ?_, (fun z => nomatch z), fun _ hz => ?_, fun _ _ h4 hh4 => ?_⟩⟩
    · have := ok.len
      rw [List.length_append, ivs_len, ivs_len, hd12_len]
      exact szl (by show 12 + 2 + f.data.length ≤ 100000; omega)
    · refine q h3 _ e10 ?_
      rw [upd_same]
      have : f.data = [] := by cases hq : f.data with | nil => rfl | cons _ _ => rw [hq] at hz; cases hz
      unfold pkBytes
      rw [this, List.append_nil, ivs_app]
      rfl
    · refine q h4 _ (e10.trans (Ex.new hh4)) ?_
      rw [upd_same]
      unfold pkBytes
      rw [ivs_app, ivs_app]
      rfl
/-- a Packet made -/
theorem mk_pk {H1 : Hp} {f : Fl} {d : Addr} {Q : VK} (hd : H1 d = some (.tup (ivs f.data))) (ok : FlOk f) (q : ∀ x H2, H1 x = none → Ex H1 H2 → PkR K H2 x f → Q (.ref x) H2) (x dx : Addr) (nx : H1 x = none) (ndx : H1 dx = none) (ne : dx ≠ x) :
    sp_Packet_init K [.ref x, .int f.src, .int f.tgt, .int f.kind, .int f.life, .int f.name, .int f.first, .bl f.more, .ref d] (upd (upd H1 dx (.own x)) x (.ins (He.ga K "Packet") dx [])) (fun v H2 => v = .non ∧ Q (.ref x) H2) E0 := by
  have old : ∀ a o, H1 a = some o → upd (upd H1 dx (.own x)) x (.ins (He.ga K "Packet") dx []) a = some o := fun a o ha => by
    rw [upd_ne (ne_of_none ha nx), upd_ne (ne_of_none ha ndx)]
    exact ha
  exact ⟨x, dx, d, f, rfl, upd_same, old _ _ hd, ok, fun H2 k1 k2 => ⟨rfl, q x H2 nx (fun a o ha => k1 a o (old _ _ ha) (ne_of_none ha nx)) ⟨dx, d, k2, k1 _ _ (old _ _ hd) (ne_of_none hd nx)⟩⟩⟩
theorem pk_at (f : Fl) (ok : FlOk f) : (pkBytes f).getD 8 0 = 0 ∧ (pkBytes f).getD 9 0 = 0 ∧ (pkBytes f).getD 10 0 * 256 + (pkBytes f).getD 11 0 = ((f.data.length : Nat) : Int) ∧ (pkBytes f).getD 12 0 * 256 + (pkBytes f).getD 13 0 = sumOf (pkBytes f) := by
  rw [sum_pk]
  have h2 := ok.more
  refine ⟨?_, ?_, ?_, ?_⟩
  · unfold pkBytes hd12 hd10
    simp [b2z, h2]
  · unfold pkBytes hd12 hd10
    simp
  · unfold pkBytes hd12 hd10
    simp
    omega
  · have e : ∀ (a b : Int), (hd12 f ++ [a, b] ++ f.data).getD 12 0 = a ∧ (hd12 f ++ [a, b] ++ f.data).getD 13 0 = b := fun a b => by
      unfold hd12 hd10
      simp
    unfold pkBytes
    rw [(e _ _).1, (e _ _).2]
    omega
theorem cal_packet_by (T : TX K mg) (c_Packet_init : NCal P w K mg base "Packet" 3 (sp_Packet_init K)) (c_of_two : Cal P w K mg base "of_two" 1 (sp_of_two K)) (c_sum_of : Cal P w K mg base "sum_of" 2 (sp_sum_of K)) (c_are_bytes : Cal P w K mg base "are_bytes" 2 (sp_are_bytes K)) : Cal P w K mg base "packet_by" 5 (sp_packet_by K) := by
  obtain ⟨fd, F⟩ := T.df_packet_by
  have hb : Binds K fd ["thing"] [] := F.bindsN fun _ _ _ _ _ _ us hl => match us, hl with | [_], _ => rfl
  refine Cal.mk2 T.g_packet_by F.kp hb (F.ok (CX := CX0) (k := 4) sc_packet_by (fun vs H Q E h => ?_) (fun cdv A outer s H vs Q E hr h => ?_))
  · obtain ⟨_, _, rfl, _⟩ := h
    rfl
  · obtain ⟨p, f, rfl, hp, ok, q⟩ := h
    obtain ⟨g8, g9, g10, g12⟩ := pk_at f ok
    have gf := fields_pk ok
    have hl := pk_len f
    have hl3 := ok.len
    refine ⟨_, PSs.nox (pss_cons (ps_if (PW.pt (pw_or (pt_not (pt_val (pe_cal c_are_bytes (hr.mono (by decide)) (pa_cons (pv 0) (pa_cons (pe_op op_add (pe_gint T.i_HEAD) (pe_gint T.i_MOST_TOGETHER)) pa_nil))))) (pw_or1 (pt_cmpR op_lt (pe_callB call_len_seq (by rfl) T.f_len bt_len (pa_cons (pv 0) pa_nil)) (pe_gint T.i_HEAD) (nomark _))))) (pss_one ps_never) pss_nil)
    (pss_cons (ps_if (PW.pt (pw_or (pt_cmpR op_gt (pe_ix ix_tup (pv 0) (pe_gint T.i_MORE_AT) (fun _ _ => rfl)) pe_int (nomark _)) (pw_or (pt_cmpR op_ne (pe_ix ix_tup (pv 0) (pe_gint T.i_NOUGHT_AT) (fun _ _ => rfl)) pe_int (nomark _)) (pw_or1 (pt_cmpR op_ne (pe_cal c_of_two (hr.mono (by decide)) (pa_cons (pv 0) (pa_cons (pe_gint T.i_MANY_AT) pa_nil))) (pe_op op_sub (pe_callB call_len_seq (by rfl) T.f_len bt_len (pa_cons (pv 0) pa_nil)) (pe_gint T.i_HEAD)) (nomark _)))))) (pss_one ps_never) pss_nil)
    (pss_cons (ps_if (pt_cmpR op_ne (pe_cal c_of_two (hr.mono (by decide)) (pa_cons (pv 0) (pa_cons (pe_gint T.i_SUM_AT) pa_nil))) (pe_cal c_sum_of (hr.mono (by decide)) (pa_cons (pv 0) pa_nil)) (nomark _)) (pss_one ps_never) pss_nil)
    (pss_cons (ps_par (i := 1) (j := 2) (by rfl) sc_packet_by.nd rfl rfl (by decide) rfl rfl (pa_cons (pe_cal c_of_two (hr.mono (by decide)) (pa_cons (pv 0) (pa_cons pe_int pa_nil))) (pa_cons (pe_cal c_of_two (hr.mono (by decide)) (pa_cons (pv 0) (pa_cons pe_int pa_nil))) pa_nil)) (by rfl))
    (pss_one (ps_ret (pe_calN c_Packet_init hr (pa_cons (pe_ix ix_tup (pv 0) pe_int (fun _ _ => rfl)) (pa_cons (pe_ix ix_tup (pv 0) pe_int (fun _ _ => rfl)) (pa_cons (pe_ix ix_tup (pv 0) pe_int (fun _ _ => rfl)) (pa_cons (pe_ix ix_tup (pv 0) pe_int (fun _ _ => rfl)) (pa_cons (pv 1) (pa_cons (pv 2) (pa_cons (pe_cmpR op_eq (pe_ix ix_tup (pv 0) (pe_gint T.i_MORE_AT) (fun _ _ => rfl)) pe_int (nomark _)) (pa_cons (pe_slice sl_tupA (pv 0) (po_some (pe_gint T.i_HEAD)) po_none) pa_nil))))))))))))))), ?_⟩
    refine ⟨_, rfl, _, _, rfl, rfl, p, 14 + 1000, pkBytes f, rfl, hp, by omega, by omega, pk_B ok, fun H1 e1 => ⟨true, rfl, iteF ?_⟩⟩
    have hp1 := e1 _ _ hp
    refine ⟨_, rfl, p, _, rfl, .inr (SqT.of hp1), _, _, rfl, rfl, _, rfl, ?_⟩
    rw [ivs_len, decide_eq_false (by omega)]
    refine iteF ⟨_, rfl, _, _, _, _, rfl, rfl, SqT.of hp1, at_ivs (j := 8) (by omega), _, _, rfl, rfl, _, rfl, ?_⟩
    rw [g8]
    refine iteF ⟨_, rfl, _, _, _, _, rfl, rfl, SqT.of hp1, at_ivs (j := 9) (by omega), rfl, _, rfl, ?_⟩
    rw [g9]
    refine iteF ⟨_, rfl, p, 10, pkBytes f, rfl, hp1, by omega, _, rfl, p, _, rfl, .inr (SqT.of hp1), _, _, rfl, rfl, rfl, _, rfl, ?_⟩
    refine iteNS (by rw [g10, ivs_len, hl]; congr 1; omega) ?_
    refine ⟨_, rfl, p, 12, pkBytes f, rfl, hp1, by omega, _, rfl, p, pkBytes f, rfl, hp1, by omega, pk_B ok, rfl, _, rfl, ?_⟩
    refine iteNS (by rw [g12]) ?_
    refine ⟨_, rfl, p, 4, pkBytes f, rfl, hp1, by omega, _, rfl, p, 6, pkBytes f, rfl, hp1, by omega, _, _, rfl, ?_⟩
    refine ⟨_, rfl, _, _, _, _, rfl, rfl, SqT.of hp1, at_ivs (j := 2) (by omega), _, rfl, _, _, _, _, rfl, rfl, SqT.of hp1, at_ivs (j := 3) (by omega), _, rfl, _, _, _, _, rfl, rfl, SqT.of hp1, at_ivs (j := 0) (by omega), _, rfl, _, _, _, _, rfl, rfl, SqT.of hp1, at_ivs (j := 1) (by omega), ?_⟩
    refine ⟨_, rfl, _, rfl, _, rfl, _, _, _, _, rfl, rfl, SqT.of hp1, at_ivs (j := 8) (by omega), rfl, _, rfl, _, rfl, p, _, rfl, SqT.of hp1, fun hw => ?_, fun hw d hd => ?_⟩
    · exact absurd hw.1 (by rw [ivs_len, hl]; show ¬ min 14 (14 + f.data.length) = 0; omega)
    · have ed : cutV (ivs (pkBytes f)) (some 14) none = ivs f.data := by
        have e1 : (ivs (pkBytes f)).length = 14 + f.data.length := by rw [ivs_len, hl]
        have e2 : HT.sIx (14 + f.data.length) 0 (some 14) = 14 := by show min 14 (14 + f.data.length) = 14; omega
        have e3 : HT.sIx (14 + f.data.length) (14 + f.data.length) none = 14 + f.data.length := rfl
        have e4 : (ivs (pkBytes f)).drop 14 = ivs f.data := by
          unfold pkBytes
          rw [ivs_app, List.drop_append_of_le_length (by rw [ivs_len]; exact Nat.le_refl 14), List.drop_of_length_le (by rw [ivs_len]; exact Nat.le_refl 14), List.nil_append]
        unfold cutV
        rw [e1, e2, e3, e4, List.take_of_length_le]
        rw [ivs_len]
        omega
      have a1 : (pkBytes f).getD 2 0 = f.src := by show (fieldsP (pkBytes f)).src = f.src; rw [gf]
      have a2 : (pkBytes f).getD 3 0 = f.tgt := by show (fieldsP (pkBytes f)).tgt = f.tgt; rw [gf]
      have a3 : (pkBytes f).getD 0 0 = f.kind := by show (fieldsP (pkBytes f)).kind = f.kind; rw [gf]
      have a4 : (pkBytes f).getD 1 0 = f.life := by show (fieldsP (pkBytes f)).life = f.life; rw [gf]
      have a5 : (pkBytes f).getD 4 0 * 256 + (pkBytes f).getD 5 0 = f.name := by show (fieldsP (pkBytes f)).name = f.name; rw [gf]
      have a6 : (pkBytes f).getD 6 0 * 256 + (pkBytes f).getD 7 0 = f.first := by show (fieldsP (pkBytes f)).first = f.first; rw [gf]
      have a7 : decide (V.int ((pkBytes f).getD 8 0) = V.int 1) = f.more := by rw [g8, ok.more]; rfl
      intro x dx nx ndx ne
      show sp_Packet_init K [.ref x, .int ((pkBytes f).getD 2 0), .int ((pkBytes f).getD 3 0), .int ((pkBytes f).getD 0 0), .int ((pkBytes f).getD 1 0), .int ((pkBytes f).getD 4 0 * 256 + (pkBytes f).getD 5 0), .int ((pkBytes f).getD 6 0 * 256 + (pkBytes f).getD 7 0), .bl (decide (V.int ((pkBytes f).getD 8 0) = V.int 1)), .ref d] _ _ _
      rw [a1, a2, a3, a4, a5, a6, a7]
      refine mk_pk (by rw [upd_same, ed]) ok (fun y H2 ny e2 hy => q y H2 ?_ ((e1.trans (Ex.new hd)).trans e2) hy) x dx nx ndx ne
      exact fresh_back (e1.trans (Ex.new hd)) ny
end
end K54

set_option Elab.async false
set_option linter.all false
set_option maxRecDepth 100000
set_option maxHeartbeats 4000000
/-! The defs of tables keep their promises. -/
namespace K54
open PySem PySem.Spec PyProof.Rows L2 Evl
theorem flat_ivs (xs : List Int) : (ivs xs).all flatV = true := by
  induction xs with
  | nil => rfl
  | cons x r ih => show (flatV (.int x) && (ivs r).all flatV) = true; rw [ih]; rfl
theorem eqV_int (a b : Int) : eqV (.int a) (.int b) = (a == b) := rfl
theorem inV_ivs (x : Int) (xs : List Int) : inV (.int x) (ivs xs) = decide (x ∈ xs) := by
  unfold inV
  induction xs with
  | nil => rfl
  | cons y r ih =>
    show (eqV (.int y) (.int x) || (ivs r).any fun z => eqV z (.int x)) = _
    rw [ih, eqV_int]
    by_cases h : y = x
    · subst h
      simp
    · have h' : ¬ x = y := fun e => h e.symm
      simp [h, h']
theorem ivs_get {xs : List Int} {j : Nat} {z : V} (h : (ivs xs)[j]? = some z) : ∃ y, xs[j]? = some y ∧ z = .int y := by
  unfold ivs at h
  rw [List.getElem?_map] at h
  cases e : xs[j]? with
  | none => rw [e] at h; cases h
  | some y => rw [e] at h; exact ⟨y, rfl, (Option.some.inj h).symm⟩
theorem ix_get {xs : List Int} {y : Int} (hy : y ∈ xs) : (ivs xs)[xs.idxOf y]? = some (.int y) := by
  have hlt := List.idxOf_lt_length_of_mem hy
  unfold ivs
  rw [List.getElem?_map, List.getElem?_eq_getElem hlt, List.getElem_idxOf hlt]
  rfl
theorem ix_eq (y : Int) : eqV (.int y) (.int y) = true := by rw [eqV_int]; simp
theorem ix_no {xs : List Int} {y : Int} (hy : y ∈ xs) (m : Nat) (z' : V) (hm : m < xs.idxOf y) (hz : (ivs xs)[m]? = some z') : eqV z' (.int y) = false := by
  obtain ⟨x, hx, rfl⟩ := ivs_get hz
  rw [eqV_int]
  have := List.not_of_lt_findIdx (show m < List.findIdx (fun b => b == y) xs from hm)
  obtain ⟨h1, h2⟩ := List.getElem?_eq_some_iff.mp hx
  rw [h2] at this
  simpa using this
theorem cut_from (xs : List Int) (j : Nat) : cutV (ivs xs) (some ((j : Nat) : Int)) none = ivs (xs.drop j) := by
  unfold cutV
  rw [ivs_len, HT.sIx_nat]
  have e : HT.sIx xs.length xs.length none = xs.length := rfl
  rw [e]
  unfold ivs
  rw [List.map_drop]
  by_cases h : j ≤ xs.length
  · rw [Nat.min_eq_left h, List.take_of_length_le (by simp)]
  · rw [Nat.min_eq_right (by omega), List.drop_of_length_le (by simp), List.drop_of_length_le (by simp; omega)]
    simp
theorem cut_to (xs : List Int) (j : Nat) : cutV (ivs xs) none (some ((j : Nat) : Int)) = ivs (xs.take j) := by
  unfold cutV
  rw [ivs_len, HT.sIx_nat]
  have e : HT.sIx xs.length 0 none = 0 := rfl
  rw [e, List.drop_zero, Nat.sub_zero]
  unfold ivs
  rw [List.map_take]
  by_cases h : j ≤ xs.length
  · rw [Nat.min_eq_left h]
  · rw [Nat.min_eq_right (by omega), List.take_of_length_le (by simp), List.take_of_length_le (by simp; omega)]
theorem at_lastI {f : List Int} (h : f ≠ []) : atI (ivs f) (-1) = some (.int (lastI f)) := by
  have e0 := List.dropLast_concat_getLast h
  have e : f = f.dropLast ++ [lastI f] := by
    have e1 : lastI f = f.getLast h := by
      conv => lhs; rw [← e0]
      exact lastI_snoc _ _
    rw [e1, e0]
  have := atI_last (ivs f.dropLast) (.int (lastI f))
  have e2 : ivs f = ivs f.dropLast ++ [V.int (lastI f)] := by
    conv => lhs; rw [e]
    rw [ivs_app]
    rfl
  rw [e2]
  exact this
theorem rot_len (l : List Int) : (rotL l).length = l.length := by
  unfold rotL
  split
  · rw [List.length_append, List.length_drop, List.length_take]
    omega
  · rfl
theorem rot_of {l : List Int} {m : Int} (hm : m ∈ l) (hle : ∀ y ∈ l, m ≤ y) : rotL l = l.drop (l.idxOf m) ++ l.take (l.idxOf m) := by
  unfold rotL
  have : l.min? = some m := List.min?_eq_some_iff.mpr ⟨hm, hle⟩
  rw [this]
section
variable {P : Program} {w : World} {K : PySem.W.Frag} {mg : Str → Option Value} {base : Heap}
theorem cal_is_place (T : TX K mg) : Cal P w K mg base "is_place" 1 (sp_is_place K) := by
  obtain ⟨fd, F⟩ := T.df_is_place
  have hb : Binds K fd ["thing"] [] := F.bindsN fun _ _ _ _ _ _ us hl => match us, hl with | [_], _ => rfl
  refine Cal.mk2 T.g_is_place F.kp hb (F.ok (CX := CX0) (k := 0) sc_is_place (fun vs H Q E h => ?_) (fun cdv A outer s H vs Q E hr h => ?_))
  · obtain ⟨_, rfl, _⟩ := h
    rfl
  · obtain ⟨i, rfl, hi, q⟩ := h
    refine ⟨_, PSs.nox (pss_one (ps_ret (pe_and (pe_callB call_isi (by rfl) T.f_isinstance bt_isinstance (pa_cons (pv 0) (pa_cons (pe_bty T.f_int bt_int) pa_nil))) (pe_and (pe_not (pe_callB call_isi (by rfl) T.f_isinstance bt_isinstance (pa_cons (pv 0) (pa_cons (pe_bty T.f_bool bt_bool) pa_nil)))) (pe_one (pe_chain op_le op_le pe_int (pv 0) (pe_gint T.i_MOST_BYTE_tables))))))), ?_⟩
    refine ⟨_, rfl, _, _, _, _, true, rfl, .ty _, .base (.int _), isi_ii, true, rfl, iteT ?_⟩
    refine ⟨_, rfl, _, _, _, _, false, rfl, .ty _, .base (.int _), isi_ib, _, rfl, true, rfl, iteT ?_⟩
    refine ⟨_, rfl, _, _, rfl, rfl, _, rfl, le_T hi.1 ⟨_, _, rfl, rfl, ?_⟩⟩
    show Q (V.bl (decide (i ≤ 255))) H
    rw [decide_eq_true hi.2]
    exact q
theorem cal_is_other (T : TX K mg) (c_is_place : Cal P w K mg base "is_place" 1 (sp_is_place K)) : Cal P w K mg base "is_other" 2 (sp_is_other K) := by
  obtain ⟨fd, F⟩ := T.df_is_other
  have hb : Binds K fd ["thing", "place", "table"] [] := F.bindsN fun _ _ _ _ _ _ us hl => match us, hl with | [_, _, _], _ => rfl
  refine Cal.mk2 T.g_is_other F.kp hb (F.ok (CX := CX0) (k := 1) sc_is_other (fun vs H Q E h => ?_) (fun cdv A outer s H vs Q E hr h => ?_))
  · obtain ⟨_, _, _, _, rfl, _⟩ := h
    rfl
  · obtain ⟨i, p, d, tv, rfl, ht, hi, hb, ne, q⟩ := h
    obtain ⟨o, g, ho⟩ := ht.has i
    refine ⟨_, PSs.nox (pss_one (ps_ret (pe_and (pe_cal c_is_place hr (pa_cons (pv 0) pa_nil)) (pe_and (pe_cmp (pc_din (hu_of hr) (pv 0) (pv 2))) (pe_one (pe_cmpR op_ne (pv 0) (pv 1) (nomark _))))))), ?_⟩
    refine ⟨_, rfl, i, rfl, hb, true, rfl, iteT ⟨_, rfl, _, rfl, d, o, rfl, g, o.isSome, rfl, ?_⟩⟩
    rw [ho, decide_eq_true hi]
    refine iteT ⟨_, rfl, _, rfl, rfl, ?_⟩
    have e : decide (V.int i = V.int p) = false := decide_eq_false fun z => ne (by injection z)
    show Q (V.bl (!decide (V.int i = V.int p))) H
    rw [e]
    exact q
theorem cal_are_ways (T : TX K mg) (c_is_other : Cal P w K mg base "is_other" 2 (sp_is_other K)) : Cal P w K mg base "are_ways" 3 (sp_are_ways K) := by
  obtain ⟨fd, F⟩ := T.df_are_ways
  have hb : Binds K fd ["thing", "place", "table"] [] := F.bindsN fun _ _ _ _ _ _ us hl => match us, hl with | [_, _, _], _ => rfl
  refine Cal.mk2 T.g_are_ways F.kp hb (F.ok (CX := CX0) (k := 2) sc_are_ways (fun vs H Q E h => ?_) (fun cdv A outer s H vs Q E hr h => ?_))
  · obtain ⟨_, _, _, _, _, rfl, _⟩ := h
    rfl
  · obtain ⟨wa, p, d, tv, ws, rfl, ht, ok, hw, hin, q⟩ := h
    refine ⟨_, PSs.nox (pss_cons (ps_if (pt_not (pt_val (pe_callB call_isi (by rfl) T.f_isinstance bt_isinstance (pa_cons (pv 0) (pa_cons (pe_bty T.f_dict bt_dict) pa_nil))))) (pss_one (ps_ret pe_bl)) pss_nil)
    (pss_cons (ps_lock (ps_for PassesOwn.never rfl (pi_items (pv 0)) (pg_tup rfl (pgs_cons (pg_name (i := 3) sc_are_ways.nd rfl (.inl rfl)) (pgs_cons (pg_name (i := 4) sc_are_ways.nd rfl (.inl rfl)) pgs_nil))) (pss_one (ps_if (PW.pt (pw_or (pt_not (pt_val (pe_cal c_is_other hr (pa_cons (pv 3) (pa_cons (pv 1) (pa_cons (pv 2) pa_nil)))))) (pw_or1 (pt_not (pt_val (pe_cal c_is_other hr (pa_cons (pv 4) (pa_cons (pv 1) (pa_cons (pv 2) pa_nil))))))))) (pss_one (ps_ret pe_bl)) pss_nil))))
    (pss_one (ps_ret pe_bl)))), ?_⟩
    refine ⟨_, rfl, _, _, _, _, true, rfl, .ty _, .base (.dK hw), isi_dd, _, rfl, iteF ?_⟩
    refine ⟨wa, _, hw, trivial, fun od => ⟨_, rfl, wa, od, _, rfl, upd_same, for_items (fun i σ H' => Ex (upd H wa (.frz od (.dK (tin ws)))) H' ∧ ∃ v3 v4, σ = [some (.ref wa), some (.int p), some (.ref d), v3, v4]) ⟨Ex.refl _, none, none, rfl⟩ (fun i σ H' _ hh => hh.1 _ _ upd_same) ?_ ?_⟩⟩
    · rintro i k v Tp σ H' hk hT ⟨e1, v3, v4, rfl⟩
      obtain ⟨qq, hq, rfl, rfl⟩ : ∃ qq : Int × Int, qq ∈ ws ∧ k = Sum.inl qq.1 ∧ v = V.int qq.2 := by
        unfold tin at hk
        rw [List.getElem?_map] at hk
        cases e : ws[i]? with
        | none => rw [e] at hk; cases hk
        | some y =>
          rw [e] at hk
          have := Option.some.inj hk
          injection this with a b
          exact ⟨y, List.mem_of_getElem? e, a.symm, b.symm⟩
      obtain ⟨i1, i2, i3, i4⟩ := hin qq hq
      have e2 := e1.trans (Ex.new (o := .tup [V.int qq.1, V.int qq.2]) hT)
      have ht2 := (ht.lockIn (od := od) hw).ex e2
      refine ⟨Tp, _, rfl, SqT.of upd_same, rfl, _, _, rfl, _, _, rfl, rfl, ?_⟩
      refine ⟨_, rfl, _, rfl, _, rfl, qq.1, p, d, tv, rfl, ht2, i1, ok.byt _ i1, i2, true, rfl, iteF ?_⟩
      refine ⟨_, rfl, _, rfl, _, rfl, qq.2, p, d, tv, rfl, ht2, i3, ok.byt _ i3, i4, true, rfl, iteF ?_⟩
      exact ⟨e2, _, _, rfl⟩
    · rintro σ H' ⟨e1, v3, v4, rfl⟩
      exact ⟨e1 _ _ upd_same, q _ (ex_unlock hw e1)⟩
theorem cal_need_table (T : TX K mg) (c_are_ways : Cal P w K mg base "are_ways" 3 (sp_are_ways K)) (c_is_place : Cal P w K mg base "is_place" 1 (sp_is_place K)) : Cal P w K mg base "need_table" 4 (sp_need_table K) := by
  obtain ⟨fd, F⟩ := T.df_need_table
  have hb : Binds K fd ["thing"] [] := F.bindsN fun _ _ _ _ _ _ us hl => match us, hl with | [_], _ => rfl
  refine Cal.mk2 T.g_need_table F.kp hb (F.ok (CX := CX0) (k := 3) sc_need_table (fun vs H Q E h => ?_) (fun cdv A outer s H vs Q E hr h => ?_))
  · obtain ⟨_, _, rfl, _⟩ := h
    rfl
  · obtain ⟨d, tv, rfl, ht, ok, q⟩ := h
    obtain ⟨tb, o, ev, hd, hi⟩ := id ht
    have hl : (tout tb).length = tv.length := by rw [← ev]; simp [tout, tview]
    have l1 := ok.pos
    have l2 := ok.le
    refine ⟨_, PSs.nox (pss_cons (ps_if (PW.pt (pw_or (pt_not (pt_val (pe_callB call_isi (by rfl) T.f_isinstance bt_isinstance (pa_cons (pv 0) (pa_cons (pe_bty T.f_dict bt_dict) pa_nil))))) (pw_or1 (pt_not (pt_chain op_le op_le pe_int (pe_callB call_lenR (by rfl) T.f_len bt_len (pa_cons (pv 0) pa_nil)) (pe_gint T.i_MOST_PLACES)))))) (pss_one ps_never) pss_nil)
    (pss_cons (ps_if (pt_not (pt_val (pe_callB (cr_all rfl) (by rfl) T.f_all bt_all (pa_cons (pe_lc (own := [("place", 1)]) rfl sc_need_table.nd (pi_keys (pv 0)) (blkOk_by (own := [("place", 1)]) (N := sn_need_table) (sc := defScope s_need_table) (by decide +kernel)) (fun _ _ _ _ _ => pg_name (i := 1) sc_need_table.nd rfl (.inl rfl)) (fun _ _ _ _ _ => pts_nil) (fun _ _ _ _ _ => (pe_cal c_is_place (hr.mono (by decide)) (pa_cons (pv 1) pa_nil)))) pa_nil)))) (pss_one ps_never) pss_nil)
    (pss_one (ps_for PassesOwn.never rfl (pi_items (pv 0)) (pg_tup rfl (pgs_cons (pg_name (i := 1) sc_need_table.nd rfl (.inl rfl)) (pgs_cons (pg_name (i := 2) sc_need_table.nd rfl (.inl rfl)) pgs_nil))) (pss_one (ps_if (pt_not (pt_val (pe_cal c_are_ways hr (pa_cons (pv 2) (pa_cons (pv 1) (pa_cons (pv 0) pa_nil)))))) (pss_one ps_never) pss_nil)))))), ?_⟩
    refine ⟨_, rfl, _, _, _, _, true, rfl, .ty _, .fDict hd, isi_dd, _, rfl, iteF ?_⟩
    refine ⟨_, rfl, d, _, rfl, .inr ⟨o, hd⟩, _, _, rfl, rfl, _, rfl, ?_⟩
    rw [hl]
    refine le_T (by omega) ⟨_, _, rfl, rfl, _, rfl, ?_⟩
    rw [decide_eq_true (by omega)]
    refine iteF ⟨_, rfl, d, o, rfl, .inl ⟨_, hd, fun D hD => lc_keys (LcW H D ((List.replicate tv.length true).map V.bl)) (lcw_0 hD) (fun i H' _ p => p.1 _ _ hd) (fun i k v H' hk p => ?_) (fun H' p => ?_)⟩⟩
    · obtain ⟨t, hm, rfl⟩ : ∃ t : Int × Addr × List (Int × Int), t ∈ tb ∧ k = Sum.inl t.1 := by
        unfold tout at hk
        rw [List.getElem?_map] at hk
        cases e : tb[i]? with
        | none => rw [e] at hk; cases hk
        | some y =>
          rw [e] at hk
          have := Option.some.inj hk
          injection this with a b
          exact ⟨y, List.mem_of_getElem? e, a.symm⟩
      have hlt := (List.getElem?_eq_some_iff.mp hk).1
      refine ⟨rfl, _, rfl, t.1, rfl, ok.byt _ (by rw [← ev, plcs_view]; exact List.mem_map.mpr ⟨t, hm, rfl⟩), ?_⟩
      refine lcw_step hD ?_ p (Ex.refl _) (by simp; omega)
      rw [List.getElem?_map, List.getElem?_replicate, if_pos (by omega)]
      rfl
    · rw [hl] at p
      obtain ⟨e1, hq⟩ := lcw_end p (by simp)
      refine ⟨D, _, rfl, SqL.of hq, true, ?_, iteF ?_⟩
      · rw [all_true]
      refine ⟨_, rfl, d, o, _, rfl, e1 _ _ hd, for_items (fun i σ H2 => Ex H H2 ∧ ∃ v1 v2, σ = [some (.ref d), v1, v2]) ⟨e1, none, none, rfl⟩ (fun i σ H2 _ hh => hh.1 _ _ hd) ?_ ?_⟩
      · rintro i k v Tp σ H2 hk hT ⟨e2, v1, v2, rfl⟩
        obtain ⟨t, hm, rfl, rfl⟩ : ∃ t : Int × Addr × List (Int × Int), t ∈ tb ∧ k = Sum.inl t.1 ∧ v = V.ref t.2.1 := by
          unfold tout at hk
          rw [List.getElem?_map] at hk
          cases e : tb[i]? with
          | none => rw [e] at hk; cases hk
          | some y =>
            rw [e] at hk
            have := Option.some.inj hk
            injection this with a b
            exact ⟨y, List.mem_of_getElem? e, a.symm, b.symm⟩
        have e3 := e2.trans (Ex.new (o := .tup [V.int t.1, V.ref t.2.1]) hT)
        refine ⟨Tp, _, rfl, SqT.of upd_same, rfl, _, _, rfl, _, _, rfl, rfl, ?_⟩
        refine ⟨_, rfl, _, rfl, _, rfl, t.2.1, t.1, d, tv, t.2.2, rfl, ht.ex e3, ok, e3 _ _ (hi t hm), ?_, fun H4 e4 => ⟨true, rfl, iteF ⟨e3.trans e4, _, _, rfl⟩⟩⟩
        have := ok.inn (t.1, t.2.2) (by rw [← ev]; exact List.mem_map.mpr ⟨t, hm, rfl⟩)
        exact this
      · rintro σ H2 ⟨e2, v1, v2, rfl⟩
        exact q H2 e2
theorem cal_led (T : TX K mg) : Cal P w K mg base "led" 1 (sp_led K) := by
  obtain ⟨fd, F⟩ := T.df_led
  have hb : Binds K fd ["table", "place", "target"] [] := F.bindsN fun _ _ _ _ _ _ us hl => match us, hl with | [_, _, _], _ => rfl
  refine Cal.mk2 T.g_led F.kp hb (F.ok (CX := CX0) (k := 0) sc_led (fun vs H Q E h => ?_) (fun cdv A outer s H vs Q E hr h => ?_))
  · obtain ⟨_, _, _, _, rfl, _⟩ := h
    rfl
  · obtain ⟨d, p, t, tv, rfl, ht, ok, hp, htt, q⟩ := h
    refine ⟨_, PSs.nox (pss_cons (ps_set (i := 3) sc_led.nd rfl (.inl rfl) (pe_lst (pa_cons (pv 1) pa_nil)))
    (pss_cons (ps_while PassesOwn.never (pt_cmpR op_ne (pe_ix ix_list (pv 3) (pe_un un_neg pe_int) (fun _ _ => rfl)) (pv 2) (nomark _)) (pss_cons (ps_set (i := 4) sc_led.nd rfl (.inl rfl) (pe_dget2 (hu_of hr) (pe_dget (hu_of hr) (pv 0) (pe_ix ix_list (pv 3) (pe_un un_neg pe_int) (fun _ _ => rfl)) (fun _ _ => rfl)) (pv 2) pe_non ⟨rfl, rfl, rfl, rfl⟩))
    (pss_cons (ps_if (pt_cmpR op_isN (pv 4) pe_non (nomark _)) (pss_one (ps_ret pe_non)) pss_nil)
    (pss_cons (ps_if (pt_cmpR op_in_seq (pv 4) (pv 3) (by rfl)) (pss_cons (ps_set (i := 5) sc_led.nd rfl (.inl rfl) (pe_slice sl_list (pv 3) (po_some (pe_bm PySem.F.plainAttrs_list PySem.F.slot_list_index PySem.F.type_list_index mt_index (pv 3) (pa_cons (pv 4) pa_nil))) po_none))
    (pss_cons (ps_set (i := 6) sc_led.nd rfl (.inl rfl) (pe_bm PySem.F.plainAttrs_list PySem.F.slot_list_index PySem.F.type_list_index mt_index (pv 5) (pa_cons (pe_callB (cr_min rfl) (by rfl) T.f_min bt_min (pa_cons (pv 5) pa_nil)) pa_nil)))
    (pss_one (ps_ret (pe_tup (pa_cons pe_str (pa_cons (pe_op op_cat (pe_slice sl_list (pv 5) (po_some (pv 6)) po_none) (pe_slice sl_list (pv 5) po_none (po_some (pv 6)))) pa_nil))))))) pss_nil)
    (pss_one (ps_expr (pe_bm PySem.F.plainAttrs_list PySem.F.slot_list_append PySem.F.type_list_append mt_append (pv 3) (pa_cons (pv 4) pa_nil))))))))
    (pss_one (ps_ret (pv 3))))), ?_⟩
    refine ⟨_, rfl, szl (n := 1) (by decide), fun fa nfa => ?_⟩
    refine while_by (fun σ H' => Ex H H' ∧ ∃ (n : Nat) (f : List Int) (v4 : Option V), σ = [some (.ref d), some (.int p), some (.int t), some (.ref fa), v4, none, none] ∧ H' fa = some (.lst (ivs f)) ∧ f ≠ [] ∧ f.Nodup ∧ (∀ x ∈ f, x ∈ plcs tv) ∧ n + f.length = 9 ∧ walkP (fun x => nxt tv x t) t 8 [p] = walkP (fun x => nxt tv x t) t n f)
      (fun _ H' => match H' fa with | some (.lst l) => 20 - l.length | _ => 0) ⟨Ex.new nfa, 8, [p], none, rfl, upd_same, by simp, by simp, by simpa using hp, rfl, rfl⟩ ?_ (fun σ H1 Q1 Q2 k1 k2 => ?_)
    · rintro σ H' ⟨e1, n, f, v4, rfl, hfa, hne, hnd, hsub, hn, hw⟩
      have hlen : f.length ≤ 6 := Nat.le_trans (nodup_sub hnd hsub) (by unfold plcs; rw [List.length_map]; exact ok.le)
      obtain ⟨n, rfl⟩ : ∃ k, n = k + 1 := ⟨n - 1, by omega⟩
      have hx : lastI f ∈ plcs tv := by
        refine hsub _ ?_
        have e0 := List.dropLast_concat_getLast hne
        have e1 : lastI f = f.getLast hne := by
          conv => lhs; rw [← e0]
          exact lastI_snoc _ _
        rw [e1]
        exact List.getLast_mem hne
      refine ⟨_, rfl, _, rfl, _, _, _, _, rfl, rfl, SqL.of hfa, at_lastI hne, _, rfl, rfl, _, rfl, ?_⟩
      by_cases hl : lastI f = t
      · rw [hl]
        refine iteNS rfl ⟨_, rfl, ?_⟩
        refine q (.ref fa) H' e1 ?_
        have : wayP tv p t = .lst f := by
          unfold wayP
          rw [hw]
          unfold walkP wayOf
          rw [if_pos hl]
          simp only [hl, if_true]
        rw [this]
        exact ⟨fa, rfl, hfa⟩
      · have e0 : decide (V.int (lastI f) = V.int t) = false := decide_eq_false fun z => hl (by injection z)
        rw [e0]
        obtain ⟨a, ws, g1, g2, g3, g4⟩ := (ht.ex e1).get hx
        refine iteT ⟨_, rfl, _, rfl, _, rfl, _, _, _, _, rfl, rfl, SqL.of hfa, at_lastI hne, d, .ref a, rfl, g1, a, rfl, .inl ⟨_, g2⟩, _, rfl, _, g3 t, ?_⟩
        have hw' : walkP (fun x => nxt tv x t) t (n + 1) f = match nxt tv (lastI f) t with
            | none => (f, none)
            | some y => if y ∈ f then (f, some y) else walkP (fun x => nxt tv x t) t n (f ++ [y]) := by
          show (if lastI f = t then (f, none) else _) = _
          rw [if_neg hl]
          all_goals rfl
        cases hy : nxt tv (lastI f) t with
        | none =>
          rw [hy] at hw'
          refine ⟨_, rfl, rfl, _, rfl, iteT ?_⟩
          refine q .non H' e1 ?_
          have : wayP tv p t = .non := by
            unfold wayP
            rw [hw, hw']
            unfold wayOf
            simp only [hl, if_false]
          rw [this]
          rfl
        | some y =>
          rw [hy] at hw'
          have hyin := (nxt_in ok hy).2.2.2.1
          refine ⟨_, rfl, rfl, _, rfl, iteF ?_⟩
          refine ⟨_, rfl, _, rfl, fa, ivs f, rfl, .inl (SqL.of hfa), rfl, flat_ivs f, _, rfl, ?_⟩
          show (if inV (V.int y) (ivs f) = true then _ else _)
          by_cases hm : y ∈ f
          · have hy : y ∈ f := hm
            rw [inV_ivs, decide_eq_true hy]
            refine iteT ⟨_, rfl, _, rfl, .inl ⟨rfl, _, SqL.of hfa⟩, _, rfl, fa, ivs (f), V.int y, List.idxOf y (f), V.int y, rfl, rfl, SqL.of hfa, rfl, flat_ivs _, ix_get hy, ix_eq _, ix_no hy, _, rfl, fa, _, rfl, SqL.of hfa, fun pa hpa => ?_⟩
            rw [cut_from]
            have hne : 0 < (f.drop (f.idxOf y)).length := by
              have := List.idxOf_lt_length_of_mem hy
              rw [List.length_drop]
              omega
            have e2 := Ex.new (o := .lst (ivs (f.drop (f.idxOf y)))) hpa
            refine ⟨_, rfl, .inl ⟨rfl, _, SqL.of upd_same⟩, _, rfl, pa, f.drop (f.idxOf y), rfl, SqL.of upd_same, hne, fun m hmm hle => ?_⟩
            refine ⟨pa, ivs (f.drop (f.idxOf y)), V.int m, List.idxOf m (f.drop (f.idxOf y)), V.int m, rfl, rfl, SqL.of upd_same, rfl, flat_ivs _, ix_get hmm, ix_eq _, ix_no hmm, _, rfl, _, rfl, _, rfl, pa, _, rfl, SqL.of upd_same, fun p1 hp1 => ?_⟩
            rw [cut_from]
            have e3 := Ex.new (o := .lst (ivs ((f.drop (f.idxOf y)).drop ((f.drop (f.idxOf y)).idxOf m)))) hp1
            refine ⟨_, rfl, _, rfl, _, rfl, pa, _, rfl, SqL.of (e3 _ _ upd_same), fun p2 hp2 => ?_⟩
            rw [cut_to]
            have e4 := Ex.new (o := .lst (ivs ((f.drop (f.idxOf y)).take ((f.drop (f.idxOf y)).idxOf m)))) hp2
            have hlen : f.length ≤ 6 := Nat.le_trans (nodup_sub hnd hsub) (by unfold plcs; rw [List.length_map]; exact ok.le)
            refine ⟨_, _, _, _, rfl, rfl, e4 _ _ upd_same, upd_same, ?_, fun p3 hp3 => ⟨sz_2, fun p4 hp4 => ?_⟩⟩
            · rw [ivs_len, ivs_len, List.length_drop, List.length_take, List.length_drop]
              exact szl (by omega)
            have e5 := Ex.new (o := .lst (ivs ((f.drop (f.idxOf y)).drop ((f.drop (f.idxOf y)).idxOf m)) ++ ivs ((f.drop (f.idxOf y)).take ((f.drop (f.idxOf y)).idxOf m)))) hp3
            have e6 := Ex.new (o := .tup [V.str "ring", V.ref p3]) hp4
            have er : rotL (f.drop (f.idxOf y)) = (f.drop (f.idxOf y)).drop ((f.drop (f.idxOf y)).idxOf m) ++ (f.drop (f.idxOf y)).take ((f.drop (f.idxOf y)).idxOf m) := rot_of hmm hle
            refine q (.ref p4) _ (((((e1.trans e2).trans e3).trans e4).trans e5).trans e6) ?_
            have : wayP tv p t = .ring (rotL (f.drop (f.idxOf y))) := by
              unfold wayP
              rw [hw, hw']
              simp only [hm, if_true]
              rfl
            rw [this, er]
            refine ⟨p4, p3, rfl, upd_same, e6 _ _ ?_⟩
            rw [upd_same, ivs_app]
          · rw [inV_ivs, decide_eq_false hm]
            refine iteF ⟨_, rfl, .inl ⟨rfl, _, SqL.of hfa⟩, _, rfl, fa, _, _, rfl, rfl, hfa, ?_, ⟨e1.mut nfa, n, f ++ [y], some (.int y), rfl, ?_, by simp, ?_, ?_, ?_, ?_⟩, ?_⟩
            · rw [ivs_len]
              exact szlt (by omega)
            · rw [upd_same, ivs_app]
              rfl
            · refine List.nodup_append.mpr ⟨hnd, by simp, ?_⟩
              intro a' ha b hb e
              have : b = y := by simpa using hb
              subst this
              exact hm (e ▸ ha)
            · intro z hz
              rcases List.mem_append.mp hz with h1 | h1
              · exact hsub z h1
              · have : z = y := by simpa using h1
                rw [this]
                exact hyin
            · rw [List.length_append]
              show n + (f.length + 1) = 9
              omega
            · rw [hw, hw']
              simp only [hm, if_false]
            · rw [upd_same, hfa]
              show 20 - (ivs f ++ [V.int y]).length < 20 - (ivs f).length
              rw [List.length_append, ivs_len]
              show 20 - (f.length + 1) < 20 - f.length
              omega
    · obtain ⟨v, hv, i, hi, a1, a2, a3, a4, a5, a6, a7, a8, a9, a10, a11, a12, a13, k2⟩ := k2
      exact ⟨v, hv, i, hi, a1, a2, a3, a4, a5, a6, a7, a8, a9, a10, a11, a12, a13, k1 _ _ k2⟩
theorem cal_way (T : TX K mg) (c_need_table : Cal P w K mg base "need_table" 4 (sp_need_table K)) (c_led : Cal P w K mg base "led" 1 (sp_led K)) (c_is_place : Cal P w K mg base "is_place" 1 (sp_is_place K)) : Cal P w K mg base "way" 5 (sp_way K) := by
  obtain ⟨fd, F⟩ := T.df_way
  have hb : Binds K fd ["table", "place", "target"] [] := F.bindsN fun _ _ _ _ _ _ us hl => match us, hl with | [_, _, _], _ => rfl
  refine Cal.mk2 T.g_way F.kp hb (F.ok (CX := CX0) (k := 4) sc_way (fun vs H Q E h => ?_) (fun cdv A outer s H vs Q E hr h => ?_))
  · obtain ⟨_, _, _, _, rfl, _⟩ := h
    rfl
  · obtain ⟨d, p, t, tv, rfl, ht, ok, hp, htt, q⟩ := h
    refine ⟨_, PSs.nox (pss_cons (ps_expr (pe_cal c_need_table hr (pa_cons (pv 0) pa_nil)))
    (pss_cons (ps_for PassesOwn.never rfl (pi_tup (pe_tup (pa_cons (pv 1) (pa_cons (pv 2) pa_nil)))) (pg_name (i := 3) sc_way.nd rfl (.inl rfl)) (pss_one (ps_if (PW.pt (pw_or (pt_not (pt_val (pe_cal c_is_place (hr.mono (by decide)) (pa_cons (pv 3) pa_nil)))) (pw_or1 (pt_cmp (pc_dnotin (hu_of hr) (pv 3) (pv 0)))))) (pss_one ps_never) pss_nil)))
    (pss_one (ps_ret (pe_cal c_led (hr.mono (by decide)) (pa_cons (pv 0) (pa_cons (pv 1) (pa_cons (pv 2) pa_nil)))))))), ?_⟩
    refine ⟨_, rfl, d, tv, rfl, ht, ok, fun H1 e1 => ?_⟩
    refine ⟨_, rfl, _, rfl, sz_2, fun u hu => ⟨u, rfl, ⟨_, SqT.of upd_same⟩, for_tup (K := K) (xs := ivs [p, t]) (fun i σ H' => Ex (upd H1 u (.tup (ivs [p, t]))) H' ∧ ∃ v3, σ = [some (.ref d), some (.int p), some (.int t), v3]) ⟨Ex.refl _, none, rfl⟩ (fun i σ H' _ hh => SqT.of (hh.1 _ _ upd_same)) ?_ ?_⟩⟩
    · rintro i x σ H' hx ⟨e2, v3, rfl⟩
      obtain ⟨y, hy, rfl⟩ := ivs_get hx
      have hm : y ∈ plcs tv := by
        have := List.mem_of_getElem? hy
        simp only [List.mem_cons, List.not_mem_nil, or_false] at this
        rcases this with h | h <;> rw [h] <;> assumption
      obtain ⟨o, g, ho⟩ := (ht.r.ex ((e1.trans (Ex.new hu)).trans e2)).has y
      refine ⟨_, rfl, y, rfl, ok.byt _ hm, true, rfl, iteF ⟨_, rfl, _, rfl, d, o, rfl, g, !o.isSome, rfl, ?_⟩⟩
      rw [ho, decide_eq_true hm]
      exact iteF ⟨e2, _, rfl⟩
    · rintro σ H' ⟨e2, v3, rfl⟩
      have e3 := (e1.trans (Ex.new hu)).trans e2
      exact ⟨_, rfl, _, rfl, _, rfl, d, p, t, tv, rfl, ht.r.ex e3, ok, hp, htt, fun v H2 e4 hv => q v H2 (e3.trans e4) hv⟩
theorem cal_law_walked (T : TX K mg) : Cal P w K mg base "_law_walked" 1 (sp_law_walked K) := by
  obtain ⟨fd, F⟩ := T.df_law_walked
  have hb : Binds K fd ["_law_table_here", "_law_place", "_law_target"] [] := F.bindsN fun _ _ _ _ _ _ us hl => match us, hl with | [_, _, _], _ => rfl
  refine Cal.mk2 T.g_law_walked F.kp hb (F.ok (CX := CX0) (k := 0) sc_law_walked (fun vs H Q E h => ?_) (fun cdv A outer s H vs Q E hr h => ?_))
  · obtain ⟨_, _, _, _, rfl, _⟩ := h
    rfl
  · obtain ⟨d, p, t, tv, rfl, ht, ok, hp, htt, q⟩ := h
    refine ⟨_, PSs.nox (pss_cons (ps_set (i := 3) sc_law_walked.nd rfl (.inl rfl) (pe_lst (pa_cons (pv 1) pa_nil)))
    (pss_cons (ps_while PassesOwn.never (PW.pt (pw_and (pt_cmpR op_ne (pe_ix ix_list (pv 3) (pe_un un_neg pe_int) (fun _ _ => rfl)) (pv 2) (nomark _)) (pw_and1 (pt_cmp (pc_din (hu_of hr) (pv 2) (pe_dget (hu_of hr) (pv 0) (pe_ix ix_list (pv 3) (pe_un un_neg pe_int) (fun _ _ => rfl)) (fun _ _ => rfl))))))) (pss_cons (ps_set (i := 4) sc_law_walked.nd rfl (.inl rfl) (pe_dget (hu_of hr) (pe_dget (hu_of hr) (pv 0) (pe_ix ix_list (pv 3) (pe_un un_neg pe_int) (fun _ _ => rfl)) (fun _ _ => rfl)) (pv 2) (fun _ _ => rfl)))
    (pss_cons (ps_if (pt_cmpR op_in_seq (pv 4) (pv 3) (by rfl)) (pss_one (ps_ret (pe_tup (pa_cons (pv 3) (pa_cons (pv 4) pa_nil))))) pss_nil)
    (pss_one (ps_expr (pe_bm PySem.F.plainAttrs_list PySem.F.slot_list_append PySem.F.type_list_append mt_append (pv 3) (pa_cons (pv 4) pa_nil)))))))
    (pss_one (ps_ret (pe_tup (pa_cons (pv 3) (pa_cons pe_non pa_nil))))))), ?_⟩
    refine ⟨_, rfl, szl (n := 1) (by decide), fun fa nfa => ?_⟩
    refine while_by (fun σ H' => Ex H H' ∧ ∃ (n : Nat) (f : List Int) (v4 : Option V), σ = [some (.ref d), some (.int p), some (.int t), some (.ref fa), v4] ∧ H' fa = some (.lst (ivs f)) ∧ f ≠ [] ∧ f.Nodup ∧ (∀ x ∈ f, x ∈ plcs tv) ∧ n + f.length = 9 ∧ walkP (fun x => nxt tv x t) t 8 [p] = walkP (fun x => nxt tv x t) t n f)
      (fun _ H' => match H' fa with | some (.lst l) => 20 - l.length | _ => 0) ⟨Ex.new nfa, 8, [p], none, rfl, upd_same, by simp, by simp, by simpa using hp, rfl, rfl⟩ ?_ (fun σ H1 Q1 Q2 k1 k2 => ?_)
    · rintro σ H' ⟨e1, n, f, v4, rfl, hfa, hne, hnd, hsub, hn, hw⟩
      have hlen : f.length ≤ 6 := Nat.le_trans (nodup_sub hnd hsub) (by unfold plcs; rw [List.length_map]; exact ok.le)
      obtain ⟨n, rfl⟩ : ∃ k, n = k + 1 := ⟨n - 1, by omega⟩
      have hx : lastI f ∈ plcs tv := by
        refine hsub _ ?_
        have e0 := List.dropLast_concat_getLast hne
        have e1 : lastI f = f.getLast hne := by
          conv => lhs; rw [← e0]
          exact lastI_snoc _ _
        rw [e1]
        exact List.getLast_mem hne
      have fin : walkP (fun x => nxt tv x t) t 8 [p] = (f, none) → ∀ u, H' u = none → Q (.ref u) (upd H' u (.tup [.ref fa, .non])) := fun hz u hu => by
        refine q u fa _ (e1.trans (Ex.new hu)) ?_ ?_
        · rw [upd_same, hz]
          rfl
        · rw [hz]
          exact Ex.new hu _ _ hfa
      refine ⟨_, rfl, _, rfl, _, _, _, _, rfl, rfl, SqL.of hfa, at_lastI hne, _, rfl, rfl, _, rfl, ?_⟩
      by_cases hl : lastI f = t
      · rw [hl]
        refine iteNS rfl ⟨_, rfl, sz_2, fin ?_⟩
        rw [hw]
        show (if lastI f = t then (f, none) else _) = _
        rw [if_pos hl]
      · have e0 : decide (V.int (lastI f) = V.int t) = false := decide_eq_false fun z => hl (by injection z)
        rw [e0]
        obtain ⟨a, ws, g1, g2, g3, g4⟩ := (ht.ex e1).get hx
        have hw' : walkP (fun x => nxt tv x t) t (n + 1) f = match nxt tv (lastI f) t with
            | none => (f, none)
            | some y => if y ∈ f then (f, some y) else walkP (fun x => nxt tv x t) t n (f ++ [y]) := by
          show (if lastI f = t then (f, none) else _) = _
          rw [if_neg hl]
          all_goals rfl
        refine iteT ⟨_, rfl, _, rfl, _, rfl, _, rfl, _, _, _, _, rfl, rfl, SqL.of hfa, at_lastI hne, d, .ref a, rfl, g1, a, _, rfl, g3 t, _, rfl, ?_⟩
        cases hy : nxt tv (lastI f) t with
        | none =>
          rw [hy] at hw'
          exact iteF ⟨_, rfl, sz_2, fin (hw.trans hw')⟩
        | some y =>
          rw [hy] at hw'
          have hyin := (nxt_in ok hy).2.2.2.1
          have g5 := g3 t
          rw [hy] at g5
          refine iteT ⟨_, rfl, _, rfl, _, rfl, _, _, _, _, rfl, rfl, SqL.of hfa, at_lastI hne, d, .ref a, rfl, g1, _, rfl, a, .int y, rfl, g5, ?_⟩
          refine ⟨_, rfl, _, rfl, fa, ivs f, rfl, .inl (SqL.of hfa), rfl, flat_ivs f, _, rfl, ?_⟩
          show (if inV (V.int y) (ivs f) = true then _ else _)
          by_cases hm : y ∈ f
          · rw [inV_ivs, decide_eq_true hm]
            have hz : walkP (fun x => nxt tv x t) t 8 [p] = (f, some y) := by
              rw [hw, hw']
              simp only [hm, if_true]
            refine iteT ⟨_, rfl, _, rfl, sz_2, fun u hu => ?_⟩
            refine q u fa _ (e1.trans (Ex.new hu)) ?_ ?_
            · rw [upd_same, hz]
              rfl
            · rw [hz]
              exact Ex.new hu _ _ hfa
          · rw [inV_ivs, decide_eq_false hm]
            refine iteF ⟨_, rfl, .inl ⟨rfl, _, SqL.of hfa⟩, _, rfl, fa, _, _, rfl, rfl, hfa, ?_, ⟨e1.mut nfa, n, f ++ [y], some (.int y), rfl, ?_, by simp, ?_, ?_, ?_, ?_⟩, ?_⟩
            · rw [ivs_len]
              exact szlt (by omega)
            · rw [upd_same, ivs_app]
              rfl
            · refine List.nodup_append.mpr ⟨hnd, by simp, ?_⟩
              intro a' ha b hb e
              have : b = y := by simpa using hb
              subst this
              exact hm (e ▸ ha)
            · intro z hz
              rcases List.mem_append.mp hz with h1 | h1
              · exact hsub z h1
              · have : z = y := by simpa using h1
                rw [this]
                exact hyin
            · rw [List.length_append]
              show n + (f.length + 1) = 9
              omega
            · rw [hw, hw']
              simp only [hm, if_false]
            · rw [upd_same, hfa]
              show 20 - (ivs f ++ [V.int y]).length < 20 - (ivs f).length
              rw [List.length_append, ivs_len]
              show 20 - (f.length + 1) < 20 - f.length
              omega
    · obtain ⟨v, hv, i, hi, a1, a2, a3, a4, a5, a6, a7, a8, a9, a10, a11, c, a13, k2⟩ := k2
      refine ⟨v, hv, i, hi, a1, a2, a3, a4, a5, a6, a7, a8, a9, a10, a11, c, a13, ?_⟩
      cases c with
      | false => exact k1 _ _ k2
      | true =>
        obtain ⟨b1, b2, b3, b4, b5, b6, b7, b8, b9, b10, b11, b12, b13, b14, b15, b16, b17, b18, b19, b20, b21, b22, b23, b24, b25, b26, k2⟩ := k2
        exact ⟨b1, b2, b3, b4, b5, b6, b7, b8, b9, b10, b11, b12, b13, b14, b15, b16, b17, b18, b19, b20, b21, b22, b23, b24, b25, b26, k1 _ _ k2⟩
theorem cal_law_way (T : TX K mg) (c_law_walked : Cal P w K mg base "_law_walked" 1 (sp_law_walked K)) : Cal P w K mg base "_law_way" 2 (sp_law_way K) := by
  obtain ⟨fd, F⟩ := T.df_law_way
  have hb : Binds K fd ["_law_table_here", "_law_place", "_law_target"] [] := F.bindsN fun _ _ _ _ _ _ us hl => match us, hl with | [_, _, _], _ => rfl
  refine Cal.mk2 T.g_law_way F.kp hb (F.ok (CX := CX0) (k := 1) sc_law_way (fun vs H Q E h => ?_) (fun cdv A outer s H vs Q E hr h => ?_))
  · obtain ⟨_, _, _, _, rfl, _⟩ := h
    rfl
  · obtain ⟨d, p, t, tv, rfl, ht, ok, hp, htt, q⟩ := h
    refine ⟨_, PSs.nox (pss_cons (ps_asg (pe_cal c_law_walked hr (pa_cons (pv 0) (pa_cons (pv 1) (pa_cons (pv 2) pa_nil)))) (pg_tup rfl (pgs_cons (pg_name (i := 3) sc_law_way.nd rfl (.inl rfl)) (pgs_cons (pg_name (i := 4) sc_law_way.nd rfl (.inl rfl)) pgs_nil))))
    (pss_cons (ps_if (pt_cmpR op_notN (pv 4) pe_non (nomark _)) (pss_cons (ps_set (i := 5) sc_law_way.nd rfl (.inl rfl) (pe_slice sl_list (pv 3) (po_some (pe_bm PySem.F.plainAttrs_list PySem.F.slot_list_index PySem.F.type_list_index mt_index (pv 3) (pa_cons (pv 4) pa_nil))) po_none))
    (pss_cons (ps_set (i := 6) sc_law_way.nd rfl (.inl rfl) (pe_bm PySem.F.plainAttrs_list PySem.F.slot_list_index PySem.F.type_list_index mt_index (pv 5) (pa_cons (pe_callB (cr_min rfl) (by rfl) T.f_min bt_min (pa_cons (pv 5) pa_nil)) pa_nil)))
    (pss_one (ps_ret (pe_tup (pa_cons pe_str (pa_cons (pe_op op_cat (pe_slice sl_list (pv 5) (po_some (pv 6)) po_none) (pe_slice sl_list (pv 5) po_none (po_some (pv 6)))) pa_nil))))))) pss_nil)
    (pss_one (ps_ret (pe_ifExp (pt_cmpR op_eq (pe_ix ix_list (pv 3) (pe_un un_neg pe_int) (fun _ _ => rfl)) (pv 2) (nomark _)) (pv 3) pe_non))))), ?_⟩
    refine ⟨_, rfl, _, rfl, _, rfl, d, p, t, tv, rfl, ht, ok, hp, htt, fun u fa H' e1 hu hfa => ?_⟩
    have sub0 : ∀ (n : Nat) (f : List Int), n + f.length = 9 → f ≠ [] → f.Nodup → (∀ x ∈ f, x ∈ plcs tv) → (walkP (fun x => nxt tv x t) t n f).1 ≠ [] ∧ (walkP (fun x => nxt tv x t) t n f).1.Nodup ∧ (∀ x ∈ (walkP (fun x => nxt tv x t) t n f).1, x ∈ plcs tv) ∧ ∀ y, (walkP (fun x => nxt tv x t) t n f).2 = some y → y ∈ (walkP (fun x => nxt tv x t) t n f).1 := by
      intro n
      induction n with
      | zero => intro f _ h1 h2 h3; exact ⟨h1, h2, h3, fun y hy => nomatch hy⟩
      | succ n ih =>
        intro f h0 h1 h2 h3
        unfold walkP
        split
        · exact ⟨h1, h2, h3, fun y hy => nomatch hy⟩
        · split
          · exact ⟨h1, h2, h3, fun y hy => nomatch hy⟩
          · rename_i y hy
            split
            · rename_i hm
              exact ⟨h1, h2, h3, fun z hz => by cases hz; exact hm⟩
            · rename_i hm
              refine ih (f ++ [y]) (by rw [List.length_append]; show n + (f.length + 1) = 9; omega) (by simp) ?_ ?_
              · refine List.nodup_append.mpr ⟨h2, by simp, ?_⟩
                intro a' ha b hb e
                have : b = y := by simpa using hb
                subst this
                exact hm (e ▸ ha)
              · intro z hz
                rcases List.mem_append.mp hz with k | k
                · exact h3 z k
                · have : z = y := by simpa using k
                  rw [this]
                  exact (nxt_in ok hy).2.2.2.1
    obtain ⟨hne, hnd, hsub, hmem⟩ := sub0 8 [p] rfl (by simp) (by simp) (by simpa using hp)
    have hway : wayP tv p t = wayOf t (walkP (fun x => nxt tv x t) t 8 [p]) := rfl
    generalize walkP (fun x => nxt tv x t) t 8 [p] = r at hu hfa hne hnd hsub hmem hway
    obtain ⟨f, ag⟩ := r
    dsimp only at hu hfa hne hnd hsub hmem hway
    refine ⟨u, _, rfl, SqT.of hu, rfl, _, _, rfl, _, _, rfl, rfl, ?_⟩
    cases ag with
    | none =>
      refine ⟨_, rfl, rfl, _, rfl, iteF ?_⟩
      refine ⟨_, rfl, _, rfl, _, _, _, _, rfl, rfl, SqL.of hfa, at_lastI hne, _, rfl, rfl, _, rfl, ?_⟩
      by_cases hl : lastI f = t
      · have e0 : decide (V.int (lastI f) = V.int t) = true := decide_eq_true (by rw [hl])
        rw [e0]
        refine iteT ⟨_, rfl, q _ H' e1 ?_⟩
        rw [hway]
        unfold wayOf
        simp only [hl, if_true]
        exact ⟨fa, rfl, hfa⟩
      · have e0 : decide (V.int (lastI f) = V.int t) = false := decide_eq_false fun z => hl (by injection z)
        rw [e0]
        refine iteF (q _ H' e1 ?_)
        rw [hway]
        unfold wayOf
        simp only [hl, if_false]
        rfl
    | some y =>
      have hm : y ∈ f := hmem y rfl
      refine ⟨_, rfl, rfl, _, rfl, ?_⟩
      have hy : y ∈ f := hm
      refine iteT ⟨_, rfl, _, rfl, .inl ⟨rfl, _, SqL.of hfa⟩, _, rfl, fa, ivs (f), V.int y, List.idxOf y (f), V.int y, rfl, rfl, SqL.of hfa, rfl, flat_ivs _, ix_get hy, ix_eq _, ix_no hy, _, rfl, fa, _, rfl, SqL.of hfa, fun pa hpa => ?_⟩
      rw [cut_from]
      have hne : 0 < (f.drop (f.idxOf y)).length := by
        have := List.idxOf_lt_length_of_mem hy
        rw [List.length_drop]
        omega
      have e2 := Ex.new (o := .lst (ivs (f.drop (f.idxOf y)))) hpa
      refine ⟨_, rfl, .inl ⟨rfl, _, SqL.of upd_same⟩, _, rfl, pa, f.drop (f.idxOf y), rfl, SqL.of upd_same, hne, fun m hmm hle => ?_⟩
      refine ⟨pa, ivs (f.drop (f.idxOf y)), V.int m, List.idxOf m (f.drop (f.idxOf y)), V.int m, rfl, rfl, SqL.of upd_same, rfl, flat_ivs _, ix_get hmm, ix_eq _, ix_no hmm, _, rfl, _, rfl, _, rfl, pa, _, rfl, SqL.of upd_same, fun p1 hp1 => ?_⟩
      rw [cut_from]
      have e3 := Ex.new (o := .lst (ivs ((f.drop (f.idxOf y)).drop ((f.drop (f.idxOf y)).idxOf m)))) hp1
      refine ⟨_, rfl, _, rfl, _, rfl, pa, _, rfl, SqL.of (e3 _ _ upd_same), fun p2 hp2 => ?_⟩
      rw [cut_to]
      have e4 := Ex.new (o := .lst (ivs ((f.drop (f.idxOf y)).take ((f.drop (f.idxOf y)).idxOf m)))) hp2
      have hlen : f.length ≤ 6 := Nat.le_trans (nodup_sub hnd hsub) (by unfold plcs; rw [List.length_map]; exact ok.le)
      refine ⟨_, _, _, _, rfl, rfl, e4 _ _ upd_same, upd_same, ?_, fun p3 hp3 => ⟨sz_2, fun p4 hp4 => ?_⟩⟩
      · rw [ivs_len, ivs_len, List.length_drop, List.length_take, List.length_drop]
        exact szl (by omega)
      have e5 := Ex.new (o := .lst (ivs ((f.drop (f.idxOf y)).drop ((f.drop (f.idxOf y)).idxOf m)) ++ ivs ((f.drop (f.idxOf y)).take ((f.drop (f.idxOf y)).idxOf m)))) hp3
      have e6 := Ex.new (o := .tup [V.str "ring", V.ref p3]) hp4
      have er : rotL (f.drop (f.idxOf y)) = (f.drop (f.idxOf y)).drop ((f.drop (f.idxOf y)).idxOf m) ++ (f.drop (f.idxOf y)).take ((f.drop (f.idxOf y)).idxOf m) := rot_of hmm hle
      refine q (.ref p4) _ (((((e1.trans e2).trans e3).trans e4).trans e5).trans e6) ?_
      rw [hway]
      show WV _ _ (.ring (rotL (f.drop (f.idxOf y))))
      rw [er]
      refine ⟨p4, p3, rfl, upd_same, e6 _ _ ?_⟩
      rw [upd_same, ivs_app]
end
end K54

set_option Elab.async false
set_option linter.all false
set_option maxRecDepth 100000
set_option maxHeartbeats 4000000
/-! Nets: what stands in the heap; what changes; the promises. -/
namespace K54
open PySem PySem.Spec PyProof.Rows L2 Evl
/-! ### what may change -/
/-- from H to H' only what is in F has changed; what may change behind is in F, or new -/
def Stp (F : Addr → Prop) (H : Hp) (F' : Addr → Prop) (H' : Hp) : Prop := (∀ a o, H a = some o → ¬ F a → H' a = some o) ∧ ∀ a, F' a → F a ∨ H a = none
section
variable {F F1 F2 G : Addr → Prop} {H H1 H2 : Hp}
theorem Stp.refl : Stp F H F H := ⟨fun _ _ h _ => h, fun _ h => .inl h⟩
theorem Stp.of_ex (e : Ex H H1) : Stp F H F H1 := ⟨fun a o h _ => e a o h, fun _ h => .inl h⟩
theorem Stp.trans (a : Stp F H F1 H1) (b : Stp F1 H1 F2 H2) : Stp F H F2 H2 := by
  refine ⟨fun c o h n => ?_, fun c h => ?_⟩
  · refine b.1 c o (a.1 c o h n) fun z => ?_
    rcases a.2 c z with q | q
    · exact n q
    · rw [h] at q; cases q
  · rcases b.2 c h with q | q
    · exact a.2 c q
    · cases e : H c with
      | none => exact .inr rfl
      | some o =>
        refine .inl (Classical.byContradiction fun n => ?_)
        rw [a.1 c o e n] at q
        cases q
theorem Stp.frame (a : Stp F H F1 H1) : Stp (fun x => F x ∨ G x) H (fun x => F1 x ∨ G x) H1 := by
  refine ⟨fun c o h n => a.1 c o h fun z => n (.inl z), fun c h => ?_⟩
  rcases h with h | h
  · rcases a.2 c h with q | q
    · exact .inl (.inl q)
    · exact .inr q
  · exact .inl (.inr h)
theorem Stp.keep (a : Stp F H F1 H1) {c : Addr} {o : HO} (h : H c = some o) (n : ¬ F c) : H1 c = some o := a.1 c o h n
theorem Stp.out (a : Stp F H F1 H1) {c : Addr} {o : HO} (h : H c = some o) (n : ¬ F c) : ¬ F1 c := fun z => by
  rcases a.2 c z with q | q
  · exact n q
  · rw [h] at q; cases q
end
/-! ### things -/
structure Th where
  at_ : Addr
  dx : Addr
  row : Addr
  pl : Addr
  fl : Fl
  years : Int
  places : List Nat
def thF (row pl : Addr) (y : Int) : List (Str × V) := putF "places" (.ref pl) (putF "years" (.int y) (putF "row" (.ref row) []))
def nvs (ps : List Nat) : List V := ps.map fun p => .int ((p : Nat) : Int)
theorem nvs_len (ps : List Nat) : (nvs ps).length = ps.length := by simp [nvs]
structure ThR (K : PySem.W.Frag) (H : Hp) (t : Th) : Prop where
  obj : H t.at_ = some (.ins (He.ga K "Thing") t.dx (thF t.row t.pl t.years))
  row : H t.row = some (.tup (ivs (pkBytes t.fl)))
  pl : H t.pl = some (.tup (nvs t.places))
def nbits (f : Fl) : Nat := 8 * (14 + f.data.length) + 16
structure ThOk (t : Th) : Prop where
  fl : FlOk t.fl
  le : t.places.length ≤ 3
  nd : t.places.Nodup
  lt : ∀ p ∈ t.places, p < nbits t.fl
theorem ThR.ex {K : PySem.W.Frag} {H H' : Hp} {t : Th} (h : ThR K H t) (e : Ex H H') : ThR K H' t := ⟨e _ _ h.obj, e _ _ h.row, e _ _ h.pl⟩
/-! ### nets -/
structure NG where
  p : Addr
  dx : Addr
  W : Addr
  D : Addr
  tv : TV
  oldest : Int
  keys : List (Int × Int)
  L : Int × Int → Addr
  T : Int × Int → List Th
def NG.setT (n : NG) (k : Int × Int) (ts : List Th) : NG := { n with T := fun k' => if k' = k then ts else n.T k' }
def kk (k : Int × Int) : List Key := [Sum.inl k.1, Sum.inl k.2]
theorem kk_inj {a b : Int × Int} (h : kk a = kk b) : a = b := by
  obtain ⟨a1, a2⟩ := a
  obtain ⟨b1, b2⟩ := b
  unfold kk at h
  injection h with h1 h2
  injection h2 with h2 _
  have h1 : a1 = b1 := Sum.inl.inj h1
  have h2 : a2 = b2 := Sum.inl.inj h2
  rw [h1, h2]
theorem kk_tup (k : Int × Int) : (kk k).map kV = [V.int k.1, V.int k.2] := rfl
def netF (W D : Addr) (o : Int) : List (Str × V) := putF "roads" (.ref D) (putF "oldest" (.int o) (putF "code" (.int 69665) (putF "ways" (.ref W) [])))
def tref (ts : List Th) : List V := ts.map fun t => .ref t.at_
theorem tref_len (ts : List Th) : (tref ts).length = ts.length := by simp [tref]
def rK (keys : List (Int × Int)) (L : Int × Int → Addr) : List (List Key × V) := keys.map fun k => (kk k, V.ref (L k))
structure NetR (K : PySem.W.Frag) (H : Hp) (n : NG) : Prop where
  obj : H n.p = some (.ins (He.ga K "Net") n.dx (netF n.W n.D n.oldest))
  ways : TabR H n.W n.tv
  dict : H n.D = some (.dT (rK n.keys n.L))
  lst : ∀ k ∈ n.keys, H (n.L k) = some (.lst (tref (n.T k)))
  th : ∀ k ∈ n.keys, ∀ t ∈ n.T k, ThR K H t
structure NetOk (n : NG) : Prop where
  tv : TvOk n.tv
  old : 0 ≤ n.oldest
  kd : n.keys.Nodup
  kl : n.keys.length ≤ 100
  kin : ∀ k ∈ n.keys, k.1 ∈ plcs n.tv ∧ k.2 ∈ plcs n.tv
  knx : ∀ p t y, nxt n.tv p t = some y → (p, y) ∈ n.keys
  Linj : ∀ k ∈ n.keys, ∀ k' ∈ n.keys, n.L k = n.L k' → k = k'
  tnd : ∀ k ∈ n.keys, ((n.T k).map (·.at_)).Nodup
  tdj : ∀ k ∈ n.keys, ∀ k' ∈ n.keys, ∀ t ∈ n.T k, ∀ t' ∈ n.T k', t.at_ = t'.at_ → k = k'
  tok : ∀ k ∈ n.keys, ∀ t ∈ n.T k, ThOk t
/-- how many things lie there -/
def tot (n : NG) : Nat := (n.keys.map fun k => (n.T k).length).sum
/-- what a net may change -/
def own (n : NG) (a : Addr) : Prop := a = n.D ∨ ∃ k ∈ n.keys, a = n.L k ∨ ∃ t ∈ n.T k, a = t.at_
section
variable {K : PySem.W.Frag} {H H' : Hp} {n : NG}
theorem NetR.ex (h : NetR K H n) (e : Ex H H') : NetR K H' n := ⟨e _ _ h.obj, h.ways.ex e, e _ _ h.dict, fun k hk => e _ _ (h.lst k hk), fun k hk t ht => (h.th k hk t ht).ex e⟩
/-- what a net may change is no tuple, no plain dict, nothing locked -/
theorem NetR.kind (h : NetR K H n) {a : Addr} (o : own n a) : (∃ kvs, H a = some (.dT kvs)) ∨ (∃ xs, H a = some (.lst xs)) ∨ ∃ dx fs, H a = some (.ins (He.ga K "Thing") dx fs) := by
  rcases o with rfl | ⟨k, hk, rfl | ⟨t, ht, rfl⟩⟩
  · exact .inl ⟨_, h.dict⟩
  · exact .inr (.inl ⟨_, h.lst k hk⟩)
  · exact .inr (.inr ⟨_, _, (h.th k hk t ht).obj⟩)
theorem NetR.no_tup (h : NetR K H n) {a : Addr} {xs : List V} (ha : H a = some (.tup xs)) : ¬ own n a := fun o => by
  rcases h.kind o with ⟨_, e⟩ | ⟨_, e⟩ | ⟨_, _, e⟩ <;> rw [ha] at e <;> cases e
theorem NetR.no_dK (h : NetR K H n) {a : Addr} {kvs : List (Key × V)} (ha : H a = some (.dK kvs)) : ¬ own n a := fun o => by
  rcases h.kind o with ⟨_, e⟩ | ⟨_, e⟩ | ⟨_, _, e⟩ <;> rw [ha] at e <;> cases e
theorem NetR.no_frz (h : NetR K H n) {a : Addr} {o : Obj} {u : HO} (ha : H a = some (.frz o u)) : ¬ own n a := fun o' => by
  rcases h.kind o' with ⟨_, e⟩ | ⟨_, e⟩ | ⟨_, _, e⟩ <;> rw [ha] at e <;> cases e
theorem NetR.no_rd (h : NetR K H n) {a : Addr} {kvs : List (Key × V)} (ha : Rd H a (.dK kvs)) : ¬ own n a := by
  rcases ha with ha | ⟨o, ha⟩
  · exact h.no_dK ha
  · exact h.no_frz ha
/-- a table that a net leaves as it is -/
theorem TabR.stp {F1 : Addr → Prop} {d : Addr} {tv : TV} (h : NetR K H n) (ht : TabR H d tv) (s : ∀ a o, H a = some o → ¬ own n a → H' a = some o) : TabR H' d tv := by
  obtain ⟨tb, e, hd, hi⟩ := ht
  have rd : ∀ a (kvs : List (Key × V)), Rd H a (.dK kvs) → Rd H' a (.dK kvs) := fun a kvs r => by
    have no := h.no_rd r
    rcases r with r | ⟨o, r⟩
    · exact .inl (s a _ r no)
    · exact .inr ⟨o, s a _ r no⟩
  exact ⟨tb, e, rd _ _ hd, fun t hm => rd _ _ (hi t hm)⟩
end
/-- behind a packet that is put at a place -/
def PutS (n : NG) (place : Int) (f : Fl) (n' : NG) : Prop :=
  (0 < f.life ∧ ∃ (y : Int) (t : Th), nxt n.tv place f.tgt = some y ∧ t.fl = f ∧ t.years = 0 ∧ t.places = [] ∧ n' = n.setT (place, y) (n.T (place, y) ++ [t])) ∨ ((f.life ≤ 0 ∨ nxt n.tv place f.tgt = none) ∧ n' = n)
def older (t : Th) : Th := { t with years := t.years + 1 }
/-- behind an age -/
structure AgeS (n n' : NG) : Prop where
  p : n'.p = n.p
  dx : n'.dx = n.dx
  W : n'.W = n.W
  D : n'.D = n.D
  tv : n'.tv = n.tv
  oldest : n'.oldest = n.oldest
  keys : n'.keys = n.keys
  T : ∀ k ∈ n.keys, n'.T k = ((n.T k).map older).filter fun t => decide (t.years ≤ n.oldest)
/-! ### the promises -/
def sp_is_number_nets (K : PySem.W.Frag) : Sp := fun vs H Q _ => ∃ i a b : Int, vs = [.int i, .int a, .int b] ∧ a ≤ i ∧ i ≤ b ∧ Q (.bl true) H
def sp_coded_row (K : PySem.W.Frag) : Sp := fun vs H Q _ => ∃ (p : Addr) (xs : List Int), vs = [.ref p, .int 69665] ∧ H p = some (.tup (ivs xs)) ∧ xs.length ≤ 20 ∧ (∀ x ∈ xs, IsB x) ∧ RetT (bvs (codedB (bitsOf xs))) H Q
def sp_Thing_init (K : PySem.W.Frag) : Sp := fun vs H Q _ => ∃ (x dx row pl : Addr) (y : Int), vs = [.ref x, .ref row, .int y, .ref pl] ∧ H x = some (.ins (He.ga K "Thing") dx []) ∧
  ∀ H2, (∀ a o, H a = some o → a ≠ x → H2 a = some o) → H2 x = some (.ins (He.ga K "Thing") dx (thF row pl y)) → Q .non H2
def sp_Thing_row_bits (K : PySem.W.Frag) : Sp := fun vs H Q _ => ∃ t : Th, vs = [.ref t.at_, .int 69665] ∧ ThR K H t ∧ ThOk t ∧ RetT (bvs (bitsT t.fl t.places)) H Q
def sp_Thing_how_many (K : PySem.W.Frag) : Sp := fun vs H Q _ => ∃ t : Th, vs = [.ref t.at_, .int 69665] ∧ ThR K H t ∧ Q (.int ((nbits t.fl : Nat) : Int)) H
def sp_Thing_read_packet (K : PySem.W.Frag) : Sp := fun vs H Q _ => ∃ t : Th, vs = [.ref t.at_, .int 69665] ∧ ThR K H t ∧ ThOk t ∧ (t.places ≠ [] → RetV .non H Q) ∧ (t.places = [] → ∀ x H2, Ex H H2 → H x = none → PkR K H2 x t.fl → Q (.ref x) H2)
def sp_Net_init (K : PySem.W.Frag) : Sp := fun vs H Q _ => ∃ (x dx d : Addr) (o : Int) (tv : TV), vs = [.ref x, .ref d, .int 69665, .int o] ∧ H x = some (.ins (He.ga K "Net") dx []) ∧ TabZ H d tv ∧ TvOk tv ∧ 0 ≤ o ∧
  ∀ H2 n, n.p = x → n.tv = tv → n.oldest = o → (∀ k, n.T k = []) → NetR K H2 n → NetOk n → (∀ a, own n a → H a = none) → TabRA H2 n.W n.tv (fun a => H a ≠ none) → (∀ a u, H a = some u → a ≠ x → H2 a = some u) → Q .non H2
def sp_Net_road (K : PySem.W.Frag) : Sp := fun vs H Q _ => ∃ (n : NG) (k : Int × Int), vs = [.ref n.p, .int k.1, .int k.2] ∧ NetR K H n ∧ NetOk n ∧ k ∈ n.keys ∧ RetV (.ref (n.L k)) H Q
def sp_Net_thing (K : PySem.W.Frag) : Sp := fun vs H Q _ => ∃ (n : NG) (k : Int × Int) (i : Nat) (t : Th), vs = [.ref n.p, .int k.1, .int k.2, .int i] ∧ NetR K H n ∧ NetOk n ∧ k ∈ n.keys ∧ (n.T k)[i]? = some t ∧ (n.T k).length ≤ 1000 ∧ RetV (.ref t.at_) H Q
def sp_Net_put (K : PySem.W.Frag) : Sp := fun vs H Q _ => ∃ (n : NG) (place : Int) (x : Addr) (f : Fl), vs = [.ref n.p, .int place, .ref x] ∧ NetR K H n ∧ NetOk n ∧ place ∈ plcs n.tv ∧ PkR K H x f ∧ FlOk f ∧ tot n ≤ 1000 ∧
  ∀ H2 n', PutS n place f n' → NetR K H2 n' → NetOk n' → Stp (own n) H (own n') H2 → Q .non H2
def sp_Net_bring (K : PySem.W.Frag) : Sp := fun vs H Q _ => ∃ (n : NG) (k : Int × Int) (i : Nat) (t : Th), vs = [.ref n.p, .int k.1, .int k.2, .int i] ∧ NetR K H n ∧ NetOk n ∧ k ∈ n.keys ∧ (n.T k)[i]? = some t ∧ 1 ≤ t.fl.life ∧ tot n ≤ 1000 ∧
  (t.places ≠ [] → ∀ H2 n', n' = n.setT k ((n.T k).eraseIdx i) → NetR K H2 n' → NetOk n' → Stp (own n) H (own n') H2 → Q .non H2) ∧
  (t.places = [] → t.fl.tgt = k.2 → ∀ x H2 n', n' = n.setT k ((n.T k).eraseIdx i) → PkR K H2 x t.fl → H x = none → NetR K H2 n' → NetOk n' → Stp (own n) H (own n') H2 → Q (.ref x) H2) ∧
  (t.places = [] → t.fl.tgt ≠ k.2 → ∀ H2 n', PutS (n.setT k ((n.T k).eraseIdx i)) k.2 { t.fl with life := t.fl.life - 1 } n' → NetR K H2 n' → NetOk n' → Stp (own n) H (own n') H2 → Q .non H2)
def sp_Net_lose (K : PySem.W.Frag) : Sp := fun vs H Q _ => ∃ (n : NG) (k : Int × Int) (i : Nat) (t : Th), vs = [.ref n.p, .int k.1, .int k.2, .int i] ∧ NetR K H n ∧ NetOk n ∧ k ∈ n.keys ∧ (n.T k)[i]? = some t ∧ tot n ≤ 1000 ∧
  ∀ H2 n', n' = n.setT k ((n.T k).eraseIdx i) → NetR K H2 n' → NetOk n' → Stp (own n) H (own n') H2 → Q .non H2
def sp_Net_double (K : PySem.W.Frag) : Sp := fun vs H Q _ => ∃ (n : NG) (k : Int × Int) (i : Nat) (t : Th), vs = [.ref n.p, .int k.1, .int k.2, .int i] ∧ NetR K H n ∧ NetOk n ∧ k ∈ n.keys ∧ (n.T k)[i]? = some t ∧ tot n ≤ 1000 ∧
  ∀ H2 n' t', t'.fl = t.fl → t'.years = t.years → t'.places = t.places → n' = n.setT k (n.T k ++ [t']) → NetR K H2 n' → NetOk n' → Stp (own n) H (own n') H2 → Q .non H2
def sp_Net_turn (K : PySem.W.Frag) : Sp := fun vs H Q _ => ∃ (n : NG) (k : Int × Int) (i : Nat) (t : Th) (l : Addr) (ps : List Nat), vs = [.ref n.p, .int k.1, .int k.2, .int i, .ref l] ∧ NetR K H n ∧ NetOk n ∧ k ∈ n.keys ∧ (n.T k)[i]? = some t ∧ tot n ≤ 1000 ∧
  t.places = [] ∧ H l = some (.lst (nvs ps)) ∧ ps ≠ [] ∧ ps.length ≤ 3 ∧ ps.Nodup ∧ (∀ p ∈ ps, p < nbits t.fl) ∧
  ∀ H2 n' q, n' = n.setT k ((n.T k).set i { t with places := ps, pl := q }) → NetR K H2 n' → NetOk n' → Stp (own n) H (own n') H2 → Q .non H2
def sp_Net_age (K : PySem.W.Frag) : Sp := fun vs H Q _ => ∃ n : NG, vs = [.ref n.p] ∧ NetR K H n ∧ NetOk n ∧ tot n ≤ 1000 ∧ ∀ H2 n', AgeS n n' → NetR K H2 n' → NetOk n' → Stp (own n) H (own n') H2 → Q .non H2
def sp_Net_lying (K : PySem.W.Frag) : Sp := fun vs H Q _ => ∃ n : NG, vs = [.ref n.p] ∧ NetR K H n ∧ NetOk n ∧
  ∀ (l : Addr) (ks : List (Int × Int)) (as : List Addr) H2, Ex H H2 → H l = none → H2 l = some (.lst (as.map V.ref)) → Paired (fun k a => H2 a = some (.tup [.int k.1, .int k.2])) ks as → ks.Nodup → (∀ k, k ∈ ks ↔ k ∈ n.keys ∧ n.T k ≠ []) → Q (.ref l) H2
def sp_Net_things (K : PySem.W.Frag) : Sp := fun vs H Q _ => ∃ (n : NG) (k : Int × Int), vs = [.ref n.p, .int k.1, .int k.2] ∧ NetR K H n ∧ NetOk n ∧ k ∈ n.keys ∧ tot n ≤ 1000 ∧
  ∀ (l : Addr) (as : List Addr) H2, Ex H H2 → H l = none → H2 l = some (.lst (as.map V.ref)) → Paired (fun t a => ∃ b, H2 a = some (.tup [.int t.years, .ref b]) ∧ H2 b = some (.tup (bvs (bitsT t.fl t.places)))) (n.T k) as → Q (.ref l) H2
end K54

set_option Elab.async false
set_option linter.all false
set_option maxRecDepth 100000
set_option maxHeartbeats 4000000
/-! Nets: what stays true behind each change. -/
namespace K54
open PySem PySem.Spec PyProof.Rows L2 Evl
theorem nSt {a b : String} (h : ¬ Str.ofString a = Str.ofString b := by decide +kernel) : ¬ Str.ofString a = Str.ofString b := h
/-! ### fields -/
section
variable {row pl W D : Addr} {y o : Int}
theorem thl_places : (thF row pl y).lookup ("places" : Str) = some (V.ref pl) := lk_same
theorem thl_years : (thF row pl y).lookup ("years" : Str) = some (V.int y) := lk_ne nSt lk_same
theorem thl_row : (thF row pl y).lookup ("row" : Str) = some (V.ref row) := lk_ne nSt (lk_ne nSt lk_same)
theorem thl_m {m : Str} (h1 : ¬ m = "places") (h2 : ¬ m = "years") (h3 : ¬ m = "row") : (thF row pl y).lookup m = none := lk_ne h1 (lk_ne h2 (lk_ne h3 rfl))
theorem thF_eq : thF row pl y = ([("row", V.ref row), ("years", V.int y), ("places", V.ref pl)] : List (Str × V)) := by
  unfold thF
  simp only [putF]
  rw [if_neg nSt]
  simp only [putF]
  rw [if_neg nSt, if_neg nSt]
theorem thF_years (y' : Int) : putF "years" (.int y') (thF row pl y) = thF row pl y' := by
  rw [thF_eq, thF_eq]
  show (if ("row" : Str) = "years" then _ else (("row" : Str), V.ref row) :: (if ("years" : Str) = "years" then _ else _)) = _
  rw [if_neg nSt, if_pos rfl]
theorem thF_places (pl' : Addr) : putF "places" (.ref pl') (thF row pl y) = thF row pl' y := by
  rw [thF_eq, thF_eq]
  show (if ("row" : Str) = "places" then _ else (("row" : Str), V.ref row) :: (if ("years" : Str) = "places" then _ else (("years" : Str), V.int y) :: (if ("places" : Str) = "places" then _ else _))) = _
  rw [if_neg nSt, if_neg nSt, if_pos rfl]
theorem thF_len : (thF row pl y).length < 1000 := by rw [thF_eq]; show 3 < 1000; decide
theorem ntl_roads : (netF W D o).lookup ("roads" : Str) = some (V.ref D) := lk_same
theorem ntl_oldest : (netF W D o).lookup ("oldest" : Str) = some (V.int o) := lk_ne nSt lk_same
theorem ntl_code : (netF W D o).lookup ("code" : Str) = some (V.int 69665) := lk_ne nSt (lk_ne nSt lk_same)
theorem ntl_ways : (netF W D o).lookup ("ways" : Str) = some (V.ref W) := lk_ne nSt (lk_ne nSt (lk_ne nSt lk_same))
theorem ntl_m {m : Str} (h1 : ¬ m = "roads") (h2 : ¬ m = "oldest") (h3 : ¬ m = "code") (h4 : ¬ m = "ways") : (netF W D o).lookup m = none := lk_ne h1 (lk_ne h2 (lk_ne h3 (lk_ne h4 rfl)))
end
/-! ### the roads' dict -/
theorem valV_rK (L : Int × Int → Addr) (k : Int × Int) : ∀ keys : List (Int × Int), valV (rK keys L) (kk k) = if k ∈ keys then some (V.ref (L k)) else none
  | [] => rfl
  | a :: r => by
    show valV ((kk a, V.ref (L a)) :: rK r L) (kk k) = _
    by_cases h : a = k
    · subst h
      rw [valV_pos rfl, if_pos (List.mem_cons_self ..)]
    · rw [valV_neg (fun z => h (kk_inj z)), valV_rK L k r]
      by_cases hk : k ∈ r
      · rw [if_pos hk, if_pos (List.mem_cons_of_mem _ hk)]
      · rw [if_neg hk, if_neg]
        intro hm
        rcases List.mem_cons.mp hm with q | q
        · exact h q.symm
        · exact hk q
def updL (L : Int × Int → Addr) (k : Int × Int) (a : Addr) : Int × Int → Addr := fun k' => if k' = k then a else L k'
theorem rK_len (keys : List (Int × Int)) (L : Int × Int → Addr) : (rK keys L).length = keys.length := by simp [rK]
theorem putK_in {keys : List (Int × Int)} {L : Int × Int → Addr} {k : Int × Int} {a : Addr} (h : k ∈ keys) : putK (rK keys L) (kk k) (.ref a) = rK keys (updL L k a) := by
  unfold putK
  rw [valV_any, valV_rK, if_pos h]
  simp only [Option.isSome_some, if_true]
  unfold rK
  rw [List.map_map]
  apply List.map_congr_left
  intro x hx
  show (if (kk x, V.ref (L x)).1 = kk k then ((kk x, V.ref (L x)).1, V.ref a) else (kk x, V.ref (L x))) = (kk x, V.ref (updL L k a x))
  unfold updL
  by_cases e : x = k
  · subst e
    rw [if_pos rfl, if_pos rfl]
  · rw [if_neg (fun z => e (kk_inj z)), if_neg e]
theorem putK_out {keys : List (Int × Int)} {L : Int × Int → Addr} {k : Int × Int} {a : Addr} (h : ¬ k ∈ keys) : putK (rK keys L) (kk k) (.ref a) = rK (keys ++ [k]) (updL L k a) := by
  rw [putK_new _ (by rw [valV_rK, if_neg h])]
  unfold rK
  rw [List.map_append]
  congr 1
  · apply List.map_congr_left
    intro x hx
    have e : x ≠ k := fun e => h (e ▸ hx)
    show _ = (kk x, V.ref (if x = k then a else L x))
    rw [if_neg e]
  · show [(kk k, V.ref a)] = [(kk k, V.ref (if k = k then a else L k))]
    rw [if_pos rfl]
/-! ### how many -/
theorem sum_upd {keys : List (Int × Int)} (hn : keys.Nodup) {k : Int × Int} (hk : k ∈ keys) (T : Int × Int → List Th) (ts : List Th) :
    (keys.map fun x => (if x = k then ts else T x).length).sum + (T k).length = (keys.map fun x => (T x).length).sum + ts.length := by
  induction keys with
  | nil => cases hk
  | cons a r ih =>
    obtain ⟨h1, h2⟩ := List.nodup_cons.mp hn
    rw [List.map_cons, List.map_cons, List.sum_cons, List.sum_cons]
    by_cases e : a = k
    · subst e
      have : (r.map fun x => (if x = a then ts else T x).length) = r.map fun x => (T x).length := by
        apply List.map_congr_left
        intro x hx
        have : x ≠ a := fun e => h1 (e ▸ hx)
        rw [if_neg this]
      rw [if_pos rfl, this]
      omega
    · rcases List.mem_cons.mp hk with q | q
      · exact absurd q.symm e
      · have := ih h2 q
        rw [if_neg e]
        omega
theorem tot_set {n : NG} (hn : n.keys.Nodup) {k : Int × Int} (hk : k ∈ n.keys) (ts : List Th) : tot (n.setT k ts) + (n.T k).length = tot n + ts.length := sum_upd hn hk n.T ts
theorem len_tot {n : NG} (hn : n.keys.Nodup) {k : Int × Int} (hk : k ∈ n.keys) : (n.T k).length ≤ tot n := by
  have := tot_set hn hk []
  rw [List.length_nil] at this
  omega
theorem setT_T {n : NG} {k k' : Int × Int} {ts : List Th} : (n.setT k ts).T k' = if k' = k then ts else n.T k' := rfl
theorem setT_same {n : NG} {k : Int × Int} {ts : List Th} : (n.setT k ts).T k = ts := if_pos rfl
theorem setT_ne {n : NG} {k k' : Int × Int} {ts : List Th} (h : k' ≠ k) : (n.setT k ts).T k' = n.T k' := if_neg h
theorem setT_setT {n : NG} {k : Int × Int} {ts us : List Th} : (n.setT k ts).setT k us = n.setT k us := by
  unfold NG.setT
  congr 1
  funext k'
  show (if k' = k then us else if k' = k then ts else n.T k') = _
  split <;> rfl
/-! ### NetOk behind a change of one road -/
theorem NetOk.set {n : NG} (h : NetOk n) {k : Int × Int} (hk : k ∈ n.keys) {ts : List Th} (h1 : (ts.map (·.at_)).Nodup) (h2 : ∀ t ∈ ts, ∀ k' ∈ n.keys, k' ≠ k → ∀ t' ∈ n.T k', t.at_ ≠ t'.at_) (h3 : ∀ t ∈ ts, ThOk t) : NetOk (n.setT k ts) where
  tv := h.tv
  old := h.old
  kd := h.kd
  kl := h.kl
  kin := h.kin
  knx := h.knx
  Linj := h.Linj
  tnd := fun k' hk' => by
    by_cases e : k' = k
    · rw [e, setT_same]; exact h1
    · rw [setT_ne e]; exact h.tnd k' hk'
  tdj := fun k' hk' k'' hk'' t ht t' ht' e => by
    by_cases e1 : k' = k
    · by_cases e2 : k'' = k
      · rw [e1, e2]
      · rw [e1, setT_same] at ht
        rw [setT_ne e2] at ht'
        exact absurd e (h2 t ht k'' hk'' e2 t' ht')
    · by_cases e2 : k'' = k
      · rw [e2, setT_same] at ht'
        rw [setT_ne e1] at ht
        exact absurd e.symm (h2 t' ht' k' hk' e1 t ht)
      · rw [setT_ne e1] at ht
        rw [setT_ne e2] at ht'
        exact h.tdj k' hk' k'' hk'' t ht t' ht' e
  tok := fun k' hk' t ht => by
    by_cases e : k' = k
    · rw [e, setT_same] at ht; exact h3 t ht
    · rw [setT_ne e] at ht; exact h.tok k' hk' t ht
theorem NetOk.erase {n : NG} (h : NetOk n) {k : Int × Int} (hk : k ∈ n.keys) (i : Nat) : NetOk (n.setT k ((n.T k).eraseIdx i)) := by
  have hs := List.eraseIdx_sublist (n.T k) i
  refine h.set hk ((hs.map _).nodup (h.tnd k hk)) (fun t ht k' hk' ne t' ht' e => ?_) fun t ht => h.tok k hk t (hs.subset ht)
  exact ne (h.tdj k' hk' k hk t' ht' t (hs.subset ht) e.symm)
theorem NetOk.app {n : NG} (h : NetOk n) {k : Int × Int} (hk : k ∈ n.keys) {t : Th} (hf : ¬ own n t.at_) (ho : ThOk t) : NetOk (n.setT k (n.T k ++ [t])) := by
  have no : ∀ k' ∈ n.keys, ∀ t' ∈ n.T k', t.at_ ≠ t'.at_ := fun k' hk' t' ht' e => hf (.inr ⟨k', hk', .inr ⟨t', ht', e⟩⟩)
  refine h.set hk ?_ (fun u hu k' hk' ne t' ht' e => ?_) fun u hu => ?_
  · rw [List.map_append]
    refine List.nodup_append.mpr ⟨h.tnd k hk, by simp, fun a ha b hb e => ?_⟩
    obtain ⟨u, hu, rfl⟩ := List.mem_map.mp ha
    have : b = t.at_ := by simpa using hb
    rw [this] at e
    exact no k hk u hu e.symm
  · rcases List.mem_append.mp hu with q | q
    · exact ne (h.tdj k' hk' k hk t' ht' u q e.symm)
    · have : u = t := by simpa using q
      rw [this] at e
      exact no k' hk' t' ht' e
  · rcases List.mem_append.mp hu with q | q
    · exact h.tok k hk u q
    · have : u = t := by simpa using q
      rw [this]
      exact ho
theorem NetOk.turned {n : NG} (h : NetOk n) {k : Int × Int} (hk : k ∈ n.keys) {i : Nat} {t u : Th} (hi : (n.T k)[i]? = some t) (e : u.at_ = t.at_) (ho : ThOk u) : NetOk (n.setT k ((n.T k).set i u)) := by
  have em : ((n.T k).set i u).map (·.at_) = (n.T k).map (·.at_) := by
    rw [List.map_set, e]
    apply List.ext_getElem?
    intro j
    by_cases hj : j = i
    · subst hj
      rw [List.getElem?_set_self (by rw [List.length_map]; exact (List.getElem?_eq_some_iff.mp hi).1), List.getElem?_map, hi]
      rfl
    · rw [List.getElem?_set_ne (Ne.symm hj)]
  have ht := List.mem_of_getElem? hi
  refine h.set hk (by rw [em]; exact h.tnd k hk) (fun x hx k' hk' ne t' ht' q => ?_) fun x hx => ?_
  · rcases List.mem_or_eq_of_mem_set hx with z | z
    · exact ne (h.tdj k' hk' k hk t' ht' x z q.symm)
    · rw [z, e] at q
      exact ne (h.tdj k' hk' k hk t' ht' t ht q.symm)
  · rcases List.mem_or_eq_of_mem_set hx with z | z
    · exact h.tok k hk x z
    · rw [z]; exact ho
/-! ### NetR behind a change of one road's list -/
section
variable {K : PySem.W.Frag} {H : Hp} {n : NG}
theorem NetR.set (h : NetR K H n) (ok : NetOk n) {k : Int × Int} (hk : k ∈ n.keys) {ts : List Th} (ht : ∀ t ∈ ts, ThR K H t) : NetR K (upd H (n.L k) (.lst (tref ts))) (n.setT k ts) := by
  have hl := h.lst k hk
  have th' : ∀ t, ThR K H t → ThR K (upd H (n.L k) (.lst (tref ts))) t := fun t r =>
    ⟨by rw [upd_ne (ne_of r.obj hl (fun z => nomatch z))]; exact r.obj, by rw [upd_ne (ne_of r.row hl (fun z => nomatch z))]; exact r.row, by rw [upd_ne (ne_of r.pl hl (fun z => nomatch z))]; exact r.pl⟩
  refine ⟨by rw [show (n.setT k ts).p = n.p from rfl, upd_ne (ne_of h.obj hl (fun z => nomatch z))]; exact h.obj, ?_, by rw [show (n.setT k ts).D = n.D from rfl, upd_ne (ne_of h.dict hl (fun z => nomatch z))]; exact h.dict, fun k' hk' => ?_, fun k' hk' t hm => ?_⟩
  · refine TabR.stp (F1 := own n) h h.ways fun a o ha no => ?_
    rw [upd_ne (fun e => no (.inr ⟨k, hk, .inl e⟩))]
    exact ha
  · by_cases e : k' = k
    · rw [e, setT_same]
      exact upd_same
    · rw [setT_ne e]
      show upd H (n.L k) _ (n.L k') = _
      rw [upd_ne (fun q => e (ok.Linj k' hk' k hk q))]
      exact h.lst k' hk'
  · by_cases e : k' = k
    · rw [e, setT_same] at hm
      exact th' t (ht t hm)
    · rw [setT_ne e] at hm
      exact th' t (h.th k' hk' t hm)
theorem own_set {k : Int × Int} (hk : k ∈ n.keys) {ts : List Th} {a : Addr} (h : own (n.setT k ts) a) : own n a ∨ ∃ t ∈ ts, a = t.at_ := by
  rcases h with e | ⟨k', hk', e | ⟨t, ht, e⟩⟩
  · exact .inl (.inl e)
  · exact .inl (.inr ⟨k', hk', .inl e⟩)
  · by_cases q : k' = k
    · rw [q, setT_same] at ht
      exact .inr ⟨t, ht, e⟩
    · rw [setT_ne q] at ht
      exact .inl (.inr ⟨k', hk', .inr ⟨t, ht, e⟩⟩)
/-- the heap grows from H to H1, then the list of one road changes -/
theorem stp_set {H1 : Hp} (e : Ex H H1) {k : Int × Int} (hk : k ∈ n.keys) {ts : List Th} {o : HO} (ht : ∀ t ∈ ts, own n t.at_ ∨ H t.at_ = none) : Stp (own n) H (own (n.setT k ts)) (upd H1 (n.L k) o) := by
  refine ⟨fun a u ha no => ?_, fun a ha => ?_⟩
  · rw [upd_ne (fun z => no (.inr ⟨k, hk, .inl z⟩))]
    exact e a u ha
  · rcases own_set hk ha with q | ⟨t, hm, rfl⟩
    · exact .inl q
    · exact ht t hm
/-- a thing's places change -/
theorem NetR.turned (h : NetR K H n) (ok : NetOk n) {k : Int × Int} (hk : k ∈ n.keys) {i : Nat} {t u : Th} (hi : (n.T k)[i]? = some t) (e1 : u.at_ = t.at_) (e2 : u.dx = t.dx) (hr : H u.row = some (.tup (ivs (pkBytes u.fl)))) (hp : H u.pl = some (.tup (nvs u.places))) :
    NetR K (upd H t.at_ (.ins (He.ga K "Thing") t.dx (thF u.row u.pl u.years))) (n.setT k ((n.T k).set i u)) := by
  have hm := List.mem_of_getElem? hi
  have ho := (h.th k hk t hm).obj
  have tr : tref ((n.T k).set i u) = tref (n.T k) := by
    unfold tref
    rw [List.map_set]
    apply List.ext_getElem?
    intro j
    by_cases hj : j = i
    · subst hj
      rw [List.getElem?_set_self (by rw [List.length_map]; exact (List.getElem?_eq_some_iff.mp hi).1), List.getElem?_map, hi, e1]
      rfl
    · rw [List.getElem?_set_ne (Ne.symm hj)]
  have th' : ∀ x, ThR K H x → x.at_ ≠ t.at_ → ThR K (upd H t.at_ (.ins (He.ga K "Thing") t.dx (thF u.row u.pl u.years))) x := fun x r ne =>
    ⟨by rw [upd_ne ne]; exact r.obj, by rw [upd_ne (ne_of r.row ho (fun z => nomatch z))]; exact r.row, by rw [upd_ne (ne_of r.pl ho (fun z => nomatch z))]; exact r.pl⟩
  have np : n.p ≠ t.at_ := fun q => by
    have z := h.obj
    rw [q, ho] at z
    injection z with z
    injection z with z1 z2 z3
    have a1 := ntl_roads (W := n.W) (D := n.D) (o := n.oldest)
    rw [← z3, thl_m nSt nSt nSt] at a1
    cases a1
  refine ⟨?_, ?_, by rw [show (n.setT k ((n.T k).set i u)).D = n.D from rfl, upd_ne (ne_of h.dict ho (fun z => nomatch z))]; exact h.dict, fun k' hk' => ?_, fun k' hk' x hx => ?_⟩
  · show upd H t.at_ _ n.p = _
    rw [upd_ne np]
    exact h.obj
  · refine TabR.stp (F1 := own n) h h.ways fun a o ha no => ?_
    rw [upd_ne (fun e => no (.inr ⟨k, hk, .inr ⟨t, hm, e⟩⟩))]
    exact ha
  · show upd H t.at_ _ (n.L k') = _
    rw [upd_ne (ne_of (h.lst k' hk') ho (fun z => nomatch z))]
    by_cases e : k' = k
    · rw [e, setT_same, tr]
      exact h.lst k hk
    · rw [setT_ne e]
      exact h.lst k' hk'
  · by_cases e : k' = k
    · rw [e, setT_same] at hx
      obtain ⟨j, hj⟩ := List.getElem?_of_mem hx
      by_cases ji : j = i
      · subst ji
        rw [List.getElem?_set_self (List.getElem?_eq_some_iff.mp hi).1] at hj
        have q : x = u := (Option.some.inj hj).symm
        rw [q]
        exact ⟨by rw [e1, upd_same, e2], by rw [upd_ne (ne_of hr ho (fun z => nomatch z))]; exact hr, by rw [upd_ne (ne_of hp ho (fun z => nomatch z))]; exact hp⟩
      · rw [List.getElem?_set_ne (Ne.symm ji)] at hj
        refine th' x (h.th k hk x (List.mem_of_getElem? hj)) fun q => ji ?_
        have a1 : ((n.T k).map (·.at_))[j]? = some x.at_ := by rw [List.getElem?_map, hj]; rfl
        have a2 : ((n.T k).map (·.at_))[i]? = some x.at_ := by rw [List.getElem?_map, hi, q]; rfl
        exact nd_ix (ok.tnd k hk) a1 a2
    · rw [setT_ne e] at hx
      refine th' x (h.th k' hk' x hx) fun q => e (ok.tdj k' hk' k hk x hx t hm q)
end
end K54

set_option Elab.async false
set_option linter.all false
set_option maxRecDepth 100000
set_option maxHeartbeats 4000000
/-! xs.extend(t), t a tuple. -/
namespace PySem
open AutoSeq1
set_option maxRecDepth 8000 in
theorem k54_extend_tup (l : Addr) (items : Array Value) (n : Nat) (b : Addr) (items2 : Array Value) (n2 : Nat) (dd2 : Option Addr) (sl2 : Array (Option Value)) (hs0 : ¬(!items.isEmpty && Builtin.List.listTooLong (items.size + items2.size)) = true) (hs1 : items.size ≤ sizeLine) (hs2 : items.size + items2.size ≤ sizeLine + 1) :
    Meets (Builtin.«list.extend» ⟨[.ref l, .ref b], []⟩) (fun _ R s => s.heap.get? l = some { cls := .type "list", dict := none, data := .seq items n, slots := #[] } ∧ s.heap.get? b = some { cls := .type "tuple", dict := dd2, data := .seq items2 n2, slots := sl2 } ∧ R (.ok (.ret Value.none)) { s with heap := s.heap.update l (Obj.mapSeq fun x => x ++ items2), toks := s.toks }) :=
  .of_wp fun prog w A R s h => by
    obtain ⟨hp, g, d, tk, os⟩ := s; obtain ⟨hl, hb, h⟩ := h; have f1 := idx_int; have f2 := sub_tuple_tuple; have f3 := sub_list_list; have f4 := sub_tuple_list; have f5 := sub_list_tuple;
    have hz' : (items ++ items2).size ≤ sizeLine + 1 := by rw [Array.size_append]; exact hs2
    wp_walk using (wpAny_updateSeq hl rfl (hz := hs1) (_hz' := hz')), wpAny_loadPart' hl, wpAny_loadPart' hb; exact ⟨_, rfl, h⟩
end PySem
namespace K54
open PySem PySem.Spec PyProof.Rows L2 Evl
section
variable {X : Cx} {P : Program} {w : World} {K : PySem.W.Frag} {mg : Str → Option Value} {base : Heap} {C m : Str} {k : Nat} {sp : Sp} {pos apos : Pos} {e o : Expr} {es : List Expr} {ta : TE} {t : TA}
/-- a method called within a comprehension: the answer names no part of the inner frame -/
theorem pe_calMc {pl : Sem Bool} (c : MCal P w K mg base C m k sp) (hr : Room k X.A) (ho : PE X o ta) (ha : PA X (e :: es) t)
    (h1 : X.prog = P := by rfl) (h2 : X.w = w := by rfl) (h3 : X.K = K := by rfl) (h4 : X.mg = mg := by rfl) (h5 : X.base = base := by rfl)
    (hst : starEach (e :: es) X.env = (false, eval e X.env) :: starEach es X.env := by rfl) (hpl : (backTo pos (starEach es X.env)).any (·.1) = false := by rfl)
    (ht : eval (.Call (.Attribute o m apos) (e :: es) [] pos) X.env = (do
      let ov ← eval o X.env
      standAt apos.atName
      let (f, first) ← holding [ov] (getMethod ov m pl)
      callWith pos f first (backTo pos (starEach (e :: es) X.env)) (backToKw pos (keywordEach [] X.env))) := by rfl) :
    PE X (.Call (.Attribute o m apos) (e :: es) [] pos) (tMeth (He.ga K C) m sp [] E0 ta t) := by
  subst h1 h2 h3 h4 h5
  exact pe_calM c hr ho ha hst hpl ht
theorem pe_fldc {f : Str} (he : PE X e ta) (hb : attributeBase e f X.env (eval e X.env) = eval e X.env) (K : PySem.W.Frag) (h3 : X.K = K := by rfl) : PE X (.Attribute e f pos) (tFld K ta f) := by
  subst h3
  exact pe_fld he hb
theorem op_neNilc (K : PySem.W.Frag) (hu : X.A.units < cLine) (h3 : X.K = K := by rfl) : OpR X (compareOp .NotEq) (rNeNil K) := by
  subst h3
  exact op_neNil hu
theorem pg_tupc {es : List Expr} {k : Nat} {t : TGs} {n : Nat} (K : PySem.W.Frag) (hc : X.calm = true) (h : PGs X es t)
    (hn : (assignEach es X.env).length = n := by rfl) (hst : (assignEach es X.env).findIdx? (·.1) = none := by rfl) (h3 : X.K = K := by rfl) : PG X (.Tuple es k pos) (gTup K n t) := by
  subst h3
  exact pg_tup hc h hn hst
theorem ix_tupc (K : PySem.W.Frag) (h3 : X.K = K := by rfl) : IxR X (rIxT K) := by
  subst h3
  exact ix_tup
theorem pe_calMc0 {pl : Sem Bool} (c : MCal P w K mg base C m k sp) (hr : Room k X.A) (ho : PE X o ta)
    (h1 : X.prog = P := by rfl) (h2 : X.w = w := by rfl) (h3 : X.K = K := by rfl) (h4 : X.mg = mg := by rfl) (h5 : X.base = base := by rfl)
    (ht : eval (.Call (.Attribute o m apos) [] [] pos) X.env = (do
      let ov ← eval o X.env
      standAt apos.atName
      let (f, first) ← holding [ov] (getMethod ov m pl)
      callWith pos f first (backTo pos (starEach [] X.env)) (backToKw pos (keywordEach [] X.env))) := by rfl) :
    PE X (.Call (.Attribute o m apos) [] [] pos) (tMeth (He.ga K C) m sp [] E0 ta tNil) := by
  subst h1 h2 h3 h4 h5
  exact pe_calM0 c hr ho ht
theorem pe_calNc (c : NCal P w K mg base C k sp) (hr : Room (k + 1) X.A) (ha : PA X (e :: es) t)
    (h1 : X.prog = P := by rfl) (h2 : X.w = w := by rfl) (h3 : X.K = K := by rfl) (h4 : X.mg = mg := by rfl) (h5 : X.base = base := by rfl) (hg : Gl X C := by rfl) (hdb : (C == ("__debug__" : Str)) = false := by decide)
    {p : Pos} (he : starEach (e :: es) X.env = (false, eval e X.env) :: starEach es X.env := by rfl) (hpl : (backTo pos (starEach es X.env)).any (·.1) = false := by rfl) :
    PE X (.Call (.Name C p) (e :: es) [] pos) (tMake (He.ga K C) sp [] E0 t) := by
  subst h1 h2 h3 h4 h5
  exact pe_calN c hr ha hg hdb he hpl
end
def rExtT (K : PySem.W.Frag) : V → List V → Hp → VK → Prop := fun x vs H Q => ∃ l b xs zs, x = .ref l ∧ vs = [.ref b] ∧ H l = some (.lst xs) ∧ H b = some (.tup zs) ∧ xs.length + zs.length ≤ sizeLine ∧ Q .non (upd H l (.lst (xs ++ zs)))
theorem mt_extT {X : Cx} : MtM X "list.extend" (rExtT X.K) := by
  intro pins s σ H x vs v us Q I rx rv h
  obtain ⟨l, b, xs, zs, rfl, rfl, hH, hB, hz, q⟩ := h
  cases rx
  obtain ⟨u, rfl, ru⟩ := rv.one
  cases ru
  obtain ⟨z, its, n, r, hl, e⟩ := I.lstM hH
  obtain ⟨z2, its2, r2, p2⟩ := I.hok b _ hB
  obtain ⟨⟨cls2, dd2, data2, sl2⟩, e2, hc2, n2, hd2⟩ := id p2
  simp only at hc2 hd2
  subst hc2 hd2
  have hl2 := r2.length
  have hsz : its.toArray.size + its2.toArray.size ≤ sizeLine := by rw [List.size_toArray, List.size_toArray]; omega
  have hlong : ¬ (!its.toArray.isEmpty && Builtin.List.listTooLong (its.toArray.size + its2.toArray.size)) = true := by
    rw [notLongL hsz, Bool.and_false]
    exact Bool.false_ne_true
  refine call_meets F.slot_list_extend ⟨_, e, rfl⟩ F.entry_list_extend (F.args_list_extend_2 _ _)
    (k54_extend_tup l its.toArray n b its2.toArray n2 dd2 sl2 hlong (by rw [List.size_toArray]; omega) (by omega)) ⟨e, e2, ?_⟩
  refine ⟨.non, _, I.lset (its' := its ++ its2) hH e (by simp) (r.append r2) ?_, rfl, q⟩
  rw [List.length_append]
  omega
end K54

set_option Elab.async false
set_option linter.all false
set_option maxRecDepth 100000
set_option maxHeartbeats 4000000
/-! Data as a whole, for == and in. -/
namespace K54
open PySem PySem.Spec PyProof.Rows L2 Evl
/-- laid, and no deeper than n -/
def Gd (n : Nat) (d : PyData) : Prop := d.canLay0 = true ∧ d.depth ≤ n
theorem lay_all : ∀ {ds : List PyData}, (∀ d ∈ ds, d.canLay0 = true) → PyData.canLayAll0 ds = true
  | [], _ => by simp [PyData.canLayAll0]
  | d :: ds, h => by simp [PyData.canLayAll0, h d (List.mem_cons_self ..), lay_all fun x hx => h x (List.mem_cons_of_mem _ hx)]
theorem depth_all {n : Nat} : ∀ {ds : List PyData}, (∀ d ∈ ds, d.depth ≤ n) → PyData.depthAll ds ≤ n
  | [], _ => by simp [PyData.depthAll]
  | d :: ds, h => by
    have h1 := h d (List.mem_cons_self ..)
    have h2 := depth_all (ds := ds) fun x hx => h x (List.mem_cons_of_mem _ hx)
    simp only [PyData.depthAll]
    omega
theorem gd_int (n : Nat) (i : Int) : Gd n (.int i) := ⟨by simp [PyData.canLay0], by simp [PyData.depth]⟩
theorem gd_bool (n : Nat) (i : Bool) : Gd n (.bool i) := ⟨by simp [PyData.canLay0], by simp [PyData.depth]⟩
theorem gd_non (n : Nat) : Gd n .none := ⟨by simp [PyData.canLay0], by simp [PyData.depth]⟩
theorem gd_str (n : Nat) {x : Str} (h : PyData.strOk x = true) : Gd n (.str x) := ⟨by simp [PyData.canLay0, h], by simp [PyData.depth]⟩
theorem gd_tup {n : Nat} {ds : List PyData} (h : ∀ d ∈ ds, Gd n d) : Gd (n + 1) (.tuple ds) :=
  ⟨by simp only [PyData.canLay0]; exact lay_all fun d hd => (h d hd).1, by have := depth_all fun d hd => (h d hd).2; simp only [PyData.depth]; omega⟩
theorem gd_lst {n : Nat} {ds : List PyData} (h : ∀ d ∈ ds, Gd n d) : Gd (n + 1) (.list ds) :=
  ⟨by simp only [PyData.canLay0]; exact lay_all fun d hd => (h d hd).1, by have := depth_all fun d hd => (h d hd).2; simp only [PyData.depth]; omega⟩
theorem Gd.shaped {n : Nat} {d : PyData} (h : Gd n d) (hn : n ≤ 64 := by decide) : SeqAt.shaped d = true := by
  show (d.canLay0 && decide (d.depth ≤ 64)) = true
  rw [h.1, decide_eq_true (Nat.le_trans h.2 hn)]
  rfl
theorem Gd.refl {n : Nat} {d : PyData} (h : Gd n d) : PyData.eqv d d = true := SeqAt.eqv_refl d h.1
/-! ints -/
def iD (xs : List Int) : List PyData := xs.map PyData.int
theorem gd_iD (n : Nat) (xs : List Int) : ∀ d ∈ iD xs, Gd n d := fun d hd => by
  obtain ⟨x, _, rfl⟩ := List.mem_map.mp hd
  exact gd_int n x
theorem dp_ivs {K : PySem.W.Frag} {H : Hp} : ∀ xs : List Int, DpAll K H (ivs xs) (iD xs)
  | [] => .nil
  | x :: r => .cons (.int x) (dp_ivs r)
theorem eqv_iD : ∀ a b : List Int, PyData.eqvAll (iD a) (iD b) = decide (a = b)
  | [], [] => by simp [iD, PyData.eqvAll]
  | [], b :: r => by simp [iD, PyData.eqvAll]
  | a :: r, [] => by simp [iD, PyData.eqvAll]
  | a :: r, b :: s => by
    have ih := eqv_iD r s
    show PyData.eqvAll (.int a :: iD r) (.int b :: iD s) = _
    simp only [PyData.eqvAll, PyData.eqv]
    rw [ih]
    by_cases h : a = b
    · subst h
      simp
    · have : (a == b) = false := beq_eq_false_iff_ne.mpr h
      rw [this]
      simp [h]
theorem eqv_nil (ds : List PyData) : PyData.eqvAll ds [] = ds.isEmpty := by
  cases ds <;> simp [PyData.eqvAll]
def nI (ps : List Nat) : List Int := ps.map fun p => ((p : Nat) : Int)
theorem nvs_ivs (ps : List Nat) : nvs ps = ivs (nI ps) := by
  unfold nvs ivs nI
  rw [List.map_map]
  rfl
def bI (bs : List Bool) : List Int := bs.map b2z
theorem bvs_ivs (bs : List Bool) : bvs bs = ivs (bI bs) := by
  unfold bvs ivs bI
  rw [List.map_map]
  rfl
theorem bI_inj {a b : List Bool} (h : bI a = bI b) : a = b := by
  induction a generalizing b with
  | nil => cases b with | nil => rfl | cons _ _ => cases h
  | cons x r ih =>
    cases b with
    | nil => cases h
    | cons y s =>
      injection h with h1 h2
      have : x = y := by cases x <;> cases y <;> first | rfl | cases h1
      rw [this, ih h2]
theorem dp_tI {K : PySem.W.Frag} {H : Hp} {a : Addr} {xs : List Int} (h : H a = some (.tup (ivs xs))) : Dp K H (.ref a) (.tuple (iD xs)) := .tup (SqT.of h) (dp_ivs xs)
theorem dp_lI {K : PySem.W.Frag} {H : Hp} {a : Addr} {xs : List Int} (h : H a = some (.lst (ivs xs))) : Dp K H (.ref a) (.list (iD xs)) := .lst (SqL.of h) (dp_ivs xs)
end K54

set_option Elab.async false
set_option linter.all false
set_option maxRecDepth 100000
set_option maxHeartbeats 4000000
/-! The defs of things keep their promises. -/
namespace K54
open PySem PySem.Spec PyProof.Rows L2 Evl
theorem bvs_get {bs : List Bool} {j : Nat} {b : Bool} (h : bs[j]? = some b) : (bvs bs)[j]? = some (bv b) := by
  unfold bvs
  rw [List.getElem?_map, h]
  rfl
theorem ixN_neg {n p : Nat} (h : p < n) : ixN n (-1 - (p : Int)) = some (n - 1 - p) := by
  unfold ixN
  rw [if_neg (by omega), if_pos (by omega)]
  congr 1
  omega
theorem flip_get {bs : List Bool} {p : Nat} {b : Bool} (h : bs[bs.length - 1 - p]? = some b) : flip bs p = bs.set (bs.length - 1 - p) (!b) := by
  unfold flip
  rw [h]
theorem neg_bv (b : Bool) : V.int (1 - b2z b) = bv (!b) := by cases b <;> rfl
theorem flips_snoc (bs : List Bool) (ps : List Nat) (p : Nat) : flips bs (ps ++ [p]) = flip (flips bs ps) p := by
  unfold flips
  rw [List.foldl_append]
  rfl
section
variable {P : Program} {w : World} {K : PySem.W.Frag} {mg : Str → Option Value} {base : Heap}
theorem cal_is_number_nets (T : TX K mg) : Cal P w K mg base "is_number_nets" 1 (sp_is_number_nets K) := by
  obtain ⟨fd, F⟩ := T.df_is_number_nets
  have hb : Binds K fd ["thing", "least", "most"] [] := F.bindsN fun _ _ _ _ _ _ us hl => match us, hl with | [_, _, _], _ => rfl
  refine Cal.mk2 T.g_is_number_nets F.kp hb (F.ok (CX := CX0) (k := 0) sc_is_number_nets (fun vs H Q E h => ?_) (fun cdv A outer s H vs Q E hr h => ?_))
  · obtain ⟨_, _, _, rfl, _⟩ := h
    rfl
  · obtain ⟨i, a, b, rfl, h1, h2, q⟩ := h
    refine ⟨_, PSs.nox (pss_one (ps_ret (pe_and (pe_callB call_isi (by rfl) T.f_isinstance bt_isinstance (pa_cons (pv 0) (pa_cons (pe_bty T.f_int bt_int) pa_nil))) (pe_and (pe_not (pe_callB call_isi (by rfl) T.f_isinstance bt_isinstance (pa_cons (pv 0) (pa_cons (pe_bty T.f_bool bt_bool) pa_nil)))) (pe_one (pe_chain op_le op_le (pv 1) (pv 0) (pv 2))))))), ?_⟩
    refine ⟨_, rfl, _, _, _, _, true, rfl, .ty _, .base (.int _), isi_ii, true, rfl, iteT ?_⟩
    refine ⟨_, rfl, _, _, _, _, false, rfl, .ty _, .base (.int _), isi_ib, _, rfl, true, rfl, iteT ?_⟩
    refine ⟨_, rfl, _, rfl, _, _, rfl, rfl, _, rfl, le_T h1 ⟨_, rfl, _, _, rfl, rfl, ?_⟩⟩
    show Q (V.bl (decide (i ≤ b))) H
    rw [decide_eq_true h2]
    exact q
theorem cal_coded_row (T : TX K mg) (c_coded : Cal P w K mg base "coded" 5 (sp_coded K)) (c_bits_by : Cal P w K mg base "bits_by" 2 (sp_bits_by K)) : Cal P w K mg base "coded_row" 6 (sp_coded_row K) := by
  obtain ⟨fd, F⟩ := T.df_coded_row
  have hb : Binds K fd ["row", "code"] [] := F.bindsN fun _ _ _ _ _ _ us hl => match us, hl with | [_, _], _ => rfl
  refine Cal.mk2 T.g_coded_row F.kp hb (F.ok (CX := CX0) (k := 5) sc_coded_row (fun vs H Q E h => ?_) (fun cdv A outer s H vs Q E hr h => ?_))
  · obtain ⟨_, _, rfl, _⟩ := h
    rfl
  · obtain ⟨p, xs, rfl, hp, hl, hb, q⟩ := h
    refine ⟨_, PSs.nox (pss_cons (ps_set (i := 2) sc_coded_row.nd rfl (.inl rfl) (pe_lst pa_nil))
    (pss_cons (ps_for PassesOwn.never rfl (pi_tup (pv 0)) (pg_name (i := 3) sc_coded_row.nd rfl (.inl rfl)) (pss_one (ps_expr (pe_bm PySem.F.plainAttrs_list PySem.F.slot_list_extend PySem.F.type_list_extend mt_extT (pv 2) (pa_cons (pe_cal c_bits_by (hr.mono (by decide)) (pa_cons (pv 3) (pa_cons (pe_gint T.i_BYTE) pa_nil))) pa_nil)))))
    (pss_one (ps_ret (pe_cal c_coded hr (pa_cons (pe_callTy call_tuple_of (by rfl) T.f_tuple bt_tuple (pa_cons (pv 2) pa_nil)) (pa_cons (pv 1) pa_nil))))))), ?_⟩
    refine ⟨Nat.zero_le _, fun fa nfa => ?_⟩
    refine ⟨_, rfl, p, rfl, ⟨_, SqT.of (Ex.new nfa _ _ hp)⟩, for_tup (K := K) (a := p) (xs := ivs xs) (fun i σ H' => Ex H H' ∧ H' fa = some (.lst (bvs (bitsOf (xs.take i)))) ∧ ∃ v, σ = [some (.ref p), some (.int 69665), some (.ref fa), v]) ⟨Ex.new nfa, upd_same, none, rfl⟩ (fun i σ H' _ hh => SqT.of (hh.1 _ _ hp)) ?_ ?_⟩
    · rintro i x σ H' hx ⟨e1, hfa, v, rfl⟩
      obtain ⟨y, hy, rfl⟩ := ivs_get hx
      have hyb := hb y (List.mem_of_getElem? hy)
      obtain ⟨m, rfl⟩ : ∃ m : Nat, y = (m : Int) := ⟨y.toNat, (Int.toNat_of_nonneg hyb.1).symm⟩
      have hm := hyb.2
      refine ⟨_, rfl, .inl ⟨rfl, _, SqL.of hfa⟩, _, rfl, m, 8, rfl, by decide, by show m < 256; omega, fun u H2 e2 hu => ⟨fa, u, _, _, rfl, rfl, e2 _ _ hfa, hu, ?_, ?_⟩⟩
      · rw [bvs_len, bvs_len, spr_len, bitsOf_len, List.length_take]
        exact szl (by omega)
      · refine ⟨(e1.trans e2).mut nfa, ?_, some (.int (m : Int)), rfl⟩
        rw [upd_same, take_succ' hy, bitsOf_app, bvs_app]
        unfold bitsOf
        rw [List.flatMap_cons, List.flatMap_nil, List.append_nil]
        rfl
    · rintro σ H' ⟨e1, hfa, v, rfl⟩
      rw [ivs_len, List.take_length] at hfa
      refine ⟨_, rfl, fa, _, rfl, .inl ⟨SqL.of hfa, fun u hu => ⟨_, rfl, u, bitsOf xs, rfl, upd_same, ?_, fun b H2 e2 hb => q b H2 ((e1.trans (Ex.new hu)).trans e2) hb⟩⟩⟩
      rw [bitsOf_len]
      omega
theorem cal_Thing_init (T : TX K mg) : NCal P w K mg base "Thing" 1 (sp_Thing_init K) := by
  obtain ⟨fd, F⟩ := T.df_Thing_init
  have hb : Binds K fd ["self", "row", "years", "places"] [] := F.bindsN fun _ _ _ _ _ _ us hl => match us, hl with | [_, _, _, _], _ => rfl
  refine NCal.mk2 T.gc_Thing T.mk_Thing hb (F.ok (CX := CX0) (k := 0) sc_Thing_init (fun vs H Q E h => ?_) (fun cdv A outer s H vs Q E hr h => ?_))
  · obtain ⟨_, _, _, _, _, rfl, _⟩ := h
    rfl
  · obtain ⟨x, dx, row, pl, y, rfl, hx, q⟩ := h
    refine ⟨_, PSs.nox (pss_cons (ps_fld (pv 0) (pv 1) rfl)
    (pss_cons (ps_fld (pv 0) (pv 2) rfl)
    (pss_one (ps_fld (pv 0) (pv 3) rfl)))), ?_⟩
    refine ⟨_, rfl, _, rfl, _, _, _, _, rfl, hx, T.cl_Thing, T.na_Thing_row, by decide, ?_⟩
    refine ⟨_, rfl, _, rfl, _, _, _, _, rfl, upd_same, T.cl_Thing, T.na_Thing_years, lt1000 (putF_le (Nat.zero_le 0)), ?_⟩
    refine ⟨_, rfl, _, rfl, _, _, _, _, rfl, upd_same, T.cl_Thing, T.na_Thing_places, lt1000 (putF_le (putF_le (Nat.zero_le 0))), ?_⟩
    refine q _ (fun a o ha hne => ?_) upd_same
    rw [upd_ne hne, upd_ne hne, upd_ne hne]
    exact ha
theorem cal_Thing_how_many (T : TX K mg) (c_width : Cal P w K mg base "width" 2 (sp_width K)) : MCal P w K mg base "Thing" "how_many" 3 (sp_Thing_how_many K) := by
  obtain ⟨fd, F⟩ := T.df_Thing_how_many
  have hb : Binds K fd ["self", "code"] [] := F.bindsN fun _ _ _ _ _ _ us hl => match us, hl with | [_, _], _ => rfl
  refine MCal.mk2 T.cl_Thing T.m_Thing_how_many hb (F.ok (CX := CX0) (k := 2) sc_Thing_how_many (fun vs H Q E h => ?_) (fun cdv A outer s H vs Q E hr h => ?_))
  · obtain ⟨_, rfl, _⟩ := h
    rfl
  · obtain ⟨t, rfl, ht, q⟩ := h
    refine ⟨_, PSs.nox (pss_one (ps_ret (pe_op op_add (pe_op op_mul (pe_callB call_len_seq (by rfl) T.f_len bt_len (pa_cons (pe_fld (pv 0) rfl) pa_nil)) (pe_gint T.i_BYTE)) (pe_cal c_width hr (pa_cons (pv 1) pa_nil))))), ?_⟩
    refine ⟨_, rfl, _, _, _, _, _, rfl, ht.obj, T.cl_Thing, T.na_Thing_row, thl_row, _, _, rfl, .inr (SqT.of ht.row), _, _, rfl, rfl, .inr ⟨by decide, by decide⟩, _, rfl, (), rfl, _, _, rfl, rfl, ?_⟩
    have e : (((ivs (pkBytes t.fl)).length : Nat) : Int) * 8 + 16 = ((nbits t.fl : Nat) : Int) := by
      rw [ivs_len, pk_len]
      unfold nbits
      omega
    show Q (V.int ((((ivs (pkBytes t.fl)).length : Nat) : Int) * 8 + 16)) H
    rw [e]
    exact q
theorem cal_Thing_row_bits (T : TX K mg) (c_coded_row : Cal P w K mg base "coded_row" 6 (sp_coded_row K)) : MCal P w K mg base "Thing" "row_bits" 7 (sp_Thing_row_bits K) := by
  obtain ⟨fd, F⟩ := T.df_Thing_row_bits
  have hb : Binds K fd ["self", "code"] [] := F.bindsN fun _ _ _ _ _ _ us hl => match us, hl with | [_, _], _ => rfl
  refine MCal.mk2 T.cl_Thing T.m_Thing_row_bits hb (F.ok (CX := CX0) (k := 6) sc_Thing_row_bits (fun vs H Q E h => ?_) (fun cdv A outer s H vs Q E hr h => ?_))
  · obtain ⟨_, rfl, _⟩ := h
    rfl
  · obtain ⟨t, rfl, ht, ok, q⟩ := h
    refine ⟨_, PSs.nox (pss_cons (ps_set (i := 2) sc_Thing_row_bits.nd rfl (.inl rfl) (pe_callTy call_list_of (by rfl) T.f_list bt_list (pa_cons (pe_cal c_coded_row hr (pa_cons (pe_fld (pv 0) rfl) (pa_cons (pv 1) pa_nil))) pa_nil)))
    (pss_cons (ps_for PassesOwn.never rfl (pi_tup (pe_fld (pv 0) rfl)) (pg_name (i := 3) sc_Thing_row_bits.nd rfl (.inl rfl)) (pss_one (ps_asg (pe_op op_sub pe_int (pe_ix ix_list (pv 2) (pe_op op_sub (pe_un un_neg pe_int) (pv 3)) (fun _ _ => rfl))) (pg_sub (pv 2) (pe_op op_sub (pe_un un_neg pe_int) (pv 3)) set_list))))
    (pss_one (ps_ret (pe_callTy call_tuple_of (by rfl) T.f_tuple bt_tuple (pa_cons (pv 2) pa_nil)))))), ?_⟩
    have hl := pk_len t.fl
    have hl3 := ok.fl.len
    refine ⟨_, rfl, _, _, _, _, _, rfl, ht.obj, T.cl_Thing, T.na_Thing_row, thl_row, _, rfl, t.row, pkBytes t.fl, rfl, ht.row, by omega, pk_B ok.fl, fun b H1 e1 hb => ⟨b, _, rfl, .inr (SqT.of hb), fun fa nfa => ?_⟩⟩
    have nfa0 : H fa = none := fresh_back e1 nfa
    have e2 := e1.trans (Ex.new (o := .lst (bvs (codedB (bitsOf (pkBytes t.fl))))) nfa)
    have hN : (codedB (bitsOf (pkBytes t.fl))).length = nbits t.fl := by
      rw [codedB_len, bitsOf_len, hl]
      rfl
    refine ⟨_, rfl, _, _, _, _, _, rfl, e2 _ _ ht.obj, T.cl_Thing, T.na_Thing_places, thl_places, t.pl, rfl, ⟨_, SqT.of (e2 _ _ ht.pl)⟩, for_tup (K := K) (a := t.pl) (xs := nvs t.places) (fun i σ H' => Ex H H' ∧ H' fa = some (.lst (bvs (bitsT t.fl (t.places.take i)))) ∧ ∃ v, σ = [some (.ref t.at_), some (.int 69665), some (.ref fa), v]) ⟨e2, upd_same, none, rfl⟩ (fun i σ H' _ hh => SqT.of (hh.1 _ _ ht.pl)) ?_ ?_⟩
    · rintro i x σ H' hx ⟨e3, hfa, v, rfl⟩
      rw [nvs_ivs] at hx
      obtain ⟨y, hy, rfl⟩ := ivs_get hx
      obtain ⟨p, hp, rfl⟩ : ∃ p : Nat, t.places[i]? = some p ∧ y = (p : Int) := by
        unfold nI at hy
        rw [List.getElem?_map] at hy
        cases e : t.places[i]? with
        | none => rw [e] at hy; cases hy
        | some p => rw [e] at hy; exact ⟨p, rfl, (Option.some.inj hy).symm⟩
      have hlt := ok.lt p (List.mem_of_getElem? hp)
      have hlen : (bitsT t.fl (t.places.take i)).length = nbits t.fl := by rw [bitsT_len]; rfl
      obtain ⟨c, hc⟩ : ∃ c, (bitsT t.fl (t.places.take i))[nbits t.fl - 1 - p]? = some c := ⟨_, List.getElem?_eq_getElem (by rw [hlen]; omega)⟩
      have hix : ixN (bvs (bitsT t.fl (t.places.take i))).length (-1 - (p : Int)) = some (nbits t.fl - 1 - p) := by
        rw [bvs_len, hlen]
        exact ixN_neg hlt
      have hat : atI (bvs (bitsT t.fl (t.places.take i))) (-1 - (p : Int)) = some (bv c) := by
        unfold atI
        rw [hix]
        exact bvs_get hc
      refine ⟨_, rfl, _, rfl, _, rfl, _, _, rfl, rfl, _, _, _, _, rfl, rfl, SqL.of hfa, hat, _, _, rfl, rfl, _, rfl, _, rfl, _, rfl, _, _, rfl, rfl, _, _, _, _, rfl, rfl, hfa, hix, e3.mut nfa0, ?_, some (.int (p : Int)), rfl⟩
      rw [upd_same, take_succ' hp]
      show some (HO.lst ((bvs (bitsT t.fl (t.places.take i))).set (nbits t.fl - 1 - p) (V.int (1 - b2z c)))) = some (HO.lst (bvs (flips (codedB (bitsOf (pkBytes t.fl))) (t.places.take i ++ [p]))))
      rw [flips_snoc, neg_bv]
      have hc' : (flips (codedB (bitsOf (pkBytes t.fl))) (t.places.take i))[(flips (codedB (bitsOf (pkBytes t.fl))) (t.places.take i)).length - 1 - p]? = some c := by
        rw [flips_len, hN]
        exact hc
      rw [flip_get hc', flips_len, hN]
      unfold bvs bitsT
      rw [List.map_set]
    · rintro σ H' ⟨e3, hfa, v, rfl⟩
      rw [nvs_len, List.take_length] at hfa
      exact ⟨_, rfl, fa, _, rfl, .inl ⟨SqL.of hfa, fun u hu => q u _ (e3.trans (Ex.new hu)) upd_same⟩⟩
theorem cal_Thing_read_packet (T : TX K mg) (c_Thing_row_bits : MCal P w K mg base "Thing" "row_bits" 7 (sp_Thing_row_bits K)) (c_packet_by : Cal P w K mg base "packet_by" 5 (sp_packet_by K)) (c_is_right : Cal P w K mg base "is_right" 5 (sp_is_right K)) (c_width : Cal P w K mg base "width" 2 (sp_width K)) : MCal P w K mg base "Thing" "read_packet" 8 (sp_Thing_read_packet K) := by
  obtain ⟨fd, F⟩ := T.df_Thing_read_packet
  have hb : Binds K fd ["self", "code"] [] := F.bindsN fun _ _ _ _ _ _ us hl => match us, hl with | [_, _], _ => rfl
  refine MCal.mk2 T.cl_Thing T.m_Thing_read_packet hb (F.ok (CX := CX0) (k := 7) sc_Thing_read_packet (fun vs H Q E h => ?_) (fun cdv A outer s H vs Q E hr h => ?_))
  · obtain ⟨_, rfl, _⟩ := h
    rfl
  · obtain ⟨t, rfl, ht, ok, q1, q2⟩ := h
    refine ⟨_, PSs.nox (pss_cons (ps_set (i := 2) sc_Thing_read_packet.nd rfl (.inl rfl) (pe_fld (pv 0) rfl))
    (pss_cons (ps_if (pt_cmpR (op_neD hr.units) (pe_fld (pv 0) rfl) (pe_tup pa_nil) (nomark _)) (pss_cons (ps_set (i := 3) sc_Thing_read_packet.nd rfl (.inl rfl) (pe_calM c_Thing_row_bits hr (pv 0) (pa_cons (pv 1) pa_nil)))
    (pss_cons (ps_if (pt_not (pt_val (pe_cal c_is_right (hr.mono (by decide)) (pa_cons (pv 3) (pa_cons (pv 1) pa_nil))))) (pss_one (ps_ret pe_non)) pss_nil)
    (pss_one ps_never))) pss_nil)
    (pss_cons (ps_try_thru0 (pss_one (ps_set (i := 4) sc_Thing_read_packet.nd rfl (.inl rfl) (pe_cal c_packet_by (hr.mono (by decide)) (pa_cons (pv 2) pa_nil)))))
    (pss_one (ps_ret (pv 4)))))), ?_⟩
    refine ⟨_, rfl, _, _, _, _, _, rfl, ht.obj, T.cl_Thing, T.na_Thing_row, thl_row, ?_⟩
    refine ⟨_, rfl, _, _, _, _, _, rfl, ht.obj, T.cl_Thing, T.na_Thing_places, thl_places, Nat.zero_le _, fun u hu => ?_⟩
    have e1 := Ex.new (o := .tup []) hu
    have hpl : Dp K (upd H u (.tup [])) (.ref t.pl) (.tuple (iD (nI t.places))) := dp_tI (by rw [← nvs_ivs]; exact e1 _ _ ht.pl)
    refine ⟨_, .tuple [], hpl, .tup (SqT.of upd_same) .nil, (gd_tup (gd_iD 0 _)).shaped, (gd_tup (n := 0) (ds := []) (by intro d hd; cases hd)).shaped, _, rfl, ?_⟩
    have eq : (!PyData.eqv (.tuple (iD (nI t.places))) (.tuple [])) = !t.places.isEmpty := by
      show (!PyData.eqvAll (iD (nI t.places)) []) = _
      rw [eqv_nil]
      cases t.places <;> rfl
    rw [eq]
    cases hz : t.places with
    | nil =>
      refine iteF ⟨_, rfl, t.row, t.fl, rfl, e1 _ _ ht.row, ok.fl, fun x H2 nx e2 hx => ⟨_, rfl, q2 hz x H2 (e1.trans e2) (fresh_back e1 nx) hx⟩⟩
    | cons a r =>
      have ne : t.places ≠ [] := by rw [hz]; exact List.cons_ne_nil _ _
      refine iteT ⟨_, rfl, t.at_, t.dx, _, rfl, e1 _ _ ht.obj, thl_m nSt nSt nSt, _, rfl, t, rfl, ht.ex e1, ok, fun b H2 e2 hb => ?_⟩
      have hl3 := ok.fl.len
      refine ⟨_, rfl, _, rfl, b, bitsT t.fl t.places, rfl, hb, by rw [bitsT_len]; omega, fun H3 e3 => ⟨_, rfl, ?_⟩⟩
      have hs := bitsT_sees ok.fl ne ok.le ok.nd ok.lt
      rw [decide_eq_false hs]
      exact iteT (q1 ne H3 ((e1.trans e2).trans e3))
end
end K54

set_option Elab.async false
set_option linter.all false
set_option maxRecDepth 100000
set_option maxHeartbeats 4000000
/-! Nets: road, thing, put, lose, double, turn. -/
namespace K54
open PySem PySem.Spec PyProof.Rows L2 Evl
section
variable {K : PySem.W.Frag} {H : Hp} {n : NG} {k : Int × Int}
theorem NetR.dget (h : NetR K H n) (hk : k ∈ n.keys) {u : Addr} (hu : H u = some (.tup [.int k.1, .int k.2])) : DGet H n.D (.ref u) (some (.ref (n.L k))) := by
  have := DGet.t h.dict (k := kk k) hu
  rw [valV_rK, if_pos hk] at this
  exact this
theorem kB (ok : NetOk n) (hk : k ∈ n.keys) : IsB k.1 ∧ IsB k.2 := ⟨ok.tv.byt _ (ok.kin k hk).1, ok.tv.byt _ (ok.kin k hk).2⟩
theorem tref_get {ts : List Th} {i : Nat} {t : Th} (h : ts[i]? = some t) : (tref ts)[i]? = some (.ref t.at_) := by
  unfold tref
  rw [List.getElem?_map, h]
  rfl
theorem tref_erase (ts : List Th) (i : Nat) : (tref ts).eraseIdx i = tref (ts.eraseIdx i) := by
  unfold tref
  induction ts generalizing i with
  | nil => rfl
  | cons t r ih =>
    cases i with
    | zero => rfl
    | succ i =>
      show V.ref t.at_ :: (List.map (fun t => V.ref t.at_) r).eraseIdx i = V.ref t.at_ :: List.map (fun t => V.ref t.at_) (r.eraseIdx i)
      rw [ih]
theorem tref_app (ts us : List Th) : tref (ts ++ us) = tref ts ++ tref us := by simp [tref]
theorem setT_p {ts : List Th} : (n.setT k ts).p = n.p := rfl
theorem made_ex {x dx : Addr} {o0 : HO} {H3 : Hp} (nx : H x = none) (ndx : H dx = none) (k1 : ∀ a o, upd (upd H dx (.own x)) x o0 a = some o → a ≠ x → H3 a = some o) : Ex H H3 := fun a o ha => by
  refine k1 a o ?_ (ne_of_none ha nx)
  rw [upd_ne (ne_of_none ha nx), upd_ne (ne_of_none ha ndx)]
  exact ha
end
section
variable {P : Program} {w : World} {K : PySem.W.Frag} {mg : Str → Option Value} {base : Heap}
theorem cal_Net_road (T : TX K mg) (c_is_number_nets : Cal P w K mg base "is_number_nets" 1 (sp_is_number_nets K)) : MCal P w K mg base "Net" "road" 2 (sp_Net_road K) := by
  obtain ⟨fd, F⟩ := T.df_Net_road
  have hb : Binds K fd ["self", "one", "other"] [] := F.bindsN fun _ _ _ _ _ _ us hl => match us, hl with | [_, _, _], _ => rfl
  refine MCal.mk2 T.cl_Net T.m_Net_road hb (F.ok (CX := CX0) (k := 1) sc_Net_road (fun vs H Q E h => ?_) (fun cdv A outer s H vs Q E hr h => ?_))
  · obtain ⟨_, _, rfl, _⟩ := h
    rfl
  · obtain ⟨n, k, rfl, hn, ok, hk, q⟩ := h
    obtain ⟨b1, b2⟩ := kB ok hk
    refine ⟨_, PSs.nox (pss_cons (ps_if (PW.pt (pw_or (pt_not (pt_val (pe_cal c_is_number_nets hr (pa_cons (pv 1) (pa_cons pe_int (pa_cons pe_int pa_nil)))))) (pw_or (pt_not (pt_val (pe_cal c_is_number_nets hr (pa_cons (pv 2) (pa_cons pe_int (pa_cons pe_int pa_nil)))))) (pw_or1 (pt_cmp (pc_dnotin (hu_of hr) (pe_tup (pa_cons (pv 1) (pa_cons (pv 2) pa_nil))) (pe_fld (pv 0) rfl))))))) (pss_one ps_never) pss_nil)
    (pss_one (ps_ret (pe_dget (hu_of hr) (pe_fld (pv 0) rfl) (pe_tup (pa_cons (pv 1) (pa_cons (pv 2) pa_nil))) (fun _ _ => rfl))))), ?_⟩
    refine ⟨_, rfl, k.1, 0, 255, rfl, b1.1, b1.2, true, rfl, iteF ⟨_, rfl, k.2, 0, 255, rfl, b2.1, b2.2, true, rfl, iteF ?_⟩⟩
    refine ⟨_, rfl, _, rfl, sz_2, fun u hu => ?_⟩
    have e1 := Ex.new (o := .tup [.int k.1, .int k.2]) hu
    have hn1 := hn.ex e1
    refine ⟨_, rfl, _, _, _, _, _, rfl, hn1.obj, T.cl_Net, T.na_Net_roads, ntl_roads, n.D, _, rfl, hn1.dget hk upd_same, _, rfl, iteF ?_⟩
    refine ⟨_, rfl, _, _, _, _, _, rfl, hn1.obj, T.cl_Net, T.na_Net_roads, ntl_roads, _, rfl, _, rfl, sz_2, fun u2 hu2 => ?_⟩
    have e2 := Ex.new (o := .tup [.int k.1, .int k.2]) hu2
    exact ⟨n.D, _, rfl, (hn1.ex e2).dget hk upd_same, q _ (e1.trans e2)⟩
theorem cal_Net_thing (T : TX K mg) (c_Net_road : MCal P w K mg base "Net" "road" 2 (sp_Net_road K)) (c_is_number_nets : Cal P w K mg base "is_number_nets" 1 (sp_is_number_nets K)) : MCal P w K mg base "Net" "thing" 3 (sp_Net_thing K) := by
  obtain ⟨fd, F⟩ := T.df_Net_thing
  have hb : Binds K fd ["self", "one", "other", "number"] [] := F.bindsN fun _ _ _ _ _ _ us hl => match us, hl with | [_, _, _, _], _ => rfl
  refine MCal.mk2 T.cl_Net T.m_Net_thing hb (F.ok (CX := CX0) (k := 2) sc_Net_thing (fun vs H Q E h => ?_) (fun cdv A outer s H vs Q E hr h => ?_))
  · obtain ⟨_, _, _, _, rfl, _⟩ := h
    rfl
  · obtain ⟨n, k, i, t, rfl, hn, ok, hk, hi, hl, q⟩ := h
    refine ⟨_, PSs.nox (pss_cons (ps_set (i := 4) sc_Net_thing.nd rfl (.inl rfl) (pe_calM c_Net_road hr (pv 0) (pa_cons (pv 1) (pa_cons (pv 2) pa_nil))))
    (pss_cons (ps_if (pt_not (pt_val (pe_cal c_is_number_nets (hr.mono (by decide)) (pa_cons (pv 3) (pa_cons pe_int (pa_cons (pe_op op_sub (pe_callB call_len_seq (by rfl) T.f_len bt_len (pa_cons (pv 4) pa_nil)) pe_int) pa_nil)))))) (pss_one ps_never) pss_nil)
    (pss_one (ps_ret (pe_ix ix_list (pv 4) (pv 3) (fun _ _ => rfl)))))), ?_⟩
    have hlt := (List.getElem?_eq_some_iff.mp hi).1
    refine ⟨_, rfl, n.p, n.dx, _, rfl, hn.obj, ntl_m nSt nSt nSt nSt, _, rfl, _, rfl, n, k, rfl, hn, ok, hk, fun H1 e1 => ?_⟩
    have hls := e1 _ _ (hn.lst k hk)
    refine ⟨_, rfl, _, rfl, n.L k, _, rfl, .inl (SqL.of hls), _, _, rfl, rfl, (i : Int), 0, _, rfl, by omega, ?_, true, rfl, iteF ?_⟩
    · rw [tref_len]
      omega
    · exact ⟨_, rfl, _, rfl, _, _, _, _, rfl, rfl, SqL.of hls, atI_nat (tref_get hi), q H1 e1⟩
theorem cal_Net_lose (T : TX K mg) (c_Net_thing : MCal P w K mg base "Net" "thing" 3 (sp_Net_thing K)) (c_Net_road : MCal P w K mg base "Net" "road" 2 (sp_Net_road K)) : MCal P w K mg base "Net" "lose" 4 (sp_Net_lose K) := by
  obtain ⟨fd, F⟩ := T.df_Net_lose
  have hb : Binds K fd ["self", "one", "other", "number"] [] := F.bindsN fun _ _ _ _ _ _ us hl => match us, hl with | [_, _, _, _], _ => rfl
  refine MCal.mk2 T.cl_Net T.m_Net_lose hb (F.ok (CX := CX0) (k := 3) sc_Net_lose (fun vs H Q E h => ?_) (fun cdv A outer s H vs Q E hr h => ?_))
  · obtain ⟨_, _, _, _, rfl, _⟩ := h
    rfl
  · obtain ⟨n, k, i, t, rfl, hn, ok, hk, hi, hl, q⟩ := h
    have hlen := Nat.le_trans (len_tot ok.kd hk) hl
    have hlt := (List.getElem?_eq_some_iff.mp hi).1
    refine ⟨_, PSs.nox (pss_cons (ps_expr (pe_calM c_Net_thing hr (pv 0) (pa_cons (pv 1) (pa_cons (pv 2) (pa_cons (pv 3) pa_nil)))))
    (pss_one (ps_expr (pe_bm PySem.F.plainAttrs_list PySem.F.slot_list_pop PySem.F.type_list_pop mt_popAt (pe_calM c_Net_road (hr.mono (by decide)) (pv 0) (pa_cons (pv 1) (pa_cons (pv 2) pa_nil))) (pa_cons (pv 3) pa_nil))))), ?_⟩
    refine ⟨_, rfl, n.p, n.dx, _, rfl, hn.obj, ntl_m nSt nSt nSt nSt, _, rfl, _, rfl, _, rfl, n, k, i, t, rfl, hn, ok, hk, hi, hlen, fun H1 e1 => ?_⟩
    have hn1 := hn.ex e1
    refine ⟨_, rfl, n.p, n.dx, _, rfl, hn1.obj, ntl_m nSt nSt nSt nSt, _, rfl, _, rfl, n, k, rfl, hn1, ok, hk, fun H2 e2 => ?_⟩
    have hn2 := hn1.ex e2
    have hls := hn2.lst k hk
    refine ⟨.inl ⟨rfl, _, SqL.of hls⟩, _, rfl, n.L k, _, (i : Int), i, _, rfl, rfl, hls, by omega, by omega, ?_, tref_get hi, ?_⟩
    · rw [tref_len]
      exact PySem.seqIndex_of (by omega) (by omega)
    · rw [tref_erase]
      refine q _ _ rfl (hn2.set ok hk fun x hx => hn2.th k hk x ((List.eraseIdx_sublist _ _).subset hx)) (ok.erase hk i) (stp_set (e1.trans e2) hk fun x hx => .inl (.inr ⟨k, hk, .inr ⟨x, (List.eraseIdx_sublist _ _).subset hx, rfl⟩⟩))
theorem cal_Net_double (T : TX K mg) (c_Net_thing : MCal P w K mg base "Net" "thing" 3 (sp_Net_thing K)) (c_Thing_init : NCal P w K mg base "Thing" 1 (sp_Thing_init K)) (c_Net_road : MCal P w K mg base "Net" "road" 2 (sp_Net_road K)) : MCal P w K mg base "Net" "double" 4 (sp_Net_double K) := by
  obtain ⟨fd, F⟩ := T.df_Net_double
  have hb : Binds K fd ["self", "one", "other", "number"] [] := F.bindsN fun _ _ _ _ _ _ us hl => match us, hl with | [_, _, _, _], _ => rfl
  refine MCal.mk2 T.cl_Net T.m_Net_double hb (F.ok (CX := CX0) (k := 3) sc_Net_double (fun vs H Q E h => ?_) (fun cdv A outer s H vs Q E hr h => ?_))
  · obtain ⟨_, _, _, _, rfl, _⟩ := h
    rfl
  · obtain ⟨n, k, i, t, rfl, hn, ok, hk, hi, hl, q⟩ := h
    have hlen := Nat.le_trans (len_tot ok.kd hk) hl
    have hm := List.mem_of_getElem? hi
    refine ⟨_, PSs.nox (pss_cons (ps_set (i := 4) sc_Net_double.nd rfl (.inl rfl) (pe_calM c_Net_thing hr (pv 0) (pa_cons (pv 1) (pa_cons (pv 2) (pa_cons (pv 3) pa_nil)))))
    (pss_one (ps_expr (pe_bm PySem.F.plainAttrs_list PySem.F.slot_list_append PySem.F.type_list_append mt_append (pe_calM c_Net_road (hr.mono (by decide)) (pv 0) (pa_cons (pv 1) (pa_cons (pv 2) pa_nil))) (pa_cons (pe_calN c_Thing_init (hr.mono (by decide)) (pa_cons (pe_fld (pv 4) rfl) (pa_cons (pe_fld (pv 4) rfl) (pa_cons (pe_fld (pv 4) rfl) pa_nil)))) pa_nil))))), ?_⟩
    refine ⟨_, rfl, n.p, n.dx, _, rfl, hn.obj, ntl_m nSt nSt nSt nSt, _, rfl, _, rfl, _, rfl, n, k, i, t, rfl, hn, ok, hk, hi, hlen, fun H1 e1 => ?_⟩
    have hn1 := hn.ex e1
    refine ⟨_, rfl, n.p, n.dx, _, rfl, hn1.obj, ntl_m nSt nSt nSt nSt, _, rfl, _, rfl, n, k, rfl, hn1, ok, hk, fun H2 e2 => ?_⟩
    have hn2 := hn1.ex e2
    have ht := hn2.th k hk t hm
    refine ⟨.inl ⟨rfl, _, SqL.of (hn2.lst k hk)⟩, _, rfl, _, _, _, _, _, rfl, ht.obj, T.cl_Thing, T.na_Thing_row, thl_row, _, rfl, _, _, _, _, _, rfl, ht.obj, T.cl_Thing, T.na_Thing_years, thl_years, _, rfl, _, _, _, _, _, rfl, ht.obj, T.cl_Thing, T.na_Thing_places, thl_places, fun x dx nx ndx ne => ⟨x, dx, _, _, _, rfl, upd_same, fun H3 k3 hx => ⟨rfl, ?_⟩⟩⟩
    have e3 := made_ex nx ndx k3
    have hn3 := hn2.ex e3
    refine ⟨n.L k, _, _, rfl, rfl, hn3.lst k hk, ?_, ?_⟩
    · rw [tref_len]
      exact szlt (by omega)
    have ht3 := ht.ex e3
    have nx0 : H x = none := fresh_back (e1.trans e2) nx
    have ht' : ThR K H3 ⟨x, dx, t.row, t.pl, t.fl, t.years, t.places⟩ := ⟨hx, ht3.row, ht3.pl⟩
    have fin := hn3.set ok hk (ts := n.T k ++ [⟨x, dx, t.row, t.pl, t.fl, t.years, t.places⟩]) fun y hy => by
      rcases List.mem_append.mp hy with z | z
      · exact hn3.th k hk y z
      · have : y = ⟨x, dx, t.row, t.pl, t.fl, t.years, t.places⟩ := by simpa using z
        rw [this]
        exact ht'
    rw [tref_app] at fin
    have no : ¬ own n x := fun o => by rcases hn2.kind o with ⟨_, z⟩ | ⟨_, z⟩ | ⟨_, _, z⟩ <;> rw [nx] at z <;> cases z
    have okt := ok.tok k hk t hm
    refine q _ _ ⟨x, dx, t.row, t.pl, t.fl, t.years, t.places⟩ rfl rfl rfl rfl fin (ok.app hk no ⟨okt.fl, okt.le, okt.nd, okt.lt⟩) (stp_set ((e1.trans e2).trans e3) hk fun y hy => ?_)
    rcases List.mem_append.mp hy with z | z
    · exact .inl (.inr ⟨k, hk, .inr ⟨y, z, rfl⟩⟩)
    · have : y = ⟨x, dx, t.row, t.pl, t.fl, t.years, t.places⟩ := by simpa using z
      rw [this]
      exact .inr nx0
theorem cal_Net_put (T : TX K mg) (c_is_number_nets : Cal P w K mg base "is_number_nets" 1 (sp_is_number_nets K)) (c_Thing_init : NCal P w K mg base "Thing" 1 (sp_Thing_init K)) (c_packet_bytes : Cal P w K mg base "packet_bytes" 3 (sp_packet_bytes K)) : MCal P w K mg base "Net" "put" 4 (sp_Net_put K) := by
  obtain ⟨fd, F⟩ := T.df_Net_put
  have hb : Binds K fd ["self", "place", "packet"] [] := F.bindsN fun _ _ _ _ _ _ us hl => match us, hl with | [_, _, _], _ => rfl
  refine MCal.mk2 T.cl_Net T.m_Net_put hb (F.ok (CX := CX0) (k := 3) sc_Net_put (fun vs H Q E h => ?_) (fun cdv A outer s H vs Q E hr h => ?_))
  · obtain ⟨_, _, _, _, rfl, _⟩ := h
    rfl
  · obtain ⟨n, place, x, f, rfl, hn, ok, hpl, hx, okf, hl, q⟩ := h
    obtain ⟨pdx, d, hpo, hd⟩ := hx
    have bp := ok.tv.byt _ hpl
    refine ⟨_, PSs.nox (pss_cons (ps_if (PW.pt (pw_or (pt_not (pt_val (pe_cal c_is_number_nets (hr.mono (by decide)) (pa_cons (pv 1) (pa_cons pe_int (pa_cons pe_int pa_nil)))))) (pw_or1 (pt_cmp (pc_dnotin (hu_of hr) (pv 1) (pe_fld (pv 0) rfl)))))) (pss_one ps_never) pss_nil)
    (pss_cons (ps_set (i := 3) sc_Net_put.nd rfl (.inl rfl) (pe_dget2 (hu_of hr) (pe_dget (hu_of hr) (pe_fld (pv 0) rfl) (pv 1) (fun _ _ => rfl)) (pe_fld (pv 2) rfl) pe_non ⟨rfl, rfl, rfl, rfl⟩))
    (pss_one (ps_if (PW.pt (pw_and (pt_cmpR op_notN (pv 3) pe_non (nomark _)) (pw_and1 (pt_cmpR op_gt (pe_fld (pv 2) rfl) pe_int (nomark _))))) (pss_one (ps_expr (pe_bm PySem.F.plainAttrs_list PySem.F.slot_list_append PySem.F.type_list_append mt_append (pe_dget (hu_of hr) (pe_fld (pv 0) rfl) (pe_tup (pa_cons (pv 1) (pa_cons (pv 3) pa_nil))) (fun _ _ => rfl)) (pa_cons (pe_calN c_Thing_init (hr.mono (by decide)) (pa_cons (pe_cal c_packet_bytes hr (pa_cons (pv 2) pa_nil)) (pa_cons pe_int (pa_cons (pe_tup pa_nil) pa_nil)))) pa_nil)))) pss_nil)))), ?_⟩
    obtain ⟨o, g, ho⟩ := hn.ways.has place
    rw [decide_eq_true hpl] at ho
    refine ⟨_, rfl, place, 0, 255, rfl, bp.1, bp.2, true, rfl, iteF ⟨_, rfl, _, rfl, _, _, _, _, _, rfl, hn.obj, T.cl_Net, T.na_Net_ways, ntl_ways, n.W, o, rfl, g, _, rfl, ?_⟩⟩
    rw [ho]
    obtain ⟨a, ws, g1, g2, g3, g4⟩ := hn.ways.get hpl
    refine iteF ⟨_, rfl, _, _, _, _, _, rfl, hn.obj, T.cl_Net, T.na_Net_ways, ntl_ways, _, rfl, n.W, .ref a, rfl, g1, a, rfl, .inl ⟨_, g2⟩, _, rfl, _, _, _, _, _, rfl, hpo, T.cl_Packet, T.na_Packet_target, pkl_target, _, g3 f.tgt, ?_⟩
    have none_case : (f.life ≤ 0 ∨ nxt n.tv place f.tgt = none) → Q .non H := fun hz => q H n (.inr ⟨hz, rfl⟩) hn ok Stp.refl
    cases hy : nxt n.tv place f.tgt with
    | none => exact ⟨_, rfl, rfl, _, rfl, iteF (iteF (none_case (.inr hy)))⟩
    | some y =>
      have hk := ok.knx _ _ _ hy
      refine ⟨_, rfl, rfl, _, rfl, iteT ⟨_, rfl, _, _, _, _, _, rfl, hpo, T.cl_Packet, T.na_Packet_life, pkl_life, _, _, rfl, rfl, _, rfl, ?_⟩⟩
      by_cases hlf : 0 < f.life
      · rw [decide_eq_true hlf]
        refine iteT ⟨_, rfl, _, _, _, _, _, rfl, hn.obj, T.cl_Net, T.na_Net_roads, ntl_roads, _, rfl, _, rfl, sz_2, fun u hu => ?_⟩
        have e1 := Ex.new (o := .tup [.int place, .int y]) hu
        have hn1 := hn.ex e1
        have hls1 := hn1.lst _ hk
        refine ⟨n.D, _, rfl, hn1.dget (k := (place, y)) hk upd_same, .inl ⟨rfl, _, SqL.of hls1⟩, _, rfl, x, f, rfl, ⟨pdx, d, e1 _ _ hpo, e1 _ _ hd⟩, okf, fun row H2 e2 hrow => ⟨Nat.zero_le _, fun pl hpl' th dx nx ndx ne => ⟨th, dx, _, _, _, rfl, upd_same, fun H4 k4 hth => ⟨rfl, ?_⟩⟩⟩⟩
        have e4 := made_ex nx ndx k4
        have e3 := Ex.new (o := .tup []) hpl'
        have eA := (e1.trans e2).trans e3
        have hn4 := hn.ex (eA.trans e4)
        have hlen := Nat.le_trans (len_tot ok.kd hk) hl
        refine ⟨n.L (place, y), _, _, rfl, rfl, hn4.lst _ hk, ?_, ?_⟩
        · rw [tref_len]
          exact szlt (by omega)
        have nx0 : H th = none := fresh_back eA nx
        have ht' : ThR K H4 ⟨th, dx, row, pl, f, 0, []⟩ := ⟨hth, e4 _ _ (e3 _ _ hrow), e4 _ _ upd_same⟩
        have fin := hn4.set ok hk (ts := n.T (place, y) ++ [⟨th, dx, row, pl, f, 0, []⟩]) fun y' hy' => by
          rcases List.mem_append.mp hy' with z | z
          · exact hn4.th _ hk y' z
          · have : y' = ⟨th, dx, row, pl, f, 0, []⟩ := by simpa using z
            rw [this]
            exact ht'
        rw [tref_app] at fin
        have no : ¬ own n th := fun o => by rcases hn.kind o with ⟨_, z⟩ | ⟨_, z⟩ | ⟨_, _, z⟩ <;> rw [nx0] at z <;> cases z
        refine q _ _ (.inl ⟨hlf, y, ⟨th, dx, row, pl, f, 0, []⟩, hy, rfl, rfl, rfl, rfl⟩) fin (ok.app hk no ⟨okf, by simp, by simp, by intro p hp; cases hp⟩) (stp_set (eA.trans e4) hk fun y' hy' => ?_)
        rcases List.mem_append.mp hy' with z | z
        · exact .inl (.inr ⟨_, hk, .inr ⟨y', z, rfl⟩⟩)
        · have : y' = ⟨th, dx, row, pl, f, 0, []⟩ := by simpa using z
          rw [this]
          exact .inr nx0
      · rw [decide_eq_false hlf]
        exact iteF (none_case (.inl (by omega)))
theorem cal_Net_turn (T : TX K mg) (c_Net_thing : MCal P w K mg base "Net" "thing" 3 (sp_Net_thing K)) (c_is_number_nets : Cal P w K mg base "is_number_nets" 1 (sp_is_number_nets K)) (c_Thing_how_many : MCal P w K mg base "Thing" "how_many" 3 (sp_Thing_how_many K)) : MCal P w K mg base "Net" "turn" 4 (sp_Net_turn K) := by
  obtain ⟨fd, F⟩ := T.df_Net_turn
  have hb : Binds K fd ["self", "one", "other", "number", "places"] [] := F.bindsN fun _ _ _ _ _ _ us hl => match us, hl with | [_, _, _, _, _], _ => rfl
  refine MCal.mk2 T.cl_Net T.m_Net_turn hb (F.ok (CX := CX0) (k := 3) sc_Net_turn (fun vs H Q E h => ?_) (fun cdv A outer s H vs Q E hr h => ?_))
  · obtain ⟨_, _, _, _, _, _, rfl, _⟩ := h
    rfl
  · obtain ⟨n, k, i, t, l, ps, rfl, hn, ok, hk, hi, hl, hz, hlp, hne, h3, hnd, hlt, q⟩ := h
    have hlen := Nat.le_trans (len_tot ok.kd hk) hl
    have hm := List.mem_of_getElem? hi
    have okt := ok.tok k hk t hm
    have hps : 1 ≤ ps.length := by cases ps with | nil => exact absurd rfl hne | cons _ _ => exact Nat.succ_pos _
    refine ⟨_, PSs.nox (pss_cons (ps_set (i := 5) sc_Net_turn.nd rfl (.inr rfl) (pe_calM c_Net_thing hr (pv 0) (pa_cons (pv 1) (pa_cons (pv 2) (pa_cons (pv 3) pa_nil)))))
    (pss_cons (ps_if (PW.pt (pw_or (pt_not (pt_val (pe_callB call_isi (by rfl) T.f_isinstance bt_isinstance (pa_cons (pv 4) (pa_cons (pe_bty T.f_list bt_list) pa_nil))))) (pw_or (pt_not (pt_chain op_le op_le pe_int (pe_callB call_len_seq (by rfl) T.f_len bt_len (pa_cons (pv 4) pa_nil)) (pe_gint T.i_MOST_TURNED))) (pw_or1 (pt_cmpR (op_neD hr.units) (pe_fld (pv 5) rfl) (pe_tup pa_nil) (nomark _)))))) (pss_one ps_never) pss_nil)
    (pss_cons (ps_if (pt_not (pt_val (pe_callB (cr_all rfl) (by rfl) T.f_all bt_all (pa_cons (pe_lc (own := [("place", 6)]) rfl sc_Net_turn.nd (pi_list (pv 4)) (blkOk_by (own := [("place", 6)]) (N := sn_Net_turn) (sc := defScope s_Net_turn) (by decide +kernel)) (fun _ _ _ _ _ => pg_name (i := 6) sc_Net_turn.nd rfl (.inl rfl)) (fun _ _ _ _ _ => pts_nil) (fun _ _ _ _ _ => (pe_cal c_is_number_nets (hr.mono (by decide)) (pa_cons (pv 6) (pa_cons pe_int (pa_cons (pe_op op_sub (pe_calMc c_Thing_how_many hr (pv 5) (pa_cons (pe_fldc (pv 0) rfl K) pa_nil)) pe_int) pa_nil)))))) pa_nil)))) (pss_one ps_never) pss_nil)
    (pss_cons (ps_if (pt_cmpR op_lt (RZ.pe_lenSetI (by rfl) T.f_len (by rfl) T.f_set (pv 4)) (pe_callB call_len_seq (by rfl) T.f_len bt_len (pa_cons (pv 4) pa_nil)) (nomark _)) (pss_one ps_never) pss_nil)
    (pss_one (ps_fld (pv 5) (pe_callTy call_tuple_of (by rfl) T.f_tuple bt_tuple (pa_cons (pv 4) pa_nil)) rfl)))))), ?_⟩
    refine ⟨_, rfl, n.p, n.dx, _, rfl, hn.obj, ntl_m nSt nSt nSt nSt, _, rfl, _, rfl, _, rfl, n, k, i, t, rfl, hn, ok, hk, hi, hlen, fun H1 e1 => ?_⟩
    have hn1 := hn.ex e1
    have hl1 := e1 _ _ hlp
    refine ⟨_, rfl, _, _, _, _, true, rfl, .ty _, .base (.lst hl1), isi_ll, _, rfl, iteF ?_⟩
    refine ⟨_, rfl, l, _, rfl, .inl (SqL.of hl1), _, _, rfl, rfl, _, rfl, ?_⟩
    rw [nvs_len]
    refine le_T (by omega) ⟨_, _, rfl, rfl, _, rfl, ?_⟩
    rw [decide_eq_true (by omega)]
    have ht1 := hn1.th k hk t hm
    refine iteF ⟨_, rfl, _, _, _, _, _, rfl, ht1.obj, T.cl_Thing, T.na_Thing_places, thl_places, Nat.zero_le _, fun u hu => ?_⟩
    have e2 := Ex.new (o := .tup []) hu
    have hpl : Dp K (upd H1 u (.tup [])) (.ref t.pl) (.tuple (iD (nI t.places))) := dp_tI (by rw [← nvs_ivs]; exact e2 _ _ ht1.pl)
    refine ⟨_, .tuple [], hpl, .tup (SqT.of upd_same) .nil, (gd_tup (gd_iD 0 _)).shaped, (gd_tup (n := 0) (ds := []) (by intro d hd; cases hd)).shaped, _, rfl, ?_⟩
    have eq : (!PyData.eqv (.tuple (iD (nI t.places))) (.tuple [])) = false := by
      show (!PyData.eqvAll (iD (nI t.places)) []) = _
      rw [eqv_nil, hz]
      rfl
    rw [eq]
    have eA := e1.trans e2
    have hnA := hn.ex eA
    have hlA := eA _ _ hlp
    refine iteF ⟨_, rfl, l, rfl, ⟨_, SqL.of hlA⟩, fun D hD => lcL (xs := nvs ps) (ys := (List.replicate ps.length true).map V.bl) hD hlA (by simp [nvs]) (by rw [nvs_len]; omega) (fun x => rfl) (fun j x y H3 hx hy e3 Q1 k3 => ?_) (fun H3 e3 hq => ?_)⟩
    · rw [rep_get hy] at k3
      rw [nvs_ivs] at hx
      obtain ⟨y', hy', rfl⟩ := ivs_get hx
      obtain ⟨p, hp, rfl⟩ : ∃ p : Nat, ps[j]? = some p ∧ y' = (p : Int) := by
        unfold nI at hy'
        rw [List.getElem?_map] at hy'
        cases e : ps[j]? with
        | none => rw [e] at hy'; cases hy'
        | some p => rw [e] at hy'; exact ⟨p, rfl, (Option.some.inj hy').symm⟩
      have hlp := hlt p (List.mem_of_getElem? hp)
      have hn3 := hnA.ex e3
      have ht3 := hn3.th k hk t hm
      refine ⟨_, rfl, _, rfl, t.at_, t.dx, _, rfl, ht3.obj, thl_m nSt nSt nSt, _, rfl, _, _, _, _, _, rfl, hn3.obj, T.cl_Net, T.na_Net_code, ntl_code, t, rfl, ht3, _, _, rfl, rfl, (p : Int), 0, _, rfl, by omega, ?_, k3 H3 (Ex.refl _)⟩
      omega
    · have eB := eA.trans e3
      have hlB := eB _ _ hlp
      refine ⟨D, _, rfl, SqL.of hq, true, by rw [all_true], iteF ?_⟩
      have hnI : (nI ps).Nodup := by
        unfold nI
        refine List.pairwise_map.mpr (hnd.imp fun {a b} h e => h ?_)
        omega
      refine ⟨_, rfl, l, nI ps, rfl, SqL.of (by rw [nvs_ivs] at hlB; exact hlB), hnI, by simp [nI]; omega, _, rfl, l, _, rfl, .inl (SqL.of hlB), _, _, rfl, rfl, _, rfl, ?_⟩
      rw [nvs_len, show (nI ps).length = ps.length by simp [nI], decide_eq_false (by omega)]
      refine iteF ⟨_, rfl, l, _, rfl, .inl ⟨SqL.of hlB, fun v hv => ?_⟩⟩
      have eC := eB.trans (Ex.new (o := .tup (nvs ps)) hv)
      have hnC := hn.ex eC
      refine ⟨_, rfl, _, _, _, _, rfl, (hnC.th k hk t hm).obj, T.cl_Thing, T.na_Thing_places, thF_len, ?_⟩
      rw [thF_places]
      have fin := hnC.turned ok hk hi (u := { t with places := ps, pl := v }) rfl rfl (hnC.th k hk t hm).row upd_same
      refine q _ _ v rfl fin (ok.turned hk hi rfl ⟨okt.fl, h3, hnd, hlt⟩) ⟨fun a o ha no => ?_, fun a ha => .inl ?_⟩
      · rw [upd_ne (fun z => no (.inr ⟨k, hk, .inr ⟨t, hm, z⟩⟩))]
        exact eC _ _ ha
      · rcases own_set hk ha with z | ⟨x, hx, rfl⟩
        · exact z
        · rcases List.mem_or_eq_of_mem_set hx with z | z
          · exact .inr ⟨k, hk, .inr ⟨x, z, rfl⟩⟩
          · rw [z]
            exact .inr ⟨k, hk, .inr ⟨t, hm, rfl⟩⟩
end
end K54

set_option Elab.async false
set_option linter.all false
set_option maxRecDepth 100000
set_option maxHeartbeats 4000000
/-! Nets: things, bring. -/
namespace K54
open PySem PySem.Spec PyProof.Rows L2 Evl
theorem PutS.tot {n n' : NG} {p : Int} {f : Fl} (ok : NetOk n) (h : PutS n p f n') : tot n' ≤ tot n + 1 := by
  rcases h with ⟨_, y, t, hy, _, _, _, rfl⟩ | ⟨_, rfl⟩
  · have := tot_set ok.kd (ok.knx _ _ _ hy) (n.T (p, y) ++ [t])
    rw [List.length_append, List.length_singleton] at this
    omega
  · omega
section
variable {P : Program} {w : World} {K : PySem.W.Frag} {mg : Str → Option Value} {base : Heap}
theorem cal_Net_things (T : TX K mg) (c_Thing_row_bits : MCal P w K mg base "Thing" "row_bits" 7 (sp_Thing_row_bits K)) (c_Net_road : MCal P w K mg base "Net" "road" 2 (sp_Net_road K)) : MCal P w K mg base "Net" "things" 8 (sp_Net_things K) := by
  obtain ⟨fd, F⟩ := T.df_Net_things
  have hb : Binds K fd ["self", "one", "other"] [] := F.bindsN fun _ _ _ _ _ _ us hl => match us, hl with | [_, _, _], _ => rfl
  refine MCal.mk2 T.cl_Net T.m_Net_things hb (F.ok (CX := CX0) (k := 7) sc_Net_things (fun vs H Q E h => ?_) (fun cdv A outer s H vs Q E hr h => ?_))
  · obtain ⟨_, _, rfl, _⟩ := h
    rfl
  · obtain ⟨n, k, rfl, hn, ok, hk, hl, q⟩ := h
    have hlen := Nat.le_trans (len_tot ok.kd hk) hl
    refine ⟨_, PSs.nox (pss_one (ps_ret (pe_lc (own := [("thing", 3)]) rfl sc_Net_things.nd (pi_list (pe_calMc c_Net_road (hr.mono (by decide)) (pv 0) (pa_cons (pv 1) (pa_cons (pv 2) pa_nil)))) (blkOk_by (own := [("thing", 3)]) (N := sn_Net_things) (sc := defScope s_Net_things) (by decide +kernel)) (fun _ _ _ _ _ => pg_name (i := 3) sc_Net_things.nd rfl (.inl rfl)) (fun _ _ _ _ _ => pts_nil) (fun _ _ _ _ _ => (pe_tup (pa_cons (pe_fldc (pv 3) rfl K) (pa_cons (pe_calMc c_Thing_row_bits hr (pv 3) (pa_cons (pe_fldc (pv 0) rfl K) pa_nil)) pa_nil))))))), ?_⟩
    refine ⟨_, rfl, n.p, n.dx, _, rfl, hn.obj, ntl_m nSt nSt nSt nSt, _, rfl, _, rfl, n, k, rfl, hn, ok, hk, fun H1 e1 => ?_⟩
    have hn1 := hn.ex e1
    refine ⟨n.L k, rfl, ⟨_, SqL.of (hn1.lst k hk)⟩, fun D hD => lc_list (xs := tref (n.T k)) (fun i H' => Ex H1 H' ∧ ∃ as : List Addr, H' D = some (.lst (as.map V.ref)) ∧ Paired (fun t a => ∃ b, H' a = some (.tup [.int t.years, .ref b]) ∧ H' b = some (.tup (bvs (bitsT t.fl t.places)))) ((n.T k).take i) as) ⟨Ex.new hD, [], upd_same, .nil⟩ (fun i H' _ hh => SqL.of (hh.1 _ _ (hn1.lst k hk))) (fun i x H3 hx hh => ?_) (fun H3 hh => ?_)⟩
    · obtain ⟨e3, as, ha, hp⟩ := hh
      refine ⟨rfl, ?_⟩
      obtain ⟨t, ht, rfl⟩ : ∃ t, (n.T k)[i]? = some t ∧ x = .ref t.at_ := by
        unfold tref at hx
        rw [List.getElem?_map] at hx
        cases e : (n.T k)[i]? with
        | none => rw [e] at hx; cases hx
        | some t => rw [e] at hx; exact ⟨t, rfl, (Option.some.inj hx).symm⟩
      have hm := List.mem_of_getElem? ht
      have hlt := (List.getElem?_eq_some_iff.mp ht).1
      have hn3 := hn1.ex e3
      have ht3 := hn3.th k hk t hm
      refine ⟨_, rfl, _, _, _, _, _, rfl, ht3.obj, T.cl_Thing, T.na_Thing_years, thl_years, _, rfl, t.at_, t.dx, _, rfl, ht3.obj, thl_m nSt nSt nSt, _, rfl, _, _, _, _, _, rfl, hn3.obj, T.cl_Net, T.na_Net_code, ntl_code, t, rfl, ht3, ok.tok k hk t hm, fun b H4 e4 hb => ⟨sz_2, fun u hu => ?_⟩⟩
      have e5 := Ex.new (o := .tup [.int t.years, .ref b]) hu
      have eA := (e3.trans e4).trans e5
      have hal : as.length = i := by
        have := hp.length
        rw [List.length_take] at this
        omega
      refine ⟨as.map V.ref, (e4.trans e5) _ _ ha, szlt (by rw [List.length_map]; omega), Ex.mut eA hD, as ++ [u], ?_, ?_⟩
      · rw [upd_same, List.map_append]
        rfl
      · have up : ∀ a o, (upd H4 u (.tup [.int t.years, .ref b])) a = some o → (∀ xs, o ≠ .lst xs) → upd (upd H4 u (.tup [.int t.years, .ref b])) D (.lst (as.map V.ref ++ [.ref u])) a = some o := fun a o h no => by
          rw [upd_ne]
          · exact h
          · intro z
            rw [z, (e4.trans e5) _ _ ha] at h
            exact no _ (Option.some.inj h).symm
        rw [take_succ' ht]
        refine Paired.snoc (L2.Paired.mapP hp fun t' a h => ?_) ⟨b, up _ _ upd_same (fun _ z => nomatch z), up _ _ (e5 _ _ hb) (fun _ z => nomatch z)⟩
        obtain ⟨b', h1, h2⟩ := h
        exact ⟨b', up _ _ ((e4.trans e5) _ _ h1) (fun _ z => nomatch z), up _ _ ((e4.trans e5) _ _ h2) (fun _ z => nomatch z)⟩
    · obtain ⟨e3, as, ha, hp⟩ := hh
      rw [tref_len, List.take_length] at hp
      exact q D as H3 (e1.trans e3) (fresh_back e1 hD) ha hp
theorem cal_Net_bring (T : TX K mg) (c_Thing_read_packet : MCal P w K mg base "Thing" "read_packet" 8 (sp_Thing_read_packet K)) (c_Packet_told : MCal P w K mg base "Packet" "told" 1 (sp_Packet_told K)) (c_Net_put : MCal P w K mg base "Net" "put" 4 (sp_Net_put K)) (c_Net_thing : MCal P w K mg base "Net" "thing" 3 (sp_Net_thing K)) (c_Net_road : MCal P w K mg base "Net" "road" 2 (sp_Net_road K)) (c_Packet_init : NCal P w K mg base "Packet" 3 (sp_Packet_init K)) : MCal P w K mg base "Net" "bring" 9 (sp_Net_bring K) := by
  obtain ⟨fd, F⟩ := T.df_Net_bring
  have hb : Binds K fd ["self", "one", "other", "number"] [] := F.bindsN fun _ _ _ _ _ _ us hl => match us, hl with | [_, _, _, _], _ => rfl
  refine MCal.mk2 T.cl_Net T.m_Net_bring hb (F.ok (CX := CX0) (k := 8) sc_Net_bring (fun vs H Q E h => ?_) (fun cdv A outer s H vs Q E hr h => ?_))
  · obtain ⟨_, _, _, _, rfl, _⟩ := h
    rfl
  · obtain ⟨n, k, i, t, rfl, hn, ok, hk, hi, hlf, hl, q1, q2, q3⟩ := h
    have hlen := Nat.le_trans (len_tot ok.kd hk) hl
    have hm := List.mem_of_getElem? hi
    have hlt := (List.getElem?_eq_some_iff.mp hi).1
    have okt := ok.tok k hk t hm
    refine ⟨_, PSs.nox (pss_cons (ps_set (i := 4) sc_Net_bring.nd rfl (.inl rfl) (pe_calM c_Thing_read_packet hr (pe_calM c_Net_thing (hr.mono (by decide)) (pv 0) (pa_cons (pv 1) (pa_cons (pv 2) (pa_cons (pv 3) pa_nil)))) (pa_cons (pe_fld (pv 0) rfl) pa_nil)))
    (pss_cons (ps_expr (pe_bm PySem.F.plainAttrs_list PySem.F.slot_list_pop PySem.F.type_list_pop mt_popAt (pe_calM c_Net_road (hr.mono (by decide)) (pv 0) (pa_cons (pv 1) (pa_cons (pv 2) pa_nil))) (pa_cons (pv 3) pa_nil)))
    (pss_cons (ps_if (PW.pt (pw_or (pt_cmpR op_isN (pv 4) pe_non (nomark _)) (pw_or1 (pt_cmpR op_eq (pe_fld (pv 4) rfl) (pv 2) (nomark _))))) (pss_one (ps_ret (pv 4))) pss_nil)
    (pss_cons (ps_if (pt_cmpR op_gt (pe_fld (pv 4) rfl) pe_int (nomark _)) (pss_cons (ps_asg (pe_calM0 c_Packet_told (hr.mono (by decide)) (pv 4)) (pg_tup rfl (pgs_cons (pg_name (i := 5) sc_Net_bring.nd rfl (.inl rfl)) (pgs_cons (pg_name (i := 6) sc_Net_bring.nd rfl (.inl rfl)) (pgs_cons (pg_name (i := 7) sc_Net_bring.nd rfl (.inl rfl)) (pgs_cons (pg_name (i := 8) sc_Net_bring.nd rfl (.inl rfl)) (pgs_cons (pg_name (i := 9) sc_Net_bring.nd rfl (.inl rfl)) (pgs_cons (pg_name (i := 10) sc_Net_bring.nd rfl (.inl rfl)) (pgs_cons (pg_name (i := 11) sc_Net_bring.nd rfl (.inl rfl)) (pgs_cons (pg_name (i := 12) sc_Net_bring.nd rfl (.inl rfl)) pgs_nil))))))))))
    (pss_one (ps_expr (pe_calM c_Net_put (hr.mono (by decide)) (pv 0) (pa_cons (pv 2) (pa_cons (pe_calN c_Packet_init (hr.mono (by decide)) (pa_cons (pv 5) (pa_cons (pv 6) (pa_cons (pv 7) (pa_cons (pe_op op_sub (pv 8) pe_int) (pa_cons (pv 9) (pa_cons (pv 10) (pa_cons (pv 11) (pa_cons (pv 12) pa_nil))))))))) pa_nil)))))) pss_nil)
    (pss_one (ps_ret pe_non)))))), ?_⟩
    refine ⟨_, rfl, n.p, n.dx, _, rfl, hn.obj, ntl_m nSt nSt nSt nSt, _, rfl, _, rfl, _, rfl, n, k, i, t, rfl, hn, ok, hk, hi, hlen, fun H1 e1 => ?_⟩
    have hn1 := hn.ex e1
    have ht1 := hn1.th k hk t hm
    refine ⟨t.at_, t.dx, _, rfl, ht1.obj, thl_m nSt nSt nSt, _, rfl, _, _, _, _, _, rfl, hn1.obj, T.cl_Net, T.na_Net_code, ntl_code, t, rfl, ht1, okt, fun hne => ?_, fun hz => ?_⟩
    · intro H2 e2
      have hn2 := hn1.ex e2
      refine ⟨_, rfl, n.p, n.dx, _, rfl, hn2.obj, ntl_m nSt nSt nSt nSt, _, rfl, _, rfl, n, k, rfl, hn2, ok, hk, fun H3 e3 => ?_⟩
      have hn3 := hn2.ex e3
      have hls := hn3.lst k hk
      have hst : Stp (own n) H (own (n.setT k ((n.T k).eraseIdx i))) (upd H3 (n.L k) (.lst (tref ((n.T k).eraseIdx i)))) := stp_set ((e1.trans e2).trans e3) hk fun x hx => .inl (.inr ⟨k, hk, .inr ⟨x, (List.eraseIdx_sublist _ _).subset hx, rfl⟩⟩)
      have fin := hn3.set ok hk (ts := (n.T k).eraseIdx i) fun x hx => hn3.th k hk x ((List.eraseIdx_sublist _ _).subset hx)
      refine ⟨.inl ⟨rfl, _, SqL.of hls⟩, _, rfl, n.L k, _, (i : Int), i, _, rfl, rfl, hls, by omega, by omega, ?_, tref_get hi, ?_⟩
      · rw [tref_len]
        exact PySem.seqIndex_of (by omega) (by omega)
      · rw [tref_erase]
        exact ⟨_, rfl, rfl, _, rfl, iteT (iteT ⟨_, rfl, q1 hne _ _ rfl fin (ok.erase hk i) hst⟩)⟩
    · intro x H2 e2 nx hx
      have hn2 := hn1.ex e2
      refine ⟨_, rfl, n.p, n.dx, _, rfl, hn2.obj, ntl_m nSt nSt nSt nSt, _, rfl, _, rfl, n, k, rfl, hn2, ok, hk, fun H3 e3 => ?_⟩
      have hn3 := hn2.ex e3
      have hls := hn3.lst k hk
      have hst : Stp (own n) H (own (n.setT k ((n.T k).eraseIdx i))) (upd H3 (n.L k) (.lst (tref ((n.T k).eraseIdx i)))) := stp_set ((e1.trans e2).trans e3) hk fun x hx => .inl (.inr ⟨k, hk, .inr ⟨x, (List.eraseIdx_sublist _ _).subset hx, rfl⟩⟩)
      have fin := hn3.set ok hk (ts := (n.T k).eraseIdx i) fun x hx => hn3.th k hk x ((List.eraseIdx_sublist _ _).subset hx)
      have hok := ok.erase hk i
      have hpk : PkR K (upd H3 (n.L k) (.lst (tref ((n.T k).eraseIdx i)))) x t.fl := by
        obtain ⟨pdx, d, h1, h2⟩ := hx.ex e3
        exact ⟨pdx, d, by rw [upd_ne (ne_of h1 hls (fun z => nomatch z))]; exact h1, by rw [upd_ne (ne_of h2 hls (fun z => nomatch z))]; exact h2⟩
      refine ⟨.inl ⟨rfl, _, SqL.of hls⟩, _, rfl, n.L k, _, (i : Int), i, _, rfl, rfl, hls, by omega, by omega, ?_, tref_get hi, ?_⟩
      · rw [tref_len]
        exact PySem.seqIndex_of (by omega) (by omega)
      rw [tref_erase]
      generalize upd H3 (n.L k) (.lst (tref ((n.T k).eraseIdx i))) = H4 at hst fin hpk
      have nx0 : H x = none := fresh_back e1 nx
      have hpk' := hpk
      obtain ⟨pdx, d, hpo, hpd⟩ := hpk
      refine ⟨_, rfl, rfl, _, rfl, iteF ⟨_, rfl, _, _, _, _, _, rfl, hpo, T.cl_Packet, T.na_Packet_target, pkl_target, _, rfl, rfl, _, rfl, ?_⟩⟩
      by_cases ht : t.fl.tgt = k.2
      · have e0 : decide (V.int t.fl.tgt = V.int k.2) = true := decide_eq_true (by rw [ht])
        rw [e0]
        exact iteT ⟨_, rfl, q2 hz ht x _ _ rfl hpk' nx0 fin hok hst⟩
      · have e0 : decide (V.int t.fl.tgt = V.int k.2) = false := decide_eq_false fun z => ht (by injection z)
        rw [e0]
        refine iteF ⟨_, rfl, _, _, _, _, _, rfl, hpo, T.cl_Packet, T.na_Packet_life, pkl_life, _, _, rfl, rfl, _, rfl, ?_⟩
        rw [decide_eq_true (show (0 : Int) < t.fl.life by omega)]
        refine iteT ⟨_, rfl, x, pdx, _, rfl, hpo, pkl_told, x, t.fl, rfl, hpk', fun p H5 e5 hp => ?_⟩
        obtain ⟨d5, hp1, hp2⟩ := hp
        refine ⟨p, _, rfl, SqT.of hp1, rfl, _, _, rfl, _, _, rfl, _, _, rfl, _, _, rfl, _, _, rfl, _, _, rfl, _, _, rfl, _, _, rfl, rfl, ?_⟩
        have okf : FlOk { t.fl with life := t.fl.life - 1 } := by
          have o := okt.fl
          have ol := o.life
          exact ⟨o.src, o.tgt, o.kind, ⟨by show (0 : Int) ≤ t.fl.life - 1; omega, by have := ol.2; show t.fl.life - 1 ≤ 255; omega⟩, o.name0, o.name1, o.first, o.more, o.data, o.len⟩
        refine ⟨_, rfl, n.p, n.dx, _, rfl, (fin.ex e5).obj, ntl_m nSt nSt nSt nSt, _, rfl, _, rfl, _, rfl, _, rfl, _, rfl, _, _, rfl, rfl, _, rfl, _, rfl, _, rfl, _, rfl, fun z dz nz ndz nez => ⟨z, dz, d5, { t.fl with life := t.fl.life - 1 }, rfl, upd_same, ?_, okf, fun H7 k7 hz7 => ⟨rfl, ?_⟩⟩⟩
        · rw [upd_ne (ne_of_none hp2 nz), upd_ne (ne_of_none hp2 ndz)]
          exact hp2
        have e7 := made_ex nz ndz k7
        have htot := tot_set ok.kd hk ((n.T k).eraseIdx i)
        rw [List.length_eraseIdx, if_pos hlt] at htot
        refine ⟨n.setT k ((n.T k).eraseIdx i), k.2, z, { t.fl with life := t.fl.life - 1 }, rfl, (fin.ex e5).ex e7, hok, (ok.kin k hk).2, ⟨dz, d5, hz7, e7 _ _ hp2⟩, okf, by omega, fun H8 n' hput hn8 ok8 hs8 => q3 hz ht _ n' hput hn8 ok8 ?_⟩
        exact hst.trans ((Stp.of_ex (F := own (n.setT k ((n.T k).eraseIdx i))) (e5.trans e7)).trans hs8)
end
end K54

set_option Elab.async false
set_option linter.all false
set_option maxRecDepth 100000
set_option maxHeartbeats 4000000
/-! Nets: age. -/
namespace K54
open PySem PySem.Spec PyProof.Rows L2 Evl
def agedL (ts : List Th) (j : Nat) : List Th := (ts.take j).map older ++ ts.drop j
theorem agedL_0 (ts : List Th) : agedL ts 0 = ts := by simp [agedL]
theorem agedL_full (ts : List Th) : agedL ts ts.length = ts.map older := by simp [agedL]
theorem agedL_get {ts : List Th} {j : Nat} {t : Th} (h : ts[j]? = some t) : (agedL ts j)[j]? = some t := by
  have hl := (List.getElem?_eq_some_iff.mp h).1
  have e : ((ts.take j).map older).length = j := by rw [List.length_map, List.length_take]; omega
  unfold agedL
  rw [List.getElem?_append_right (by omega), e, Nat.sub_self, List.getElem?_drop, Nat.add_zero]
  exact h
theorem agedL_set {ts : List Th} {j : Nat} {t : Th} (h : ts[j]? = some t) : (agedL ts j).set j (older t) = agedL ts (j + 1) := by
  have hl := (List.getElem?_eq_some_iff.mp h).1
  have e : ((ts.take j).map older).length = j := by rw [List.length_map, List.length_take]; omega
  unfold agedL
  rw [List.set_append_right _ _ (by omega), e, Nat.sub_self, take_succ' h, List.map_append, List.append_assoc]
  congr 1
  have : ts.drop j = t :: ts.drop (j + 1) := by
    rw [List.drop_eq_getElem_cons hl]
    congr 1
    exact (List.getElem?_eq_some_iff.mp h).2
  rw [this]
  rfl
theorem agedL_at (ts : List Th) (j : Nat) : (agedL ts j).map (·.at_) = ts.map (·.at_) := by
  unfold agedL
  rw [List.map_append, List.map_map]
  show (ts.take j).map (·.at_) ++ _ = _
  rw [← List.map_append, List.take_append_drop]
theorem tref_at {ts us : List Th} (h : ts.map (·.at_) = us.map (·.at_)) : tref ts = tref us := by
  have e : ∀ xs : List Th, tref xs = (xs.map (·.at_)).map V.ref := fun xs => by rw [List.map_map]; rfl
  rw [e, e, h]
theorem NetOk.sub {n : NG} (h : NetOk n) {k : Int × Int} (hk : k ∈ n.keys) {ts : List Th} (hs : ts.Sublist (n.T k)) : NetOk (n.setT k ts) :=
  h.set hk ((hs.map _).nodup (h.tnd k hk)) (fun t ht k' hk' ne t' ht' e => ne (h.tdj k' hk' k hk t' ht' t (hs.subset ht) e.symm)) fun t ht => h.tok k hk t (hs.subset ht)
def NG.setL (n : NG) (k : Int × Int) (l : Addr) (ts : List Th) : NG := { n.setT k ts with L := updL n.L k l }
theorem updL_same {L : Int × Int → Addr} {k : Int × Int} {a : Addr} : updL L k a k = a := if_pos rfl
theorem updL_ne {L : Int × Int → Addr} {k k' : Int × Int} {a : Addr} (h : k' ≠ k) : updL L k a k' = L k' := if_neg h
theorem NetOk.setL {n : NG} (h : NetOk n) {k : Int × Int} (hk : k ∈ n.keys) {ts : List Th} (hs : ts.Sublist (n.T k)) {l : Addr} (no : ∀ k' ∈ n.keys, n.L k' ≠ l) : NetOk (n.setL k l ts) := by
  have o := h.sub hk hs
  refine ⟨o.tv, o.old, o.kd, o.kl, o.kin, o.knx, fun k1 h1 k2 h2 e => ?_, o.tnd, o.tdj, o.tok⟩
  have e : updL n.L k l k1 = updL n.L k l k2 := e
  by_cases e1 : k1 = k
  · by_cases e2 : k2 = k
    · rw [e1, e2]
    · rw [e1, updL_same, updL_ne e2] at e
      exact absurd e.symm (no k2 h2)
  · by_cases e2 : k2 = k
    · rw [e2, updL_same, updL_ne e1] at e
      exact absurd e (no k1 h1)
    · rw [updL_ne e1, updL_ne e2] at e
      exact h.Linj k1 h1 k2 h2 e
section
variable {K : PySem.W.Frag} {H : Hp} {n : NG} {k : Int × Int}
theorem NetR.setL (h : NetR K H n) (hk : k ∈ n.keys) {l : Addr} {ts : List Th} (hl : H l = some (.lst (tref ts))) (ht : ∀ t ∈ ts, ThR K H t) :
    NetR K (upd H n.D (.dT (rK n.keys (updL n.L k l)))) (n.setL k l ts) := by
  have hd := h.dict
  have th' : ∀ t, ThR K H t → ThR K (upd H n.D (.dT (rK n.keys (updL n.L k l)))) t := fun t r =>
    ⟨by rw [upd_ne (ne_of r.obj hd (fun z => nomatch z))]; exact r.obj, by rw [upd_ne (ne_of r.row hd (fun z => nomatch z))]; exact r.row, by rw [upd_ne (ne_of r.pl hd (fun z => nomatch z))]; exact r.pl⟩
  refine ⟨by rw [show (n.setL k l ts).p = n.p from rfl, upd_ne (ne_of h.obj hd (fun z => nomatch z))]; exact h.obj, ?_, upd_same, fun k' hk' => ?_, fun k' hk' t hm => ?_⟩
  · refine TabR.stp (F1 := own n) h h.ways fun a o ha no => ?_
    rw [upd_ne (fun e => no (.inl e))]
    exact ha
  · show upd H n.D _ (updL n.L k l k') = _
    by_cases e : k' = k
    · rw [e, updL_same, upd_ne (ne_of hl hd (fun z => nomatch z))]
      show _ = some (HO.lst (tref ((n.setT k ts).T k)))
      rw [setT_same]
      exact hl
    · rw [updL_ne e, upd_ne (ne_of (h.lst k' hk') hd (fun z => nomatch z))]
      show _ = some (HO.lst (tref ((n.setT k ts).T k')))
      rw [setT_ne e]
      exact h.lst k' hk'
  · have hm : t ∈ (n.setT k ts).T k' := hm
    by_cases e : k' = k
    · rw [e, setT_same] at hm
      exact th' t (ht t hm)
    · rw [setT_ne e] at hm
      exact th' t (h.th k' hk' t hm)
theorem NetR.updl (h : NetR K H n) {l : Addr} {xs ys : List V} (hl : H l = some (.lst xs)) (no : ¬ own n l) : NetR K (upd H l (.lst ys)) n := by
  refine ⟨by rw [upd_ne (ne_of h.obj hl (fun z => nomatch z))]; exact h.obj, ?_, by rw [upd_ne (ne_of h.dict hl (fun z => nomatch z))]; exact h.dict, fun k' hk' => ?_, fun k' hk' t hm => ?_⟩
  · obtain ⟨tb, e, hd, hi⟩ := h.ways
    have rd : ∀ (a : Addr) (kvs : List (Key × V)), Rd H a (.dK kvs) → Rd (upd H l (.lst ys)) a (.dK kvs) := fun a kvs r => by
      rcases r with r | ⟨o, r⟩
      · exact .inl (by rw [upd_ne (ne_of r hl (fun z => nomatch z))]; exact r)
      · exact .inr ⟨o, by rw [upd_ne (ne_of r hl (fun z => nomatch z))]; exact r⟩
    exact ⟨tb, e, rd _ _ hd, fun t ht => rd _ _ (hi t ht)⟩
  · rw [upd_ne (fun z => no (.inr ⟨k', hk', .inl z.symm⟩))]
    exact h.lst k' hk'
  · have r := h.th k' hk' t hm
    exact ⟨by rw [upd_ne (ne_of r.obj hl (fun z => nomatch z))]; exact r.obj, by rw [upd_ne (ne_of r.row hl (fun z => nomatch z))]; exact r.row, by rw [upd_ne (ne_of r.pl hl (fun z => nomatch z))]; exact r.pl⟩
theorem own_setL (hk : k ∈ n.keys) {l : Addr} {ts : List Th} (hs : ts.Sublist (n.T k)) {a : Addr} (h : own (n.setL k l ts) a) : own n a ∨ a = l := by
  rcases h with e | ⟨k', hk', e | ⟨t, ht, e⟩⟩
  · exact .inl (.inl e)
  · have e : a = updL n.L k l k' := e
    by_cases q : k' = k
    · rw [q, updL_same] at e
      exact .inr e
    · rw [updL_ne q] at e
      exact .inl (.inr ⟨k', hk', .inl e⟩)
  · have ht : t ∈ (n.setT k ts).T k' := ht
    by_cases q : k' = k
    · rw [q, setT_same] at ht
      exact .inl (.inr ⟨k, hk, .inr ⟨t, hs.subset ht, e⟩⟩)
    · rw [setT_ne q] at ht
      exact .inl (.inr ⟨k', hk', .inr ⟨t, ht, e⟩⟩)
theorem own_aged {j : Nat} {a : Addr} (hk : k ∈ n.keys) (h : own (n.setT k (agedL (n.T k) j)) a) : own n a := by
  rcases own_set hk h with q | ⟨t, ht, e⟩
  · exact q
  · have : a ∈ (n.T k).map (·.at_) := by
      rw [← agedL_at (n.T k) j, e]
      exact List.mem_map_of_mem ht
    obtain ⟨u, hu, eu⟩ := List.mem_map.mp this
    exact .inr ⟨k, hk, .inr ⟨u, hu, eu.symm⟩⟩
end
theorem paired_keys2 {H : Hp} {L : Int × Int → Addr} : ∀ {keys : List (Int × Int)} {bs : List Addr}, IsKeys H (rK keys L) bs → ∀ (i : Nat) (b : Addr), bs[i]? = some b → ∃ k : Int × Int, keys[i]? = some k ∧ H b = some (.tup [.int k.1, .int k.2])
  | [], bs, h, i, b, hb => by cases h; cases hb
  | k :: r, bs, h, i, b, hb => by
    cases h with
    | cons h1 h2 =>
      cases i with
      | zero => exact ⟨k, rfl, by rw [← (Option.some.inj hb)]; exact h1⟩
      | succ i => exact paired_keys2 h2 i b hb
theorem isKeys_len {H : Hp} {keys : List (Int × Int)} {L : Int × Int → Addr} {bs : List Addr} (h : IsKeys H (rK keys L) bs) : bs.length = keys.length := by
  have := Paired.length h
  rw [rK_len] at this
  exact this.symm
def ageF (o : Int) (ts : List Th) : List Th := (ts.map older).filter fun t => decide (t.years ≤ o)
structure AgeI (n n' : NG) (i : Nat) : Prop where
  p : n'.p = n.p
  dx : n'.dx = n.dx
  W : n'.W = n.W
  D : n'.D = n.D
  tv : n'.tv = n.tv
  oldest : n'.oldest = n.oldest
  keys : n'.keys = n.keys
  T : ∀ j k, n.keys[j]? = some k → n'.T k = if j < i then ageF n.oldest (n.T k) else n.T k
theorem AgeI.fin {n n' : NG} (h : AgeI n n' n.keys.length) : AgeS n n' := ⟨h.p, h.dx, h.W, h.D, h.tv, h.oldest, h.keys, fun k hk => by
  obtain ⟨j, hj⟩ := List.getElem?_of_mem hk
  rw [h.T j k hj, if_pos (List.getElem?_eq_some_iff.mp hj).1]
  rfl⟩
theorem AgeI.step {n n' : NG} {i : Nat} {k : Int × Int} {l : Addr} (h : AgeI n n' i) (hn : n.keys.Nodup) (hk : n.keys[i]? = some k) : AgeI n (n'.setL k l (ageF n.oldest (n.T k))) (i + 1) :=
  ⟨h.p, h.dx, h.W, h.D, h.tv, h.oldest, h.keys, fun j k' hj => by
    show (n'.setT k (ageF n.oldest (n.T k))).T k' = _
    by_cases e : k' = k
    · rw [e, setT_same]
      have : j = i := nd_ix hn (by rw [hj, e]) hk
      rw [if_pos (by omega)]
    · rw [setT_ne e, h.T j k' hj]
      have : j ≠ i := fun z => e (by rw [z, hk] at hj; exact (Option.some.inj hj).symm)
      by_cases q : j < i
      · rw [if_pos q, if_pos (by omega)]
      · rw [if_neg q, if_neg (by omega)]⟩
section
variable {P : Program} {w : World} {K : PySem.W.Frag} {mg : Str → Option Value} {base : Heap}
theorem cal_Net_age (T : TX K mg) : MCal P w K mg base "Net" "age" 1 (sp_Net_age K) := by
  obtain ⟨fd, F⟩ := T.df_Net_age
  have hb : Binds K fd ["self"] [] := F.bindsN fun _ _ _ _ _ _ us hl => match us, hl with | [_], _ => rfl
  refine MCal.mk2 T.cl_Net T.m_Net_age hb (F.ok (CX := CX0) (k := 0) sc_Net_age (fun vs H Q E h => ?_) (fun cdv A outer s H vs Q E hr h => ?_))
  · obtain ⟨_, rfl, _⟩ := h
    rfl
  · obtain ⟨n, rfl, hn, ok, hl, q⟩ := h
    refine ⟨_, PSs.nox (pss_one (ps_for PassesOwn.never rfl (pi_list (pe_callTy (call_list_dT rfl) (by rfl) T.f_list bt_list (pa_cons (pe_fld (pv 0) rfl) pa_nil))) (pg_name (i := 1) sc_Net_age.nd rfl (.inl rfl)) (pss_cons (ps_set (i := 2) sc_Net_age.nd rfl (.inl rfl) (pe_lst pa_nil))
    (pss_cons (ps_for PassesOwn.never rfl (pi_list (pe_dget (hu_of hr) (pe_fld (pv 0) rfl) (pv 1) (fun _ _ => rfl))) (pg_name (i := 3) sc_Net_age.nd rfl (.inl rfl)) (pss_cons (ps_fldaug (pv 3) pe_int in_add)
    (pss_one (ps_if (pt_cmpR op_le (pe_fld (pv 3) rfl) (pe_fld (pv 0) rfl) (nomark _)) (pss_one (ps_expr (pe_bm PySem.F.plainAttrs_list PySem.F.slot_list_append PySem.F.type_list_append mt_append (pv 2) (pa_cons (pv 3) pa_nil)))) pss_nil))))
    (pss_one (ps_dput (hu_of hr) (pe_fld (pv 0) rfl) (pv 1) (pv 2) rfl)))))), ?_⟩
    refine ⟨_, rfl, _, _, _, _, _, rfl, hn.obj, T.cl_Net, T.na_Net_roads, ntl_roads, n.D, _, rfl, .inl hn.dict, fun p bs hp hbs => ⟨p, rfl, ⟨_, SqL.of upd_same⟩, ?_⟩⟩
    have e1 := Ex.new (o := .lst (bs.map V.ref)) hp
    have hbl := isKeys_len hbs
    have nop : ¬ own n p := fun o => by rcases hn.kind o with ⟨_, z⟩ | ⟨_, z⟩ | ⟨_, _, z⟩ <;> rw [hp] at z <;> cases z
    refine for_list (K := K) (a := p) (xs := bs.map V.ref) (fun i σ H' => ∃ n', AgeI n n' i ∧ NetR K H' n' ∧ NetOk n' ∧ Stp (own n) (upd H p (.lst (bs.map V.ref))) (own n') H' ∧ ∃ v1 v2 v3, σ = [some (.ref n.p), v1, v2, v3])
      ⟨n, ⟨rfl, rfl, rfl, rfl, rfl, rfl, rfl, fun j k hj => by rw [if_neg (by omega)]⟩, hn.ex e1, ok, Stp.refl, none, none, none, rfl⟩ (fun i σ H' _ hh => ?_) ?_ ?_
    · obtain ⟨n', _, _, _, hs, _⟩ := hh
      exact SqL.of (hs.keep upd_same nop)
    · rintro i x σ H' hx ⟨n', hA, hn', ok', hs, v1, v2, v3, rfl⟩
      obtain ⟨b, hb, rfl⟩ : ∃ b, bs[i]? = some b ∧ x = .ref b := by
        rw [List.getElem?_map] at hx
        cases e : bs[i]? with
        | none => rw [e] at hx; cases hx
        | some b => rw [e] at hx; exact ⟨b, rfl, (Option.some.inj hx).symm⟩
      obtain ⟨k, hki, hkb⟩ := paired_keys2 hbs i b hb
      have hkn : k ∈ n.keys := List.mem_of_getElem? hki
      have hk : k ∈ n'.keys := by rw [hA.keys]; exact hkn
      have hTk : n'.T k = n.T k := by rw [hA.T i k hki, if_neg (by omega)]
      have hlen := Nat.le_trans (len_tot ok.kd hkn) hl
      have hb' := hs.keep (e1 _ _ hkb) (hn.no_tup hkb)
      refine ⟨Nat.zero_le _, fun l hll => ?_⟩
      have e2 := Ex.new (o := .lst []) hll
      have hn2 := hn'.ex e2
      have hp' : n.p = n'.p := hA.p.symm
      have nol : ∀ a, own n' a → a ≠ l := fun a o z => by rw [z] at o; rcases hn'.kind o with ⟨_, z⟩ | ⟨_, z⟩ | ⟨_, _, z⟩ <;> rw [hll] at z <;> cases z
      refine ⟨_, rfl, _, _, _, _, _, congrArg V.ref hp', hn2.obj, T.cl_Net, T.na_Net_roads, ntl_roads, _, rfl, n'.D, _, rfl, hn2.dget hk (e2 _ _ hb'), n'.L k, rfl, ⟨_, SqL.of (hn2.lst k hk)⟩, ?_⟩
      refine for_list (K := K) (a := n'.L k) (xs := tref (n'.T k)) (fun j σ H'' => NetR K H'' (n'.setT k (agedL (n'.T k) j)) ∧ NetOk (n'.setT k (agedL (n'.T k) j)) ∧ (∀ a o, H' a = some o → ¬ own n' a → H'' a = some o) ∧ H'' l = some (.lst (tref (ageF n.oldest ((n'.T k).take j)))) ∧ ∃ v3, σ = [some (.ref n.p), some (.ref b), some (.ref l), v3])
        ?_ (fun j σ H'' _ hh => ?_) ?_ ?_
      · have z : n'.setT k (agedL (n'.T k) 0) = n' := by
          rw [agedL_0]
          unfold NG.setT
          cases n'
          congr 1
          funext k'
          show (if k' = k then _ else _) = _
          split
          · rename_i e; rw [e]
          · rfl
        rw [z]
        exact ⟨hn2, ok', fun a o ha _ => e2 a o ha, upd_same, v3, rfl⟩
      · obtain ⟨h1, _⟩ := hh
        have := h1.lst k hk
        rw [setT_same, tref_at (agedL_at _ _)] at this
        exact SqL.of this
      · rintro j x σ H'' hx ⟨h1, h2, h3, h4, v3, rfl⟩
        obtain ⟨t, ht, rfl⟩ : ∃ t, (n'.T k)[j]? = some t ∧ x = .ref t.at_ := by
          unfold tref at hx
          rw [List.getElem?_map] at hx
          cases e : (n'.T k)[j]? with
          | none => rw [e] at hx; cases hx
          | some t => rw [e] at hx; exact ⟨t, rfl, (Option.some.inj hx).symm⟩
        have hj := (List.getElem?_eq_some_iff.mp ht).1
        have hg : ((n'.setT k (agedL (n'.T k) j)).T k)[j]? = some t := by rw [setT_same]; exact agedL_get ht
        have hr := h1.th k hk t (List.mem_of_getElem? hg)
        have g1 := h1.turned h2 hk hg (u := older t) rfl rfl hr.row hr.pl
        have g2 := h2.turned hk hg (u := older t) rfl (by have o := h2.tok k hk t (List.mem_of_getElem? hg); exact ⟨o.fl, o.le, o.nd, o.lt⟩)
        rw [setT_setT, setT_same, agedL_set ht] at g1 g2
        have fy : putF "years" (V.int (t.years + 1)) (thF t.row t.pl t.years) = thF t.row t.pl (t.years + 1) := thF_years _
        have own_t : own n' t.at_ := .inr ⟨k, hk, .inr ⟨t, List.mem_of_getElem? ht, rfl⟩⟩
        refine ⟨_, rfl, _, _, _, _, _, rfl, hr.obj, T.cl_Thing, T.na_Thing_years, thl_years, _, _, rfl, rfl, _, _, hr.obj, thF_len, ?_⟩
        rw [fy]
        have g1' : NetR K (upd H'' t.at_ (.ins (He.ga K "Thing") t.dx (thF t.row t.pl (t.years + 1)))) (n'.setT k (agedL (n'.T k) (j + 1))) := g1
        have h4' : (upd H'' t.at_ (.ins (He.ga K "Thing") t.dx (thF t.row t.pl (t.years + 1)))) l = some (.lst (tref (ageF n.oldest ((n'.T k).take j)))) := by
          rw [upd_ne (fun z => nol _ own_t z.symm)]
          exact h4
        have h3' : ∀ a o, H' a = some o → ¬ own n' a → (upd H'' t.at_ (.ins (He.ga K "Thing") t.dx (thF t.row t.pl (t.years + 1)))) a = some o := fun a o ha no => by
          rw [upd_ne (show a ≠ t.at_ from fun z => no (by rw [z]; exact own_t))]
          exact h3 a o ha no
        have f1 : ageF n.oldest ((n'.T k).take (j + 1)) = ageF n.oldest ((n'.T k).take j) ++ (if t.years + 1 ≤ n.oldest then [older t] else []) := by
          rw [take_succ' ht]
          unfold ageF
          rw [List.map_append, List.filter_append]
          congr 1
          show List.filter _ [older t] = _
          by_cases z : t.years + 1 ≤ n.oldest
          · rw [if_pos z]
            exact List.filter_cons_of_pos (p := fun t : Th => decide (t.years ≤ n.oldest)) (a := older t) (decide_eq_true z)
          · rw [if_neg z]
            exact List.filter_cons_of_neg (p := fun t : Th => decide (t.years ≤ n.oldest)) (a := older t) (by show ¬ decide (t.years + 1 ≤ n.oldest) = true; rw [decide_eq_false z]; exact fun z => nomatch z)
        refine ⟨_, rfl, _, _, _, _, _, rfl, upd_same, T.cl_Thing, T.na_Thing_years, thl_years, _, rfl, _, _, _, _, _, congrArg V.ref hp', g1'.obj, T.cl_Net, T.na_Net_oldest, ntl_oldest, _, _, rfl, rfl, _, rfl, ?_⟩
        have ho : (n'.setT k (agedL (n'.T k) (j + 1))).oldest = n.oldest := hA.oldest
        rw [ho]
        by_cases hy : t.years + 1 ≤ n.oldest
        · rw [decide_eq_true hy]
          rw [if_pos hy] at f1
          refine iteT ⟨_, rfl, .inl ⟨rfl, _, SqL.of h4'⟩, _, rfl, l, _, _, rfl, rfl, h4', ?_, ?_⟩
          · rw [tref_len]
            have z : (ageF n.oldest ((n'.T k).take j)).length ≤ (((n'.T k).take j).map older).length := List.length_filter_le _ _
            rw [List.length_map, List.length_take] at z
            have z2 : (n'.T k).length = (n.T k).length := by rw [hTk]
            exact szlt (by omega)
          · refine ⟨g1'.updl h4' fun o => nol l (own_aged hk o) rfl, g2, fun a o ha no => ?_, ?_, _, rfl⟩
            · rw [upd_ne (ne_of_none ha hll)]
              exact h3' a o ha no
            · rw [upd_same, f1, tref_app]
              rfl
        · rw [decide_eq_false hy]
          rw [if_neg hy, List.append_nil] at f1
          refine iteF ⟨g1', g2, h3', by rw [f1]; exact h4', _, rfl⟩
      · rintro σ H'' ⟨h1, h2, h3, h4, v3, rfl⟩
        rw [tref_len, agedL_full] at h1 h2
        rw [tref_len, List.take_length, hTk] at h4
        have hsub : (ageF n.oldest (n.T k)).Sublist ((n'.setT k ((n'.T k).map older)).T k) := by
          rw [setT_same, hTk]
          exact List.filter_sublist ..
        have e5 : (n'.setT k ((n'.T k).map older)).setL k l (ageF n.oldest (n.T k)) = n'.setL k l (ageF n.oldest (n.T k)) := by
          show ({ (n'.setT k ((n'.T k).map older)).setT k (ageF n.oldest (n.T k)) with L := updL n'.L k l } : NG) = _
          rw [setT_setT]
          rfl
        have oa : ∀ a, own (n'.setT k ((n'.T k).map older)) a → own n' a := fun a o => own_aged (j := (n'.T k).length) hk (by rw [agedL_full]; exact o)
        have g1 := h1.setL hk h4 fun t ht => h1.th k hk t (hsub.subset ht)
        have g2 := h2.setL hk hsub (l := l) fun k' hk' z => nol _ (.inr ⟨k', hk', .inl rfl⟩) z
        rw [e5] at g1 g2
        have h1o := h1.obj
        refine ⟨_, rfl, _, rfl, _, _, _, _, _, congrArg V.ref hp', h1o, T.cl_Net, T.na_Net_roads, ntl_roads, _, rfl, n'.D, _, rfl, DPut.t (k := kk k) h1.dict (h3 _ _ hb' (hn'.no_tup hb')) ?_, ?_⟩
        · rw [rK_len]
          exact szlt (by have := h2.kl; omega)
        · refine ⟨_, hA.step ok.kd hki, ?_, g2, hs.trans ⟨fun a o ha no => ?_, fun a ha => ?_⟩, _, _, _, rfl⟩
          · have pk := putK_in (L := n'.L) (a := l) hk
            show NetR K (upd H'' n'.D (.dT (putK (rK n'.keys n'.L) (kk k) (.ref l)))) _
            rw [pk]
            exact g1
          · rw [upd_ne (fun z => no (.inl z))]
            exact h3 a o ha no
          · rw [← e5] at ha
            rcases own_setL (n := n'.setT k ((n'.T k).map older)) hk hsub ha with z | z
            · exact .inl (oa a z)
            · rw [z]
              exact .inr hll
    · rintro σ H' ⟨n', hA, hn', ok', hs, v1, v2, v3, rfl⟩
      rw [List.length_map, hbl] at hA
      exact q H' n' hA.fin hn' ok' ((Stp.of_ex e1).trans hs)
end
end K54

set_option Elab.async false
set_option linter.all false
set_option maxRecDepth 100000
set_option maxHeartbeats 4000000
/-! Nets: lying, init. -/
namespace K54
open PySem PySem.Spec PyProof.Rows L2 Evl
theorem perm_map {α β : Type} {f : α → β} {ys zs : List β} (h : ys.Perm zs) : ∀ xs : List α, zs = xs.map f → ∃ xs' : List α, xs'.Perm xs ∧ ys = xs'.map f := by
  induction h with
  | nil => intro xs e; cases xs with | nil => exact ⟨[], .nil, rfl⟩ | cons _ _ => cases e
  | cons x p ih =>
    intro xs e
    cases xs with
    | nil => cases e
    | cons a r =>
      injection e with e1 e2
      obtain ⟨r', h1, h2⟩ := ih r e2
      exact ⟨a :: r', .cons a h1, by rw [h2, e1]; rfl⟩
  | swap x y l =>
    intro xs e
    cases xs with
    | nil => cases e
    | cons a r =>
      cases r with
      | nil => injection e with e1 e2; cases e2
      | cons b r =>
        injection e with e1 e2
        injection e2 with e2 e3
        exact ⟨b :: a :: r, .swap a b r, by rw [e1, e2, e3]; rfl⟩
  | trans p1 p2 ih1 ih2 =>
    intro xs e
    obtain ⟨x2, h1, h2⟩ := ih2 xs e
    obtain ⟨x1, h3, h4⟩ := ih1 x2 h2
    exact ⟨x1, h3.trans h1, h4⟩
theorem paired_zip {α β : Type} {R : α → β → Prop} : ∀ zs : List (α × β), (∀ z ∈ zs, R z.1 z.2) → Paired R (zs.map (·.1)) (zs.map (·.2))
  | [], _ => .nil
  | z :: r, h => .cons (h z (List.mem_cons_self ..)) (paired_zip r fun x hx => h x (List.mem_cons_of_mem _ hx))
theorem rK_get {keys : List (Int × Int)} {L : Int × Int → Addr} {i : Nat} {k' : List Key} {v : V} (h : (rK keys L)[i]? = some (k', v)) : ∃ k, keys[i]? = some k ∧ k' = kk k ∧ v = .ref (L k) := by
  unfold rK at h
  rw [List.getElem?_map] at h
  cases e : keys[i]? with
  | none => rw [e] at h; cases h
  | some k =>
    rw [e] at h
    have := Option.some.inj h
    injection this with h1 h2
    exact ⟨k, rfl, h1.symm, h2.symm⟩
section
variable {P : Program} {w : World} {K : PySem.W.Frag} {mg : Str → Option Value} {base : Heap}
theorem cal_Net_lying (T : TX K mg) : MCal P w K mg base "Net" "lying" 1 (sp_Net_lying K) := by
  obtain ⟨fd, F⟩ := T.df_Net_lying
  have hb : Binds K fd ["self"] [] := F.bindsN fun _ _ _ _ _ _ us hl => match us, hl with | [_], _ => rfl
  refine MCal.mk2 T.cl_Net T.m_Net_lying hb (F.ok (CX := CX0) (k := 0) sc_Net_lying (fun vs H Q E h => ?_) (fun cdv A outer s H vs Q E hr h => ?_))
  · obtain ⟨_, rfl, _⟩ := h
    rfl
  · obtain ⟨n, rfl, hn, ok, q⟩ := h
    refine ⟨_, PSs.nox (pss_one (ps_ret (pe_callB cr_sortedP (by rfl) T.f_sorted bt_sorted (pa_cons (pe_lock (pe_lc (own := [("road", 1)]) rfl sc_Net_lying.nd (pi_keys (pe_fldc (pv 0) rfl K)) (blkOk_by (own := [("road", 1)]) (N := sn_Net_lying) (sc := defScope s_Net_lying) (by decide +kernel)) (fun _ _ _ _ _ => pg_name (i := 1) sc_Net_lying.nd rfl (.inl rfl)) (fun _ _ _ _ _ => (pts_one (pt_cmpR (op_neNilc K hr.units0) (pe_dget (hu_of hr) (pe_fldc (pv 0) rfl K) (pv 1) (fun _ _ => rfl)) (pe_lst pa_nil) (nomark _)))) (fun _ _ _ _ _ => (pv 1)))) pa_nil)))), ?_⟩
    refine ⟨n.D, _, hn.dict, trivial, fun od => ?_⟩
    have hd := hn.dict
    have ho : (upd H n.D (.frz od (.dT (rK n.keys n.L)))) n.p = _ := (upd_ne (ne_of hn.obj hd (fun z => nomatch z))).trans hn.obj
    have hls : ∀ k ∈ n.keys, (upd H n.D (.frz od (.dT (rK n.keys n.L)))) (n.L k) = some (.lst (tref (n.T k))) := fun k hk => (upd_ne (ne_of (hn.lst k hk) hd (fun z => nomatch z))).trans (hn.lst k hk)
    refine ⟨_, rfl, _, _, _, _, _, rfl, ho, T.cl_Net, T.na_Net_roads, ntl_roads, n.D, od, rfl, .inr ⟨_, upd_same, fun D hD => lc_keysT (fun i H' => Ex (upd H n.D (.frz od (.dT (rK n.keys n.L)))) H' ∧ ∃ zs : List ((Int × Int) × Addr), H' D = some (.lst (zs.map fun z => V.ref z.2)) ∧ (∀ z ∈ zs, H' z.2 = some (.tup [.int z.1.1, .int z.1.2])) ∧ zs.map (·.1) = (n.keys.take i).filter fun k => !(tref (n.T k)).isEmpty)
      ⟨Ex.new hD, [], upd_same, (fun z hz => nomatch hz), rfl⟩ (fun i H' _ hh => hh.1 _ _ upd_same) (fun i k' v u H' hkv hu hh => ?_) (fun H' hh => ?_)⟩⟩
    · obtain ⟨e3, zs, h1, h2, h3⟩ := hh
      obtain ⟨k, hk, rfl, rfl⟩ := rK_get hkv
      have hkm := List.mem_of_getElem? hk
      refine ⟨rfl, ?_⟩
      have hg : DGet H' n.D (.ref u) (some (.ref (n.L k))) := by
        have := valV_rK n.L k n.keys
        rw [if_pos hkm] at this
        rw [← this]
        exact .inr ⟨rK n.keys n.L, kk k, u, .inr ⟨od, e3 _ _ upd_same⟩, rfl, hu, rfl⟩
      refine ⟨_, rfl, _, _, _, _, _, rfl, (e3 _ _ ho), T.cl_Net, T.na_Net_roads, ntl_roads, _, rfl, n.D, _, rfl, hg, Nat.zero_le _, fun t ht => ?_⟩
      have e4 := Ex.new (o := .lst []) ht
      have hl4 := (e3.trans e4) _ _ (hls k hkm)
      refine ⟨n.L k, t, _, rfl, rfl, SqL.of hl4, SqL.of upd_same, _, rfl, ?_⟩
      cases hz : (tref (n.T k)).isEmpty with
      | false =>
        have hu4 := e4 _ _ hu
        show ∃ y, _
        refine ⟨_, rfl, _, e4 _ _ h1, ?_, Ex.mut (e3.trans e4) hD, zs ++ [(k, u)], ?_, fun z hz' => ?_, ?_⟩
        · have z1 : (zs.map (·.1)).length ≤ n.keys.length := by
            rw [h3]
            exact Nat.le_trans (List.length_filter_le _ _) (by rw [List.length_take]; omega)
          rw [List.length_map] at z1 ⊢
          have := ok.kl
          exact szlt (by omega)
        · rw [upd_same, List.map_append]
          rfl
        · rcases List.mem_append.mp hz' with y | y
          · rw [upd_ne (ne_of (e4 _ _ (h2 z y)) (e4 _ _ h1) (fun z => nomatch z))]
            exact e4 _ _ (h2 z y)
          · have : z = (k, u) := by simpa using y
            rw [this]
            show upd _ D _ u = _
            rw [upd_ne (ne_of hu4 (e4 _ _ h1) (fun z => nomatch z))]
            exact hu4
        · rw [take_succ' hk, List.map_append, List.filter_append, h3]
          congr 1
          rw [List.filter_cons_of_pos (by rw [hz]; rfl)]
          rfl
      | true =>
        refine ⟨e3.trans e4, zs, e4 _ _ h1, fun z hz' => e4 _ _ (h2 z hz'), ?_⟩
        rw [take_succ' hk, List.filter_append, h3, List.filter_cons_of_neg (by rw [hz]; exact fun z => nomatch z)]
        simp
    · obtain ⟨e3, zs, h1, h2, h3⟩ := hh
      rw [rK_len, List.take_length] at h3
      have eU := ex_unlock hd e3
      have hf := e3 _ _ upd_same
      refine ⟨hf, D, _, rfl, SqL.of (by rw [upd_ne (ne_of h1 hf (fun z => nomatch z))]; exact h1), fun x hx => ?_, fun ys p hp np => ?_⟩
      · obtain ⟨z, hz, rfl⟩ := List.mem_map.mp hx
        exact ⟨z.2, z.1.1, z.1.2, rfl, by rw [upd_ne (ne_of (h2 z hz) hf (fun z => nomatch z))]; exact h2 z hz⟩
      · obtain ⟨zs', hp', rfl⟩ := perm_map hp zs rfl
        have eP := eU.trans (Ex.new (o := .lst (zs'.map fun z => V.ref z.2)) np)
        have hks : (zs'.map (·.1)).Perm ((n.keys).filter fun k => !(tref (n.T k)).isEmpty) := by rw [← h3]; exact hp'.map _
        refine q p (zs'.map (·.1)) (zs'.map (·.2)) _ eP (fresh_back eU np) (by rw [upd_same, List.map_map]; rfl) (paired_zip zs' fun z hz => ?_) (hks.symm.nodup (ok.kd.filter _)) fun k => ?_
        · have := h2 z (hp'.subset hz)
          rw [upd_ne (ne_of_none (by rw [upd_ne (ne_of this hf (fun z => nomatch z))]; exact this) np), upd_ne (ne_of this hf (fun z => nomatch z))]
          exact this
        · rw [hks.mem_iff, List.mem_filter]
          have : (!(tref (n.T k)).isEmpty) = true ↔ n.T k ≠ [] := by
            cases n.T k <;> simp [tref]
          rw [this]
end
end K54

set_option Elab.async false
set_option linter.all false
set_option maxRecDepth 100000
set_option maxHeartbeats 4000000
/-! Nets: init. -/
namespace K54
open PySem PySem.Spec PyProof.Rows L2 Evl
theorem valV_snoc {k k' : Key} {v : V} : ∀ {kvs : List (Key × V)}, valV kvs k = none → k' ≠ k → valV (kvs ++ [(k', v)]) k = none
  | [], _, h => by
    show valV [(k', v)] k = none
    rw [valV_neg h]
    rfl
  | (a, b) :: r, h, hk => by
    by_cases e : a = k
    · rw [valV_pos e] at h
      cases h
    · rw [valV_neg e] at h
      show valV ((a, b) :: (r ++ [(k', v)])) k = none
      rw [valV_neg e]
      exact valV_snoc h hk
theorem mergeK_app : ∀ (more acc : List (Key × V)), (∀ x ∈ more, valV acc x.1 = none) → (more.map (·.1)).Nodup → mergeK acc more = acc ++ more
  | [], acc, _, _ => by simp [mergeK]
  | (k, v) :: r, acc, h, hn => by
    obtain ⟨h1, h2⟩ := List.nodup_cons.mp hn
    have e : putK acc k v = acc ++ [(k, v)] := putK_new _ (h (k, v) (List.mem_cons_self ..))
    show mergeK (putK acc k v) r = _
    rw [e, mergeK_app r (acc ++ [(k, v)]) (fun x hx => valV_snoc (h x (List.mem_cons_of_mem _ hx)) fun z => h1 (by show k ∈ _; rw [z]; exact List.mem_map_of_mem hx)) h2, List.append_assoc]
    rfl
theorem merge_tout {tb : TB} (h : (tb.map (·.1)).Nodup) : mergeK [] (tout tb) = tout tb := by
  rw [mergeK_app _ _ (fun x hx => rfl)]
  · rfl
  · unfold tout
    rw [List.map_map]
    exact List.pairwise_map.mpr ((List.pairwise_map.mp h).imp fun {a b} z e => z (Sum.inl.inj e))
/-- what stands while a net is made -/
structure NI (K : PySem.W.Frag) (E : Addr → Prop) (H0 H : Hp) (x dx W D : Addr) (tv : TV) (o : Int) (keys : List (Int × Int)) (L : Int × Int → Addr) : Prop where
  obj : H x = some (.ins (He.ga K "Net") dx (netF W D o))
  xo : ∃ u, H0 x = some u
  tab : ∃ tb : TB, tview tb = tv ∧ H W = some (.dK (tout tb)) ∧ ∀ t ∈ tb, H t.2.1 = some (.dK (tin t.2.2)) ∧ H0 t.2.1 = none
  dict : H D = some (.dT (rK keys L))
  lst : ∀ k ∈ keys, H (L k) = some (.lst [])
  fr : ∀ a u, H0 a = some u → ¬ E a → H a = some u
  nD : H0 D = none
  nW : H0 W = none
  nL : ∀ k ∈ keys, H0 (L k) = none
  inj : ∀ k ∈ keys, ∀ k' ∈ keys, L k = L k' → k = k'
  nd : keys.Nodup
section
variable {K : PySem.W.Frag} {E : Addr → Prop} {H0 H : Hp} {x dx W D : Addr} {tv : TV} {o : Int} {keys : List (Int × Int)} {L : Int × Int → Addr}
theorem NI.old (h : NI K E H0 H x dx W D tv o keys L) {b : Addr} {u v : HO} (hb : H0 b = some u) (bx : b ≠ x) : NI K (fun a => E a ∨ a = b) H0 (upd H b v) x dx W D tv o keys L where
  obj := by rw [upd_ne bx.symm]; exact h.obj
  xo := h.xo
  tab := by
    obtain ⟨tb, e, hw, hi⟩ := h.tab
    exact ⟨tb, e, by rw [upd_ne (fun z => by rw [← z, h.nW] at hb; cases hb)]; exact hw, fun t ht => ⟨by rw [upd_ne (fun z => by rw [← z, (hi t ht).2] at hb; cases hb)]; exact (hi t ht).1, (hi t ht).2⟩⟩
  dict := by rw [upd_ne (fun z => by rw [← z, h.nD] at hb; cases hb)]; exact h.dict
  lst := fun k hk => by rw [upd_ne (fun z => by rw [← z, h.nL k hk] at hb; cases hb)]; exact h.lst k hk
  fr := fun a u ha ne => by
    rw [upd_ne (fun z => ne (.inr z))]
    exact h.fr a u ha fun z => ne (.inl z)
  nD := h.nD
  nW := h.nW
  nL := h.nL
  inj := h.inj
  nd := h.nd
theorem NI.back {b : Addr} {u : HO} (h : NI K (fun a => E a ∨ a = b) H0 H x dx W D tv o keys L) (hb : H0 b = some u) (bx : b ≠ x) : NI K E H0 (upd H b u) x dx W D tv o keys L := by
  have g := h.old hb bx (v := u)
  exact ⟨g.obj, g.xo, g.tab, g.dict, g.lst, fun a u' ha ne => by
    by_cases z : a = b
    · rw [z, upd_same, ← hb, ← ha, z]
    · exact g.fr a u' ha fun y => by rcases y with (y | y) | y <;> first | exact ne y | exact z y, g.nD, g.nW, g.nL, g.inj, g.nd⟩
theorem NI.ex (h : NI K E H0 H x dx W D tv o keys L) {H' : Hp} (e : Ex H H') : NI K E H0 H' x dx W D tv o keys L where
  obj := e _ _ h.obj
  xo := h.xo
  tab := let ⟨tb, e1, hw, hi⟩ := h.tab; ⟨tb, e1, e _ _ hw, fun t ht => ⟨e _ _ (hi t ht).1, (hi t ht).2⟩⟩
  dict := e _ _ h.dict
  lst := fun k hk => e _ _ (h.lst k hk)
  fr := fun a u ha ne => e _ _ (h.fr a u ha ne)
  nD := h.nD
  nW := h.nW
  nL := h.nL
  inj := h.inj
  nd := h.nd
def addK (keys : List (Int × Int)) (k : Int × Int) : List (Int × Int) := if k ∈ keys then keys else keys ++ [k]
theorem addK_mem {k k' : Int × Int} : k' ∈ addK keys k ↔ k' ∈ keys ∨ k' = k := by
  unfold addK
  split
  · rename_i h
    constructor
    · exact .inl
    · rintro (z | z)
      · exact z
      · rw [z]; exact h
  · simp
theorem addK_len {k : Int × Int} : (addK keys k).length ≤ keys.length + 1 := by
  unfold addK
  split
  · omega
  · simp
theorem putK_add {k : Int × Int} {a : Addr} : putK (rK keys L) (kk k) (.ref a) = rK (addK keys k) (updL L k a) := by
  unfold addK
  split
  · rename_i h; exact putK_in h
  · rename_i h; exact putK_out h
theorem NI.put (h : NI K E H0 H x dx W D tv o keys L) {k : Int × Int} {l : Addr} (hl : H l = some (.lst [])) (nl : H0 l = none) (no : ∀ k' ∈ keys, L k' ≠ l) : NI K E H0 (upd H D (.dT (putK (rK keys L) (kk k) (.ref l)))) x dx W D tv o (addK keys k) (updL L k l) where
  obj := by rw [upd_ne (ne_of h.obj h.dict (fun z => nomatch z))]; exact h.obj
  xo := h.xo
  tab := by
    obtain ⟨tb, e, hw, hi⟩ := h.tab
    exact ⟨tb, e, by rw [upd_ne (ne_of hw h.dict (fun z => nomatch z))]; exact hw, fun t ht => ⟨by rw [upd_ne (ne_of (hi t ht).1 h.dict (fun z => nomatch z))]; exact (hi t ht).1, (hi t ht).2⟩⟩
  dict := by rw [upd_same, putK_add]
  lst := fun k' hk' => by
    by_cases e : k' = k
    · rw [e, updL_same, upd_ne (ne_of hl h.dict (fun z => nomatch z))]
      exact hl
    · rcases addK_mem.mp hk' with z | z
      · rw [updL_ne e, upd_ne (ne_of (h.lst k' z) h.dict (fun z => nomatch z))]
        exact h.lst k' z
      · exact absurd z e
  fr := fun a u ha ne => by
    rw [upd_ne (fun z => by rw [z, h.nD] at ha; cases ha)]
    exact h.fr a u ha ne
  nD := h.nD
  nW := h.nW
  nL := fun k' hk' => by
    by_cases e : k' = k
    · rw [e, updL_same]; exact nl
    · rcases addK_mem.mp hk' with z | z
      · rw [updL_ne e]; exact h.nL k' z
      · exact absurd z e
  inj := fun k1 h1 k2 h2 e => by
    by_cases e1 : k1 = k
    · by_cases e2 : k2 = k
      · rw [e1, e2]
      · rw [e1, updL_same, updL_ne e2] at e
        rcases addK_mem.mp h2 with z | z
        · exact absurd e.symm (no k2 z)
        · exact absurd z e2
    · rcases addK_mem.mp h1 with z1 | z1
      · by_cases e2 : k2 = k
        · rw [e2, updL_same, updL_ne e1] at e
          exact absurd e (no k1 z1)
        · rcases addK_mem.mp h2 with z | z
          · rw [updL_ne e1, updL_ne e2] at e
            exact h.inj k1 z1 k2 z e
          · exact absurd z e2
      · exact absurd z1 e1
  nd := by
    unfold addK
    split
    · exact h.nd
    · rename_i q
      exact List.nodup_append.mpr ⟨h.nd, by simp, fun a ha b hb e => q (by have : b = k := by simpa using hb
                                                                           rw [← this, ← e]; exact ha)⟩
end
theorem tout_get {tb : TB} {i : Nat} {k : Key} {v : V} (h : (tout tb)[i]? = some (k, v)) : ∃ e, tb[i]? = some e ∧ k = Sum.inl e.1 ∧ v = .ref e.2.1 := by
  unfold tout at h
  rw [List.getElem?_map] at h
  cases e : tb[i]? with
  | none => rw [e] at h; cases h
  | some t =>
    rw [e] at h
    have := Option.some.inj h
    injection this with h1 h2
    exact ⟨t, rfl, h1.symm, h2.symm⟩
theorem tin_get {ws : List (Int × Int)} {i : Nat} {k : Key} {v : V} (h : (tin ws)[i]? = some (k, v)) : ∃ e, ws[i]? = some e ∧ k = Sum.inl e.1 ∧ v = .int e.2 := by
  unfold tin at h
  rw [List.getElem?_map] at h
  cases e : ws[i]? with
  | none => rw [e] at h; cases h
  | some t =>
    rw [e] at h
    have := Option.some.inj h
    injection this with h1 h2
    exact ⟨t, rfl, h1.symm, h2.symm⟩
theorem paired_maps {α β γ : Type} {R : β → γ → Prop} {f : α → β} {g : α → γ} : ∀ zs : List α, (∀ z ∈ zs, R (f z) (g z)) → Paired R (zs.map f) (zs.map g)
  | [], _ => .nil
  | z :: r, h => .cons (h z (List.mem_cons_self ..)) (paired_maps r fun x hx => h x (List.mem_cons_of_mem _ hx))
section
variable {P : Program} {w : World} {K : PySem.W.Frag} {mg : Str → Option Value} {base : Heap}
theorem cal_Net_init (T : TX K mg) (c_need_table : Cal P w K mg base "need_table" 4 (sp_need_table K)) (c_width : Cal P w K mg base "width" 2 (sp_width K)) : NCal P w K mg base "Net" 5 (sp_Net_init K) := by
  obtain ⟨fd, F⟩ := T.df_Net_init
  have hb : Binds K fd ["self", "table", "code", "oldest"] [] := F.bindsN fun _ _ _ _ _ _ us hl => match us, hl with | [_, _, _, _], _ => rfl
  refine NCal.mk2 T.gc_Net T.mk_Net hb (F.ok (CX := CX0) (k := 4) sc_Net_init (fun vs H Q E h => ?_) (fun cdv A outer s H vs Q E hr h => ?_))
  · obtain ⟨_, _, _, _, _, rfl, _⟩ := h
    rfl
  · obtain ⟨x, dx, d, o, tv, rfl, hx, hz, ok, ho, q⟩ := h
    refine ⟨_, PSs.nox (pss_cons (ps_expr (pe_cal c_need_table hr (pa_cons (pv 1) pa_nil)))
    (pss_cons (ps_expr (pe_cal c_width (hr.mono (by decide)) (pa_cons (pv 2) pa_nil)))
    (pss_cons (ps_if (PW.pt (pw_or (pt_not (pt_val (pe_callB call_isi (by rfl) T.f_isinstance bt_isinstance (pa_cons (pv 3) (pa_cons (pe_bty T.f_int bt_int) pa_nil))))) (pw_or (pt_val (pe_callB call_isi (by rfl) T.f_isinstance bt_isinstance (pa_cons (pv 3) (pa_cons (pe_bty T.f_bool bt_bool) pa_nil)))) (pw_or1 (pt_cmpR op_lt (pv 3) pe_int (nomark _)))))) (pss_one ps_never) pss_nil)
    (pss_cons (ps_fld (pv 0) (pe_callTy (call_dictP rfl) (by rfl) T.f_dict bt_dict (pa_cons (pe_lc (own := [("place", 4), ("ways", 5)]) rfl sc_Net_init.nd (pi_items (pv 1)) (blkOk_by (own := [("place", 4), ("ways", 5)]) (N := sn_Net_init) (sc := defScope s_Net_init) (by decide +kernel)) (fun _ _ _ _ _ => pg_tupc (n := 2) K rfl (pgs_cons (pg_name (i := 4) sc_Net_init.nd rfl (.inl rfl)) (pgs_cons (pg_name (i := 5) sc_Net_init.nd rfl (.inl rfl)) pgs_nil))) (fun _ _ _ _ _ => pts_nil) (fun _ _ _ _ _ => (pe_tup (pa_cons (pv 4) (pa_cons (pe_callTy call_dictD (by rfl) T.f_dict bt_dict (pa_cons (pv 5) pa_nil)) pa_nil))))) pa_nil)) rfl)
    (pss_cons (ps_fld (pv 0) (pv 2) rfl)
    (pss_cons (ps_fld (pv 0) (pv 3) rfl)
    (pss_cons (ps_fld (pv 0) pe_dnewT rfl)
    (pss_one (ps_for PassesOwn.never rfl (pi_items (pv 1)) (pg_tup rfl (pgs_cons (pg_name (i := 4) sc_Net_init.nd rfl (.inl rfl)) (pgs_cons (pg_name (i := 5) sc_Net_init.nd rfl (.inl rfl)) pgs_nil))) (pss_one (ps_lock (ps_for PassesOwn.never rfl (pi_values (pv 5)) (pg_name (i := 6) sc_Net_init.nd rfl (.inl rfl)) (pss_one (ps_dput (hu_of hr) (pe_fld (pv 0) rfl) (pe_tup (pa_cons (pv 4) (pa_cons (pv 6) pa_nil))) (pe_lst pa_nil) rfl)))))))))))))), ?_⟩
    refine ⟨_, rfl, d, tv, rfl, hz, ok, fun H1 e1 => ?_⟩
    refine ⟨_, rfl, (), rfl, ?_⟩
    refine ⟨_, rfl, _, _, _, _, true, rfl, .ty _, .base (.int _), isi_ii, _, rfl, iteF ?_⟩
    refine ⟨_, rfl, _, _, _, _, false, rfl, .ty _, .base (.int _), isi_ib, _, rfl, iteF ?_⟩
    refine ⟨_, rfl, _, _, rfl, rfl, _, rfl, ?_⟩
    rw [decide_eq_false (by omega)]
    have hz1 := hz.ex e1
    obtain ⟨tb, od, etv, hd0, hi0⟩ := id hz
    have hd := e1 _ _ hd0
    have hl6 := ok.le
    have htl : tb.length = tv.length := by rw [← etv]; simp [tview]
    have hx1 := e1 _ _ hx
    refine iteF ⟨_, rfl, d, od, _, rfl, hd, fun D hD => lc_items (fun i H' => Ex H1 H' ∧ ∃ zs : List (Addr × (Int × Addr × List (Int × Int))), H' D = some (.lst (zs.map fun z => V.ref z.1)) ∧ (∀ z ∈ zs, H' z.1 = some (.tup [.int z.2.1, .ref z.2.2.1]) ∧ H' z.2.2.1 = some (.dK (tin z.2.2.2)) ∧ H1 z.2.2.1 = none) ∧ tview (zs.map (·.2)) = tview (tb.take i))
      ⟨Ex.new hD, [], upd_same, (fun z hz => nomatch hz), rfl⟩ (fun i H' _ hh => hh.1 _ _ hd) (fun i k v t H' hkv ht hh => ?_) (fun H' hh => ?_)⟩
    · obtain ⟨e3, zs, h1, h2, h3⟩ := hh
      obtain ⟨e, he, rfl, rfl⟩ := tout_get hkv
      have hem := List.mem_of_getElem? he
      have e4 := Ex.new (o := .tup [kV (Sum.inl e.1), .ref e.2.1]) ht
      have hw := (e1.trans (e3.trans e4)) _ _ (hi0 e hem)
      refine ⟨t, _, rfl, SqT.of upd_same, rfl, _, _, rfl, _, _, rfl, rfl, rfl, _, rfl, _, rfl, e.2.1, tin e.2.2, rfl, .inl hw, fun p hp => ⟨sz_2, fun u hu => ?_⟩⟩
      have e5 := Ex.new (o := .dK (tin e.2.2)) hp
      have e6 := Ex.new (o := .tup [kV (Sum.inl e.1), .ref p]) hu
      have eA := (e4.trans e5).trans e6
      have hz6 : zs.length ≤ tb.length := by
        have := congrArg List.length h3
        simp [tview] at this
        omega
      have up : ∀ a o', (upd (upd (upd H' t (.tup [kV (Sum.inl e.1), .ref e.2.1])) p (.dK (tin e.2.2))) u (.tup [kV (Sum.inl e.1), .ref p])) a = some o' → (∀ xs, o' ≠ .lst xs) → (upd (upd (upd (upd H' t (.tup [kV (Sum.inl e.1), .ref e.2.1])) p (.dK (tin e.2.2))) u (.tup [kV (Sum.inl e.1), .ref p])) D (.lst (zs.map (fun z => V.ref z.1) ++ [V.ref u]))) a = some o' := fun a o' h no => by
        rw [upd_ne (fun z => by rw [z, eA _ _ h1] at h; exact no _ (Option.some.inj h).symm)]
        exact h
      refine ⟨_, eA _ _ h1, by rw [List.length_map]; exact szlt (by omega), Ex.mut (e3.trans eA) hD, zs ++ [(u, (e.1, p, e.2.2))], ?_, fun z hz => ?_, ?_⟩
      · rw [upd_same, List.map_append]
        rfl
      · rcases List.mem_append.mp hz with y | y
        · obtain ⟨a1, a2, a3⟩ := h2 z y
          exact ⟨up _ _ (eA _ _ a1) (fun _ z => nomatch z), up _ _ (eA _ _ a2) (fun _ z => nomatch z), a3⟩
        · have : z = (u, (e.1, p, e.2.2)) := by simpa using y
          rw [this]
          exact ⟨up _ _ upd_same (fun _ z => nomatch z), up _ _ (e6 _ _ upd_same) (fun _ z => nomatch z), fresh_back (e3.trans e4) hp⟩
      · rw [take_succ' he, List.map_append]
        show List.map _ (_ ++ _) = List.map _ (_ ++ _)
        rw [List.map_append, List.map_append]
        have h3 : List.map (fun t : Int × Addr × List (Int × Int) => (t.1, t.2.2)) (zs.map (·.2)) = List.map (fun t => (t.1, t.2.2)) (tb.take i) := h3
        rw [h3]
        rfl
    · obtain ⟨e3, zs, h1, h2, h3⟩ := hh
      rw [show (tout tb).length = tb.length by simp [tout], List.take_length, etv] at h3
      have hnd : ((zs.map (·.2)).map (·.1)).Nodup := by
        have := ok.nd
        rw [← h3, plcs_view] at this
        exact this
      refine ⟨D, zs.map (·.1), tout (zs.map (·.2)), rfl, SqL.of (by rw [List.map_map]; exact h1), ?_, fun W nW => ?_⟩
      · unfold tout
        rw [List.map_map]
        exact paired_maps zs fun z hz => SqT.of (h2 z hz).1
      rw [merge_tout hnd]
      have eW := Ex.new (o := .dK (tout (zs.map (·.2)))) nW
      have hx4 := eW _ _ (e3 _ _ hx1)
      refine ⟨_, rfl, _, _, _, _, rfl, hx4, T.cl_Net, T.na_Net_ways, by decide, ?_⟩
      refine ⟨_, rfl, _, rfl, _, _, _, _, rfl, upd_same, T.cl_Net, T.na_Net_code, lt1000 (putF_le (Nat.zero_le 0)), ?_⟩
      refine ⟨_, rfl, _, rfl, _, _, _, _, rfl, upd_same, T.cl_Net, T.na_Net_oldest, lt1000 (putF_le (putF_le (Nat.zero_le 0))), ?_⟩
      refine fun Dd hDd => ⟨_, rfl, _, _, _, _, rfl, (Ex.new (o := .dT []) hDd) _ _ upd_same, T.cl_Net, T.na_Net_roads, lt1000 (putF_le (putF_le (putF_le (Nat.zero_le 0)))), ?_⟩
      have nWx : W ≠ x := fun z => by rw [z, e3 _ _ hx1] at nW; cases nW
      have toD : ∀ a u, (upd H' W (.dK (tout (zs.map (·.2))))) a = some u → a ≠ x → a ≠ Dd := fun a u ha ne z => by
        rw [← z, upd_ne ne, upd_ne ne, upd_ne ne] at hDd
        rw [ha] at hDd
        cases hDd
      have up : ∀ a u, (upd H' W (.dK (tout (zs.map (·.2))))) a = some u → a ≠ x → (upd (upd (upd (upd (upd (upd H' W (.dK (tout (zs.map (·.2))))) x (.ins (He.ga K "Net") dx (putF "ways" (.ref W) []))) x (.ins (He.ga K "Net") dx (putF "code" (.int 69665) (putF "ways" (.ref W) [])))) x (.ins (He.ga K "Net") dx (putF "oldest" (.int o) (putF "code" (.int 69665) (putF "ways" (.ref W) []))))) Dd (.dT [])) x (.ins (He.ga K "Net") dx (netF W Dd o))) a = some u := fun a u ha ne => by
        rw [upd_ne ne, upd_ne (toD a u ha ne), upd_ne ne, upd_ne ne, upd_ne ne]
        exact ha
      have eH : Ex H (upd H' W (.dK (tout (zs.map (·.2))))) := (e1.trans e3).trans eW
      have nDx : Dd ≠ x := fun z => by rw [z, upd_same] at hDd; cases hDd
      have nD4 : (upd H' W (.dK (tout (zs.map (·.2))))) Dd = none := by
        rw [upd_ne nDx, upd_ne nDx, upd_ne nDx] at hDd
        exact hDd
      have hzx : ∀ z ∈ zs, z.2.2.1 ≠ x := fun z hz y => by have := (h2 z hz).2.2; rw [y, hx1] at this; cases this
      have hN0 : NI K (fun a => a = x) H (upd (upd (upd (upd (upd (upd H' W (.dK (tout (zs.map (·.2))))) x (.ins (He.ga K "Net") dx (putF "ways" (.ref W) []))) x (.ins (He.ga K "Net") dx (putF "code" (.int 69665) (putF "ways" (.ref W) [])))) x (.ins (He.ga K "Net") dx (putF "oldest" (.int o) (putF "code" (.int 69665) (putF "ways" (.ref W) []))))) Dd (.dT [])) x (.ins (He.ga K "Net") dx (netF W Dd o))) x dx W Dd tv o [] (fun _ => x) :=
        ⟨upd_same, ⟨_, hx⟩, ⟨zs.map (·.2), h3, up _ _ upd_same nWx, fun t ht => by
            obtain ⟨z, hz, rfl⟩ := List.mem_map.mp ht
            exact ⟨up _ _ (eW _ _ (h2 z hz).2.1) (hzx z hz), fresh_back e1 (h2 z hz).2.2⟩⟩, by rw [upd_ne nDx, upd_same]; rfl, (fun k hk => nomatch hk), fun a u ha ne => up a u (eH _ _ ha) ne, fresh_back eH nD4, fresh_back (e1.trans e3) nW, (fun k hk => nomatch hk), (fun k hk => nomatch hk), .nil⟩
      have ndx : d ≠ x := ne_of hd0 hx (fun z => nomatch z)
      have hvw : ∀ e ∈ tb, (e.1, e.2.2) ∈ tv := fun e he => by
        rw [← etv]
        exact List.mem_map_of_mem (f := fun t : Int × Addr × List (Int × Int) => (t.1, t.2.2)) he
      refine ⟨_, rfl, d, od, _, rfl, hN0.fr _ _ hd0 ndx, for_items (fun i σ H' => ∃ keys L, NI K (fun a => a = x) H H' x dx W Dd tv o keys L ∧ keys.length ≤ 6 * i ∧ (∀ k ∈ keys, k.1 ∈ plcs tv ∧ k.2 ∈ plcs tv) ∧ (∀ t ∈ tb.take i, ∀ q ∈ t.2.2, (t.1, q.2) ∈ keys) ∧ ∃ v4 v5 v6, σ = [some (.ref x), some (.ref d), some (.int 69665), some (.int o), v4, v5, v6])
        ⟨[], _, hN0, by simp, (fun k hk => nomatch hk), by simp, none, none, none, rfl⟩ (fun i σ H' _ hh => ?_) ?_ ?_⟩
      · obtain ⟨keys, L, hN, _⟩ := hh
        exact hN.fr _ _ hd0 ndx
      · rintro i k v t σ H' hkv ht ⟨keys, L, hN, hkl, hk1, hk2, v4, v5, v6, rfl⟩
        obtain ⟨e, he, rfl, rfl⟩ := tout_get hkv
        have hem := List.mem_of_getElem? he
        have hilt := (List.getElem?_eq_some_iff.mp he).1
        have hw0 := hi0 e hem
        have wx : e.2.1 ≠ x := ne_of hw0 hx (fun z => nomatch z)
        have hNt := hN.ex (Ex.new (o := .tup [kV (Sum.inl e.1), .ref e.2.1]) ht)
        have okn := ok.nin _ (hvw e hem)
        have oki := ok.inn _ (hvw e hem)
        have hpe : e.1 ∈ plcs tv := List.mem_map_of_mem (f := fun t : Int × List (Int × Int) => t.1) (hvw e hem)
        refine ⟨t, _, rfl, SqT.of upd_same, rfl, _, _, rfl, _, _, rfl, rfl, ?_⟩
        refine ⟨e.2.1, _, hNt.fr _ _ hw0 wx, trivial, fun od2 => ⟨_, rfl, e.2.1, od2, _, rfl, upd_same, for_vals (fun j σ H'' => H'' e.2.1 = some (.frz od2 (.dK (tin e.2.2))) ∧ ∃ keys L, NI K (fun a => a = x ∨ a = e.2.1) H H'' x dx W Dd tv o keys L ∧ keys.length ≤ 6 * i + j ∧ (∀ k ∈ keys, k.1 ∈ plcs tv ∧ k.2 ∈ plcs tv) ∧ (∀ t ∈ tb.take i, ∀ q ∈ t.2.2, (t.1, q.2) ∈ keys) ∧ (∀ q ∈ e.2.2.take j, (e.1, q.2) ∈ keys) ∧ ∃ v6, σ = [some (.ref x), some (.ref d), some (.int 69665), some (.int o), some (.int e.1), some (.ref e.2.1), v6])
          ⟨upd_same, keys, L, hNt.old hw0 wx, hkl, hk1, hk2, (fun q hq => by simp at hq), v6, rfl⟩ (fun j σ H'' _ hh => hh.1) ?_ ?_⟩⟩
        · rintro j k v σ H'' hkv2 ⟨hf, keys, L, hN, hkl, hk1, hk2, hk3, v6, rfl⟩
          obtain ⟨y, hy, rfl, rfl⟩ := tin_get hkv2
          have hjlt := (List.getElem?_eq_some_iff.mp hy).1
          have hym := List.mem_of_getElem? hy
          obtain ⟨i1, i2, i3, i4⟩ := oki y hym
          have ol : e.2.2.length ≤ 6 := okn.2
          refine ⟨Nat.zero_le _, fun l hl => ?_⟩
          have e7 := Ex.new (o := .lst []) hl
          refine ⟨_, rfl, _, _, _, _, _, rfl, (e7 _ _ hN.obj), T.cl_Net, T.na_Net_roads, ntl_roads, _, rfl, _, rfl, sz_2, fun u hu => ?_⟩
          have e8 := Ex.new (o := .tup [.int e.1, .int y.2]) hu
          have hN8 := (hN.ex e7).ex e8
          refine ⟨Dd, _, rfl, DPut.t (k := kk (e.1, y.2)) hN8.dict upd_same (by rw [rK_len]; exact szlt (by omega)), ?_⟩
          have nl : H l = none := by
            cases q : H l with
            | none => rfl
            | some u0 =>
              exfalso
              by_cases z1 : l = x
              · rw [z1, hN.obj] at hl; cases hl
              · by_cases z2 : l = e.2.1
                · rw [z2, hf] at hl; cases hl
                · rw [hN.fr l u0 q fun z => by rcases z with z | z <;> first | exact z1 z | exact z2 z] at hl
                  cases hl
          have no : ∀ k' ∈ keys, L k' ≠ l := fun k' hk' z => by
            have := hN.lst k' hk'
            rw [z, hl] at this
            cases this
          refine ⟨?_, addK keys (e.1, y.2), updL L (e.1, y.2) l, hN8.put (e8 _ _ upd_same) nl no, ?_, fun k' hk' => ?_, fun t' ht' q hq => addK_mem.mpr (.inl (hk2 t' ht' q hq)), fun q hq => ?_, _, rfl⟩
          · rw [upd_ne (ne_of ((e7.trans e8) _ _ hf) hN8.dict (fun z => nomatch z))]
            exact (e7.trans e8) _ _ hf
          · have := addK_len (keys := keys) (k := (e.1, y.2))
            omega
          · rcases addK_mem.mp hk' with z | z
            · exact hk1 k' z
            · rw [z]; exact ⟨hpe, i3⟩
          · rw [take_succ' hy] at hq
            rcases List.mem_append.mp hq with z | z
            · exact addK_mem.mpr (.inl (hk3 q z))
            · have : q = y := by simpa using z
              rw [this]
              exact addK_mem.mpr (.inr rfl)
        · rintro σ H'' ⟨hf, keys, L, hN, hkl, hk1, hk2, hk3, v6, rfl⟩
          have tl : (tin e.2.2).length = e.2.2.length := by simp [tin]
          rw [tl] at hkl hk3
          rw [List.take_length] at hk3
          have ol : e.2.2.length ≤ 6 := okn.2
          refine ⟨hf, keys, L, hN.back hw0 wx, by omega, hk1, fun t' ht' q hq => ?_, _, _, _, rfl⟩
          rw [take_succ' he] at ht'
          rcases List.mem_append.mp ht' with z | z
          · exact hk2 t' z q hq
          · have : t' = e := by simpa using z
            rw [this] at hq ⊢
            exact hk3 q hq
      · rintro σ H' ⟨keys, L, hN, hkl, hk1, hk2, v4, v5, v6, rfl⟩
        rw [show (tout tb).length = tb.length by simp [tout]] at hkl hk2
        rw [List.take_length] at hk2
        obtain ⟨tbn, t1, t2, t3⟩ := hN.tab
        refine q H' ⟨x, dx, W, Dd, tv, o, keys, L, fun _ => []⟩ rfl rfl rfl (fun _ => rfl) ⟨hN.obj, ⟨tbn, t1, .inl t2, fun t ht => .inl (t3 t ht).1⟩, hN.dict, fun k hk => hN.lst k hk, (fun k hk t ht => nomatch ht)⟩
          ⟨ok, ho, hN.nd, by show keys.length ≤ 100; omega, hk1, fun p t y hy => ?_, hN.inj, fun k hk => .nil, (fun k hk k' hk' t ht => nomatch ht), (fun k hk t ht => nomatch ht)⟩ (fun a ha => ?_) ⟨tbn, t1, ⟨.inl t2, fun z => z hN.nW⟩, fun t ht => ⟨.inl (t3 t ht).1, fun z => z (t3 t ht).2⟩⟩ fun a u ha ne => hN.fr a u ha ne
        · have hy : (tv.find? fun r => decide (r.1 = p)).bind (fun r => (r.2.find? fun q => decide (q.1 = t)).map (·.2)) = some y := hy
          cases hf : tv.find? fun r => decide (r.1 = p) with
          | none => rw [hf] at hy; cases hy
          | some r =>
            rw [hf] at hy
            have hr := List.mem_of_find?_eq_some hf
            have er : r.1 = p := by simpa using List.find?_some hf
            have hy : (r.2.find? fun q => decide (q.1 = t)).map (·.2) = some y := hy
            cases hq : r.2.find? fun q => decide (q.1 = t) with
            | none => rw [hq] at hy; cases hy
            | some q =>
              rw [hq] at hy
              have ey : q.2 = y := Option.some.inj hy
              have hqm := List.mem_of_find?_eq_some hq
              rw [← etv] at hr
              obtain ⟨t0, ht0, rfl⟩ := List.mem_map.mp hr
              have := hk2 t0 ht0 q hqm
              rw [ey] at this
              rw [← er]
              exact this
        · rcases ha with ha | ⟨k, hk, ha | ⟨t, ht, _⟩⟩
          · rw [ha]; exact hN.nD
          · rw [ha]; exact hN.nL k hk
          · cases ht
end
end K54

set_option Elab.async false
set_option linter.all false
set_option maxRecDepth 100000
set_option maxHeartbeats 4000000
/-! The law's own defs: promises of the small ones. -/
namespace K54
open PySem PySem.Spec PyProof.Rows L2 Evl
/-- the list of a state -/
def StR (H : Hp) (S : Addr) : Prop := ∃ a b c : Int, H S = some (.lst [.int a, .int b, .int c])
/-- only S may have changed -/
def StS (S : Addr) (H H2 : Hp) : Prop := (∀ a o, H a = some o → a ≠ S → H2 a = some o) ∧ StR H2 S
theorem StS.ex {S : Addr} {H H2 H3 : Hp} (a : StS S H H2) (e : Ex H2 H3) : StS S H H3 := ⟨fun b o h n => e _ _ (a.1 b o h n), let ⟨x, y, z, h⟩ := a.2; ⟨x, y, z, e _ _ h⟩⟩
theorem StS.of_ex {S : Addr} {H H2 : Hp} (e : Ex H H2) (h : StR H S) : StS S H H2 := ⟨fun b o h _ => e _ _ h, let ⟨x, y, z, h⟩ := h; ⟨x, y, z, e _ _ h⟩⟩
theorem StS.trans {S : Addr} {H H2 H3 : Hp} (a : StS S H H2) (b : StS S H2 H3) : StS S H H3 := ⟨fun c o h n => b.1 c o (a.1 c o h n) n, b.2⟩
theorem StS.none {S : Addr} {H H2 : Hp} (a : StS S H H2) (h : StR H S) {x : Addr} (hx : H2 x = none) : H x = none := by
  cases e : H x with
  | none => rfl
  | some o =>
    by_cases z : x = S
    · obtain ⟨p, q, r, e2⟩ := a.2
      rw [z, e2] at hx
      cases hx
    · rw [a.1 x o e z] at hx
      cases hx
theorem StR.ex {S : Addr} {H H2 : Hp} (h : StR H S) (e : Ex H H2) : StR H2 S := let ⟨x, y, z, h⟩ := h; ⟨x, y, z, e _ _ h⟩
def sp_law_cell_at (K : PySem.W.Frag) : Sp := fun vs H Q _ => ∃ (a : Addr) (ns : List Int) (k : Nat), vs = [.ref a, .int k] ∧ SqL K H a (ns.map V.int) ∧ ∀ c : Int, Q (.int c) H
def sp_law_state (K : PySem.W.Frag) : Sp := fun vs H Q _ => ∃ c k : Int, vs = [.int c, .int k] ∧ ∀ S H2, Ex H H2 → H S = none → StR H2 S → Q (.ref S) H2
def sp_law_next (K : PySem.W.Frag) : Sp := fun vs H Q _ => ∃ (S : Addr) (n : Int), vs = [.ref S, .int n] ∧ StR H S ∧ 1 ≤ n ∧ n < 1000000 ∧ ∀ r H2, 0 ≤ r → r < n → StS S H H2 → Q (.int r) H2
def sp_law_places (K : PySem.W.Frag) : Sp := fun vs H Q _ => ∃ (S : Addr) (n : Nat), vs = [.ref S, .int n] ∧ StR H S ∧ n ≤ 6 ∧
  ∀ l (xs : List Int) H2, StS S H H2 → H l = none → H2 l = some (.lst (ivs xs)) → xs.length = n → xs.Nodup → (∀ x ∈ xs, IsB x) → Q (.ref l) H2
def sp_law_table (K : PySem.W.Frag) : Sp := fun vs H Q _ => ∃ S : Addr, vs = [.ref S, .int 6] ∧ StR H S ∧
  ∀ d tv H2, StS S H H2 → H d = none → TabP H2 d tv → TvOk tv → Q (.ref d) H2
def sp_law_fields (K : PySem.W.Frag) : Sp := fun vs H Q _ => ∃ (b : Addr) (bs : List Bool) (n : Nat), vs = [.ref b] ∧ H b = some (.tup (bvs bs)) ∧ bs.length = 8 * n + 16 ∧ 14 ≤ n ∧ n ≤ 17 ∧
  ∀ p H2, Ex H H2 → FlR H2 p (fieldsP (rowOf bs n)) → Q (.ref p) H2
/-- a packet is one that was put, but for its life -/
def Like (f g : Fl) : Prop := { f with life := g.life } = g ∧ 1 ≤ f.life ∧ f.life ≤ g.life
def sp_law_like (K : PySem.W.Frag) : Sp := fun vs H Q _ => ∃ (p q : Addr) (f g : Fl), vs = [.ref p, .ref q] ∧ FlR H p f ∧ FlR H q g ∧ Like f g ∧ RetV (.bl true) H Q
theorem set_take {xs : List V} {j : Nat} {v : V} : (xs.set j v).length = xs.length := by simp
end K54

set_option Elab.async false
set_option linter.all false
set_option maxRecDepth 100000
set_option maxHeartbeats 4000000
/-! The law's own defs: cell_at, state, next, places. -/
namespace K54
open PySem PySem.Spec PyProof.Rows L2 Evl
section
variable {P : Program} {w : World} {K : PySem.W.Frag} {mg : Str → Option Value} {base : Heap}
theorem cal_law_cell_at (T : TX K mg) : Cal P w K mg base "_law_cell_at" 1 (sp_law_cell_at K) := by
  obtain ⟨fd, F⟩ := T.df_law_cell_at
  have hb : Binds K fd ["_law_script", "_law_k"] [] := F.bindsN fun _ _ _ _ _ _ us hl => match us, hl with | [_, _], _ => rfl
  refine Cal.mk2 T.g_law_cell_at F.kp hb (F.ok (CX := CX0) (k := 0) sc_law_cell_at (fun vs H Q E h => ?_) (fun cdv A outer s H vs Q E hr h => ?_))
  · obtain ⟨_, _, _, rfl, _⟩ := h
    rfl
  · obtain ⟨a, ns, k, rfl, ha, q⟩ := h
    refine ⟨_, PSs.nox (pss_cons (ps_if (pt_cmpR op_lt (pv 1) (pe_callB call_len_seq (by rfl) T.f_len bt_len (pa_cons (pv 0) pa_nil)) (nomark _)) (pss_one (ps_ret (pe_ix ix_list (pv 0) (pv 1) (fun _ _ => rfl)))) pss_nil)
    (pss_one (ps_ret pe_int))), ?_⟩
    refine ⟨_, rfl, _, rfl, a, _, rfl, .inl ha, _, _, rfl, rfl, _, rfl, ?_⟩
    by_cases hk : k < ns.length
    · rw [decide_eq_true (by rw [List.length_map]; omega)]
      refine iteT ⟨_, rfl, _, rfl, _, _, _, _, rfl, rfl, ha, atI_nat (v := .int ns[k]) ?_, q _⟩
      rw [List.getElem?_map, List.getElem?_eq_getElem hk]
      rfl
    · rw [decide_eq_false (by rw [List.length_map]; omega)]
      exact iteF (q _)
theorem cal_law_state (T : TX K mg) : Cal P w K mg base "_law_state" 1 (sp_law_state K) := by
  obtain ⟨fd, F⟩ := T.df_law_state
  have hb : Binds K fd ["_law_cell", "_law_k"] [] := F.bindsN fun _ _ _ _ _ _ us hl => match us, hl with | [_, _], _ => rfl
  refine Cal.mk2 T.g_law_state F.kp hb (F.ok (CX := CX0) (k := 0) sc_law_state (fun vs H Q E h => ?_) (fun cdv A outer s H vs Q E hr h => ?_))
  · obtain ⟨_, _, rfl, _⟩ := h
    rfl
  · obtain ⟨c, k, rfl, q⟩ := h
    refine ⟨_, PSs.nox (pss_cons (ps_set (i := 2) sc_law_state.nd rfl (.inl rfl) (pe_op op_mod (pe_op op_mul (pe_op op_add (pe_op op_add (pv 0) (pe_op op_mul pe_int (pv 1))) pe_int) pe_int) pe_int))
    (pss_cons (ps_if (pt_cmpR op_ge (pv 0) (pe_op op_pow pe_int pe_int) (nomark _)) (pss_one (ps_ret (pe_lst (pa_cons (pv 0) (pa_cons pe_int (pa_cons (pv 2) pa_nil)))))) pss_nil)
    (pss_one (ps_ret (pe_lst (pa_cons (pv 2) (pa_cons pe_int (pa_cons (pv 2) pa_nil)))))))), ?_⟩
    have sm : ∀ j : Int, CMul j 48271 := fun j => .inr ⟨by decide, by decide⟩
    refine ⟨_, rfl, _, rfl, _, _, rfl, rfl, .inl ⟨by decide, by decide⟩, _, _, rfl, rfl, _, _, rfl, rfl, _, _, rfl, rfl, sm _, _, _, rfl, rfl, (by show (0 : Int) < 2147483647; decide), ?_⟩
    refine ⟨_, rfl, _, _, rfl, rfl, (by exact ⟨by decide, by decide, by decide⟩), _, _, rfl, rfl, _, rfl, ?_⟩
    generalize (c + 7919 * k + 11) * 48271 % 2147483647 = sd
    cases decide ((10 : Int) ^ (18 : Int).toNat ≤ c) with
    | true => exact iteT ⟨_, rfl, _, rfl, sz_3, fun l hl => q l _ (Ex.new hl) hl ⟨_, _, _, upd_same⟩⟩
    | false => exact iteF ⟨_, rfl, _, rfl, sz_3, fun l hl => q l _ (Ex.new hl) hl ⟨_, _, _, upd_same⟩⟩
theorem cal_law_next (T : TX K mg) : Cal P w K mg base "_law_next" 1 (sp_law_next K) := by
  obtain ⟨fd, F⟩ := T.df_law_next
  have hb : Binds K fd ["_law_state_here", "_law_size"] [] := F.bindsN fun _ _ _ _ _ _ us hl => match us, hl with | [_, _], _ => rfl
  refine Cal.mk2 T.g_law_next F.kp hb (F.ok (CX := CX0) (k := 0) sc_law_next (fun vs H Q E h => ?_) (fun cdv A outer s H vs Q E hr h => ?_))
  · obtain ⟨_, _, rfl, _⟩ := h
    rfl
  · obtain ⟨S, n, rfl, ⟨a, b, c, hS⟩, h1, h2, q⟩ := h
    refine ⟨_, PSs.nox (pss_cons (ps_if (PW.pt (pw_and (pt_cmpR op_eq (pe_ix ix_list (pv 0) pe_int (fun _ _ => rfl)) pe_int (nomark _)) (pw_and1 (pt_cmpR op_notIn_seq (pe_ix ix_list (pv 0) pe_int (fun _ _ => rfl)) (pe_tup (pa_cons pe_int (pa_cons (pe_un un_neg pe_int) pa_nil))) (by rfl))))) (pss_cons (ps_set (i := 2) sc_law_next.nd rfl (.inl rfl) (pe_op op_mod (pe_ix ix_list (pv 0) pe_int (fun _ _ => rfl)) (pv 1)))
    (pss_cons (ps_asg (pe_op op_fdiv (pe_ix ix_list (pv 0) pe_int (fun _ _ => rfl)) (pv 1)) (pg_sub (pv 0) pe_int set_list))
    (pss_one (ps_ret (pv 2))))) pss_nil)
    (pss_cons (ps_if (pt_cmpR op_eq (pe_ix ix_list (pv 0) pe_int (fun _ _ => rfl)) pe_int (nomark _)) (pss_cons (ps_asg (pe_ix ix_list (pv 0) pe_int (fun _ _ => rfl)) (pg_sub (pv 0) pe_int set_list))
    (pss_one (ps_asg pe_int (pg_sub (pv 0) pe_int set_list)))) pss_nil)
    (pss_cons (ps_asg (pe_op op_mod (pe_op op_add (pe_op op_mul (pe_ix ix_list (pv 0) pe_int (fun _ _ => rfl)) pe_int) pe_int) pe_int) (pg_sub (pv 0) pe_int set_list))
    (pss_cons (ps_set (i := 3) sc_law_next.nd rfl (.inl rfl) (pe_op op_mod (pe_op op_add (pe_op op_mul (pe_ix ix_list (pv 0) pe_int (fun _ _ => rfl)) (pe_ix ix_list (pv 0) pe_int (fun _ _ => rfl))) (pe_op op_mul pe_int (pe_ix ix_list (pv 0) pe_int (fun _ _ => rfl)))) pe_int))
    (pss_one (ps_ret (pe_op op_mod (pe_op op_fdiv (pe_op op_mod (pe_op op_add (pe_op op_mul (pv 3) (pv 3)) (pe_op op_mul pe_int (pv 3))) pe_int) pe_int) (pv 1)))))))), ?_⟩
    have bd : ∀ a b : Int, 0 ≤ a → a < 2147483647 → CMul a b := fun a b h1 h2 => .inl ⟨by omega, by omega⟩
    have bd2 : ∀ a : Int, 0 ≤ a → a < 2147483647 → CMul 16807 a := fun a h1 h2 => .inl ⟨by decide, by decide⟩
    have bd3 : ∀ a : Int, 0 ≤ a → a < 2147483647 → CMul 7 a := fun a h1 h2 => .inl ⟨by decide, by decide⟩
    refine ⟨_, rfl, _, _, _, _, rfl, rfl, SqL.of hS, rfl, rfl, _, rfl, ?_⟩
    by_cases hb : b = 1
    · subst hb
      rw [decide_eq_true rfl]
      refine iteT ⟨_, rfl, _, _, _, _, rfl, rfl, SqL.of hS, rfl, _, rfl, sz_2, fun u hu => ⟨u, _, rfl, .inr (SqT.of upd_same), rfl, rfl, _, rfl, ?_⟩⟩
      have e1 := Ex.new (o := .tup [.int 0, .int (-1)]) hu
      have hS1 := e1 _ _ hS
      cases (!inV (V.int a) [V.int 0, V.int (-1)]) with
      | true =>
        refine iteT ⟨_, rfl, _, _, _, _, rfl, rfl, SqL.of hS1, rfl, _, rfl, _, _, rfl, rfl, (by show (0 : Int) < n; omega), ?_⟩
        refine ⟨_, rfl, _, _, _, _, rfl, rfl, SqL.of hS1, rfl, _, rfl, _, _, rfl, rfl, (by constructor <;> omega), _, rfl, _, _, _, _, rfl, rfl, hS1, rfl, _, rfl, ?_⟩
        exact q _ _ (Int.emod_nonneg _ (by omega)) (Int.emod_lt_of_pos _ (by omega)) ⟨fun x o hx hne => by rw [upd_ne hne]; exact e1 _ _ hx, _, _, _, upd_same⟩
      | false =>
        refine iteF ⟨_, rfl, _, _, _, _, rfl, rfl, SqL.of hS1, rfl, rfl, _, rfl, ?_⟩
        rw [decide_eq_true rfl]
        refine iteT ⟨_, rfl, _, _, _, _, rfl, rfl, SqL.of hS1, rfl, _, rfl, _, _, _, _, rfl, rfl, hS1, rfl, _, rfl, _, _, _, _, rfl, rfl, upd_same, rfl, ?_⟩
        refine ⟨_, rfl, _, _, _, _, rfl, rfl, SqL.of upd_same, rfl, _, _, rfl, rfl, .inr ⟨by decide, by decide⟩, _, _, rfl, rfl, _, _, rfl, rfl, (by show (0 : Int) < 2147483647; decide), _, rfl, _, _, _, _, rfl, rfl, upd_same, rfl, ?_⟩
        have b2 : ∀ z : Int, 0 ≤ z % 2147483647 ∧ z % 2147483647 < 2147483647 := fun z => by omega
        refine ⟨_, rfl, _, _, _, _, rfl, rfl, SqL.of upd_same, rfl, _, rfl, _, _, _, _, rfl, rfl, SqL.of upd_same, rfl, _, _, rfl, rfl, bd _ _ (b2 _).1 (b2 _).2, _, rfl, _, _, _, _, rfl, rfl, SqL.of upd_same, rfl, _, _, rfl, rfl, bd2 _ (b2 _).1 (b2 _).2, _, _, rfl, rfl, _, _, rfl, rfl, (by show (0 : Int) < 2147483629; decide), ?_⟩
        have b3 : ∀ z : Int, 0 ≤ z % 2147483629 ∧ z % 2147483629 < 2147483647 := fun z => by omega
        refine ⟨_, rfl, _, rfl, _, _, rfl, rfl, bd _ _ (b3 _).1 (b3 _).2, _, rfl, _, _, rfl, rfl, bd3 _ (b3 _).1 (b3 _).2, _, _, rfl, rfl, _, _, rfl, rfl, (by show (0 : Int) < 2147483587; decide), _, _, rfl, rfl, ⟨by decide, by decide⟩, _, rfl, _, _, rfl, rfl, (by show (0 : Int) < n; omega), ?_⟩
        exact q _ _ (Int.emod_nonneg _ (by omega)) (Int.emod_lt_of_pos _ (by omega)) ⟨fun x o hx hne => by rw [upd_ne hne, upd_ne hne, upd_ne hne]; exact e1 _ _ hx, _, _, _, upd_same⟩
    · have e0 : decide (V.int b = V.int 1) = false := decide_eq_false fun z => hb (by injection z)
      rw [e0]
      refine iteF ⟨_, rfl, _, _, _, _, rfl, rfl, SqL.of hS, rfl, rfl, _, rfl, ?_⟩
      rw [e0]
      refine iteF ?_
      refine ⟨_, rfl, _, _, _, _, rfl, rfl, SqL.of hS, rfl, _, _, rfl, rfl, .inr ⟨by decide, by decide⟩, _, _, rfl, rfl, _, _, rfl, rfl, (by show (0 : Int) < 2147483647; decide), _, rfl, _, _, _, _, rfl, rfl, hS, rfl, ?_⟩
      have b2 : ∀ z : Int, 0 ≤ z % 2147483647 ∧ z % 2147483647 < 2147483647 := fun z => by omega
      refine ⟨_, rfl, _, _, _, _, rfl, rfl, SqL.of upd_same, rfl, _, rfl, _, _, _, _, rfl, rfl, SqL.of upd_same, rfl, _, _, rfl, rfl, bd _ _ (b2 _).1 (b2 _).2, _, rfl, _, _, _, _, rfl, rfl, SqL.of upd_same, rfl, _, _, rfl, rfl, bd2 _ (b2 _).1 (b2 _).2, _, _, rfl, rfl, _, _, rfl, rfl, (by show (0 : Int) < 2147483629; decide), ?_⟩
      have b3 : ∀ z : Int, 0 ≤ z % 2147483629 ∧ z % 2147483629 < 2147483647 := fun z => by omega
      refine ⟨_, rfl, _, rfl, _, _, rfl, rfl, bd _ _ (b3 _).1 (b3 _).2, _, rfl, _, _, rfl, rfl, bd3 _ (b3 _).1 (b3 _).2, _, _, rfl, rfl, _, _, rfl, rfl, (by show (0 : Int) < 2147483587; decide), _, _, rfl, rfl, ⟨by decide, by decide⟩, _, rfl, _, _, rfl, rfl, (by show (0 : Int) < n; omega), ?_⟩
      exact q _ _ (Int.emod_nonneg _ (by omega)) (Int.emod_lt_of_pos _ (by omega)) ⟨fun x o hx hne => by rw [upd_ne hne]; exact hx, _, _, _, upd_same⟩
end
end K54

set_option Elab.async false
set_option linter.all false
set_option maxRecDepth 100000
set_option maxHeartbeats 4000000
/-! The law's own defs: places. -/
namespace K54
open PySem PySem.Spec PyProof.Rows L2 Evl
theorem free_near {xs : List Int} (hl : xs.length ≤ 5) : ∃ q : Int, IsB q ∧ q ∉ xs := by
  refine Classical.byContradiction fun h => ?_
  have all : ∀ q ∈ ([0, 1, 2, 3, 4, 5] : List Int), q ∈ xs := fun q hq => Classical.byContradiction fun n => h ⟨q, by
    simp only [List.mem_cons, List.not_mem_nil, or_false] at hq
    unfold IsB
    omega, n⟩
  have := nodup_sub (by decide) all
  simp at this
  omega
theorem pick3 {a b c : Int} {r : Int} (h0 : 0 ≤ r) (h1 : r < 3) : ∃ z : Int, atI [V.int a, V.int b, V.int c] r = some (.int z) := by
  have : r = 0 ∨ r = 1 ∨ r = 2 := by omega
  rcases this with rfl | rfl | rfl
  · exact ⟨a, rfl⟩
  · exact ⟨b, rfl⟩
  · exact ⟨c, rfl⟩
theorem mod_B (z : Int) : IsB (z % 256) := by unfold IsB; omega
section
variable {P : Program} {w : World} {K : PySem.W.Frag} {mg : Str → Option Value} {base : Heap}
theorem cal_law_places (T : TX K mg) (c_law_next : Cal P w K mg base "_law_next" 1 (sp_law_next K)) : Cal P w K mg base "_law_places" 2 (sp_law_places K) := by
  obtain ⟨fd, F⟩ := T.df_law_places
  have hb : Binds K fd ["_law_state_here", "_law_many"] [] := F.bindsN fun _ _ _ _ _ _ us hl => match us, hl with | [_, _], _ => rfl
  refine Cal.mk2 T.g_law_places F.kp hb (F.ok (CX := CX0) (k := 1) sc_law_places (fun vs H Q E h => ?_) (fun cdv A outer s H vs Q E hr h => ?_))
  · obtain ⟨_, _, rfl, _⟩ := h
    rfl
  · obtain ⟨S, n, rfl, hS, hn6, q⟩ := h
    refine ⟨_, PSs.nox (pss_cons (ps_set (i := 2) sc_law_places.nd rfl (.inl rfl) (pe_lst pa_nil))
    (pss_cons (ps_set (i := 3) sc_law_places.nd rfl (.inl rfl) (pe_cal c_law_next hr (pa_cons (pv 0) (pa_cons pe_int pa_nil))))
    (pss_cons (ps_for PassesOwn.never rfl (pi_range1 rfl T.f_range (pa_cons (pv 1) pa_nil)) (pg_name (i := 4) sc_law_places.nd rfl (.inl rfl)) (pss_cons (ps_set (i := 5) sc_law_places.nd rfl (.inl rfl) (pe_op op_mod (pe_ix ix_list (pe_lst (pa_cons (pe_cal c_law_next hr (pa_cons (pv 0) (pa_cons pe_int pa_nil))) (pa_cons (pe_op op_add (pv 3) (pv 4)) (pa_cons (pe_op op_sub pe_int (pv 4)) pa_nil)))) (pe_cal c_law_next hr (pa_cons (pv 0) (pa_cons pe_int pa_nil))) (fun _ _ => rfl)) pe_int))
    (pss_cons (ps_while PassesOwn.never (pt_cmpR op_in_seq (pv 5) (pv 2) (by rfl)) (pss_one (ps_set (i := 5) sc_law_places.nd rfl (.inl rfl) (pe_op op_mod (pe_op op_add (pv 5) pe_int) pe_int))))
    (pss_one (ps_expr (pe_bm PySem.F.plainAttrs_list PySem.F.slot_list_append PySem.F.type_list_append mt_append (pv 2) (pa_cons (pv 5) pa_nil)))))))
    (pss_one (ps_ret (pv 2)))))), ?_⟩
    refine ⟨Nat.zero_le _, fun l hl => ?_⟩
    have e1 := Ex.new (o := .lst []) hl
    have lS : l ≠ S := fun z => by obtain ⟨a, b, c, h⟩ := hS; rw [← z, hl] at h; cases h
    refine ⟨_, rfl, S, 256, rfl, hS.ex e1, by decide, by decide, fun off H1 ho0 ho1 s1 => ?_⟩
    have sA := (StS.of_ex e1 hS).trans s1
    refine ⟨_, rfl, _, rfl, by omega, by omega, ?_⟩
    refine for_range (lo := 0) (n := n) (fun i σ H' => ∃ xs : List Int, StS S H H' ∧ H' l = some (.lst (ivs xs)) ∧ xs.length = i ∧ xs.Nodup ∧ (∀ x ∈ xs, IsB x) ∧ ∃ v4 v5, σ = [some (.ref S), some (.int n), some (.ref l), some (.int off), v4, v5])
      ⟨[], sA, s1.1 _ _ upd_same lS, rfl, .nil, (fun x hx => nomatch hx), none, none, rfl⟩ ?_ ?_
    · rintro i σ H' hi ⟨xs, hs, hx, hlen, hnd, hB, v4, v5, rfl⟩
      refine ⟨_, rfl, S, 256, rfl, hs.2, by decide, by decide, fun r H2 r0 r1 s2 => ⟨_, rfl, _, rfl, _, _, rfl, rfl, _, rfl, _, _, rfl, rfl, sz_3, fun t ht => ?_⟩⟩
      have e3 := Ex.new (o := .lst [.int r, .int (off + (0 + (i : Int))), .int (255 - (0 + (i : Int)))]) ht
      have tS : t ≠ S := fun z => by obtain ⟨a, b, c, h⟩ := s2.2; rw [← z, ht] at h; cases h
      refine ⟨_, rfl, S, 3, rfl, s2.2.ex e3, by decide, by decide, fun r3 H3 q0 q1 s3 => ?_⟩
      obtain ⟨z, hz⟩ := pick3 (a := r) (b := off + (0 + (i : Int))) (c := 255 - (0 + (i : Int))) q0 q1
      refine ⟨_, _, _, _, rfl, rfl, SqL.of (s3.1 _ _ upd_same tS), hz, _, _, rfl, rfl, (by show (0 : Int) < 256; decide), ?_⟩
      have sB : StS S H H3 := (hs.trans (s2.ex e3)).trans s3
      have hx3 : H3 l = some (.lst (ivs xs)) := s3.1 _ _ (e3 _ _ (s2.1 _ _ hx lS)) lS
      obtain ⟨g, hg, hgx⟩ := free_near (xs := xs) (by omega)
      refine while_by (fun σ H4 => H4 = H3 ∧ ∃ p : Int, IsB p ∧ σ = [some (.ref S), some (.int n), some (.ref l), some (.int off), some (.int (0 + (i : Int))), some (.int p)])
        (fun σ _ => match σ with | [_, _, _, _, _, some (.int p)] => ((g - p) % 256).toNat | _ => 0) ⟨rfl, z % 256, mod_B z, rfl⟩ ?_ (fun σ H1 Q1 Q2 k1 k2 => ?_)
      · rintro σ H4 ⟨rfl, p, hp, rfl⟩
        refine ⟨_, rfl, _, rfl, l, _, rfl, .inl (SqL.of hx3), rfl, flat_ivs _, _, rfl, ?_⟩
        have hv := inV_ivs p xs
        by_cases hm : p ∈ xs
        · rw [decide_eq_true hm] at hv
          show (if (inV (V.int p) (ivs xs)) = true then _ else _)
          rw [hv, if_pos rfl]
          refine ⟨_, rfl, _, _, rfl, rfl, _, _, rfl, rfl, (by show (0 : Int) < 256; decide), ⟨rfl, (p + 1) % 256, mod_B _, rfl⟩, ?_⟩
          show ((g - (p + 1) % 256) % 256).toNat < ((g - p) % 256).toNat
          have : g ≠ p := fun z => hgx (z ▸ hm)
          unfold IsB at hp hg
          omega
        · rw [decide_eq_false hm] at hv
          show (if (inV (V.int p) (ivs xs)) = true then _ else _)
          rw [hv, if_neg (by decide)]
          refine ⟨_, rfl, .inl ⟨rfl, _, SqL.of hx3⟩, _, rfl, l, _, _, rfl, rfl, hx3, by rw [ivs_len]; exact szlt (by omega), xs ++ [p], ?_, ?_, by simp [hlen], ?_, ?_, _, _, rfl⟩
          · exact ⟨fun a o ha ne => by rw [upd_ne (fun z => by rw [z, hl] at ha; cases ha)]; exact sB.1 a o ha ne, by obtain ⟨a, b, c, h⟩ := sB.2; exact ⟨a, b, c, by rw [upd_ne lS.symm]; exact h⟩⟩
          · rw [upd_same]
            simp [ivs]
          · refine List.nodup_append.mpr ⟨hnd, by simp, fun a ha b hb e => hm ?_⟩
            have y : b = p := by simpa using hb
            rw [← y, ← e]
            exact ha
          · intro x hx
            rcases List.mem_append.mp hx with y | y
            · exact hB x y
            · have : x = p := by simpa using y
              rw [this]; exact hp
      · obtain ⟨a1, a2, a3, a4, a5, a6, a7, a8, a9, a10, bb, ee, k2⟩ := k2
        exact ⟨a1, a2, a3, a4, a5, a6, a7, a8, a9, a10, bb, ee, k1 _ _ k2⟩
    · rintro σ H' ⟨xs, hs, hx, hlen, hnd, hB, v4, v5, rfl⟩
      exact ⟨_, rfl, q l xs H' hs hl hx hlen hnd hB⟩
end
end K54

set_option Elab.async false
set_option linter.all false
set_option maxRecDepth 100000
set_option maxHeartbeats 4000000
/-! The law's own defs: table. -/
namespace K54
open PySem PySem.Spec PyProof.Rows L2 Evl
def oth (xs : List Int) (p : Int) : List Int := xs.filter fun x => !decide (x = p)
theorem mem_oth {xs : List Int} {p x : Int} : x ∈ oth xs p ↔ x ∈ xs ∧ x ≠ p := by
  unfold oth
  rw [List.mem_filter]
  simp
structure TE' (xs : List Int) (t : Int × Addr × List (Int × Int)) : Prop where
  nd : (t.2.2.map (·.1)).Nodup
  inn : ∀ q ∈ t.2.2, q.1 ∈ oth xs t.1 ∧ q.2 ∈ oth xs t.1
theorem tvok {xs : List Int} {tb : TB} (h6 : xs.length ≤ 6) (h1 : 1 ≤ xs.length) (hn : xs.Nodup) (hB : ∀ x ∈ xs, IsB x) (e : tb.map (·.1) = xs) (ht : ∀ t ∈ tb, TE' xs t) : TvOk (tview tb) := by
  have hl : tb.length = xs.length := by rw [← e, List.length_map]
  have tl : (tview tb).length = tb.length := by simp [tview]
  refine ⟨by rw [plcs_view, e]; exact hn, by omega, by omega, fun p hp => hB p (by rw [plcs_view, e] at hp; exact hp), fun t hm => ?_, fun t hm q hq => ?_⟩
  · obtain ⟨u, hu, rfl⟩ := List.mem_map.mp hm
    refine ⟨(ht u hu).nd, ?_⟩
    have := nodup_sub (ht u hu).nd (s := xs) fun x hx => by
      obtain ⟨q, hq, rfl⟩ := List.mem_map.mp hx
      exact (mem_oth.mp ((ht u hu).inn q hq).1).1
    rw [List.length_map] at this
    show u.2.2.length ≤ 6
    omega
  · obtain ⟨u, hu, rfl⟩ := List.mem_map.mp hm
    obtain ⟨a, b⟩ := (ht u hu).inn q hq
    rw [plcs_view, e]
    exact ⟨(mem_oth.mp a).1, (mem_oth.mp a).2, (mem_oth.mp b).1, (mem_oth.mp b).2⟩
section
variable {P : Program} {w : World} {K : PySem.W.Frag} {mg : Str → Option Value} {base : Heap}
theorem cal_law_table (T : TX K mg) (c_law_places : Cal P w K mg base "_law_places" 2 (sp_law_places K)) (c_law_next : Cal P w K mg base "_law_next" 1 (sp_law_next K)) : Cal P w K mg base "_law_table" 3 (sp_law_table K) := by
  obtain ⟨fd, F⟩ := T.df_law_table
  have hb : Binds K fd ["_law_state_here", "_law_most"] [] := F.bindsN fun _ _ _ _ _ _ us hl => match us, hl with | [_, _], _ => rfl
  refine Cal.mk2 T.g_law_table F.kp hb (F.ok (CX := CX0) (k := 2) sc_law_table (fun vs H Q E h => ?_) (fun cdv A outer s H vs Q E hr h => ?_))
  · obtain ⟨_, rfl, _⟩ := h
    rfl
  · obtain ⟨S, rfl, hS, q⟩ := h
    refine ⟨_, PSs.nox (pss_cons (ps_set (i := 2) sc_law_table.nd rfl (.inl rfl) (pe_cal c_law_places hr (pa_cons (pv 0) (pa_cons (pe_op op_add pe_int (pe_cal c_law_next (hr.mono (by decide)) (pa_cons (pv 0) (pa_cons (pv 1) pa_nil)))) pa_nil))))
    (pss_cons (ps_set (i := 3) sc_law_table.nd rfl (.inl rfl) (pe_cal c_law_next (hr.mono (by decide)) (pa_cons (pv 0) (pa_cons pe_int pa_nil))))
    (pss_cons (ps_set (i := 4) sc_law_table.nd rfl (.inl rfl) pe_dnewK)
    (pss_cons (ps_for PassesOwn.never rfl (pi_list (pv 2)) (pg_name (i := 5) sc_law_table.nd rfl (.inr rfl)) (pss_cons (ps_setLc (i := 6) (own := [("_law_one", 9)]) rfl sc_law_table.nd rfl rfl (sw_true rfl rfl rfl (by decide +kernel)) (pi_list (pv 2)) (blkOk_by (own := [("_law_one", 9)]) (N := sn_law_table) (sc := defScope s_law_table) (by decide +kernel)) (fun _ _ _ _ _ => pg_name (i := 9) sc_law_table.nd rfl (.inl rfl)) (fun _ _ _ _ _ => (pts_one (pt_cmpR op_ne (pv 9) (pv 5) (nomark _)))) (fun _ _ _ _ _ => (pv 9)))
    (pss_cons (ps_dput (hu_of hr) (pv 4) (pv 5) pe_dnewK rfl)
    (pss_one (ps_for PassesOwn.never rfl (pi_list (pv 6)) (pg_name (i := 7) sc_law_table.nd rfl (.inl rfl)) (pss_cons (ps_set (i := 8) sc_law_table.nd rfl (.inl rfl) (pe_ix ix_list (pv 6) (pe_cal c_law_next (hr.mono (by decide)) (pa_cons (pv 0) (pa_cons (pe_callB call_len_seq (by rfl) T.f_len bt_len (pa_cons (pv 6) pa_nil)) pa_nil))) (fun _ _ => rfl)))
    (pss_one (ps_if (PW.pt (pw_or (pt_cmpR op_eq (pv 3) pe_int (nomark _)) (pw_or1 (pt_cmpR op_gt (pe_cal c_law_next (hr.mono (by decide)) (pa_cons (pv 0) (pa_cons (pe_op op_add pe_int (pe_op op_mul pe_int (pv 3))) pa_nil))) pe_int (nomark _))))) (pss_one (ps_dput (hu_of hr) (pe_dget (hu_of hr) (pv 4) (pv 5) (fun _ _ => rfl)) (pv 7) (pv 8) rfl)) pss_nil))))))))
    (pss_one (ps_ret (pv 4))))))), ?_⟩
    refine ⟨_, rfl, _, rfl, _, rfl, S, 6, rfl, hS, by decide, by decide, fun r0 H1 r00 r01 s1 => ⟨_, _, rfl, rfl, S, (1 + r0).toNat, (by rw [show (((1 + r0).toNat : Nat) : Int) = 1 + r0 by omega]; rfl), s1.2, by omega, fun l xs H2 s2 nl hxs hlen hnd hB => ?_⟩⟩
    refine ⟨_, rfl, S, 3, rfl, s2.2, by decide, by decide, fun lk H3 lk0 lk1 s3 => ?_⟩
    have sA := (s1.trans s2).trans s3
    have lS : l ≠ S := fun z => by
      obtain ⟨a, b, c, h⟩ := s1.2
      rw [z, h] at nl
      cases nl
    have hx3 := s3.1 _ _ hxs lS
    refine fun d hd => ⟨_, rfl, l, rfl, ⟨_, SqL.of (Ex.new hd _ _ hx3)⟩, ?_⟩
    have e4 := Ex.new (o := .dK []) hd
    have nd0 : H d = none := sA.none hS hd
    have dS : d ≠ S := fun z => by obtain ⟨a, b, c, h⟩ := s3.2; rw [z, h] at hd; cases hd
    refine for_list (K := K) (a := l) (xs := ivs xs) (fun i σ H' => ∃ tb : TB, StS S H H' ∧ H' l = some (.lst (ivs xs)) ∧ H' d = some (.dK (tout tb)) ∧ (∀ t ∈ tb, H' t.2.1 = some (.dK (tin t.2.2)) ∧ t.2.1 ≠ d ∧ TE' xs t) ∧ tb.map (·.1) = xs.take i ∧ ∃ v5 v6 v7 v8 v9, σ = [some (.ref S), some (.int 6), some (.ref l), some (.int lk), some (.ref d), v5, v6, v7, v8, v9])
      ⟨[], sA.ex e4, e4 _ _ hx3, upd_same, (fun t ht => nomatch ht), rfl, none, none, none, none, none, rfl⟩ (fun i σ H' _ hh => SqL.of hh.choose_spec.2.1) ?_ ?_
    · rintro i x σ H' hx ⟨tb, hs, hl', hd', hi', htb, v5, v6, v7, v8, v9, rfl⟩
      obtain ⟨p, hp, rfl⟩ := ivs_get hx
      have hpm := List.mem_of_getElem? hp
      have hilt := (List.getElem?_eq_some_iff.mp hp).1
      refine ⟨_, rfl, l, rfl, ⟨_, SqL.of hl'⟩, fun D hD => lc_list (xs := ivs xs) (fun j H'' => Ex H' H'' ∧ H'' D = some (.lst (ivs (oth (xs.take j) p)))) ⟨Ex.new hD, upd_same⟩ (fun j H'' _ hh => SqL.of (hh.1 _ _ hl')) (fun j x H'' hx2 hh => ?_) (fun H'' hh => ?_)⟩
      · obtain ⟨e5, h5⟩ := hh
        obtain ⟨y, hy, rfl⟩ := ivs_get hx2
        refine ⟨rfl, _, rfl, _, rfl, rfl, _, rfl, ?_⟩
        have t1 : oth (xs.take (j + 1)) p = oth (xs.take j) p ++ (if y = p then [] else [y]) := by
          unfold oth
          rw [take_succ' hy, List.filter_append]
          congr 1
          by_cases z : y = p
          · rw [if_pos z, List.filter_cons_of_neg (by simp [z])]
            rfl
          · rw [if_neg z, List.filter_cons_of_pos (by simp [z])]
            rfl
        by_cases z : y = p
        · have e0 : (!decide (V.int y = V.int p)) = false := by rw [decide_eq_true (by rw [z])]; rfl
          rw [e0]
          refine ⟨e5, ?_⟩
          rw [t1, if_pos z, List.append_nil]
          exact h5
        · have e0 : (!decide (V.int y = V.int p)) = true := by rw [decide_eq_false fun q => z (by injection q)]; rfl
          rw [e0]
          have hol : (oth (xs.take j) p).length ≤ 6 := by
            have : (oth (xs.take j) p).length ≤ (xs.take j).length := List.length_filter_le _ _
            rw [List.length_take] at this
            omega
          refine ⟨_, rfl, _, h5, by rw [ivs_len]; exact szlt (by omega), Ex.mut e5 hD, ?_⟩
          rw [upd_same, t1, if_neg z]
          simp [ivs]
      · obtain ⟨e5, h5⟩ := hh
        rw [ivs_len, List.take_length] at h5
        have sB := hs.ex e5
        refine fun e he => ?_
        have e6 := Ex.new (o := .dK []) he
        have hd6 := (e5.trans e6) _ _ hd'
        have hpn : ¬ p ∈ tb.map (·.1) := by
          rw [htb]
          intro hm
          obtain ⟨j, hj⟩ := List.getElem?_of_mem hm
          have hjl := (List.getElem?_eq_some_iff.mp hj).1
          rw [List.length_take] at hjl
          rw [List.getElem?_take] at hj
          split at hj
          · have := nd_ix hnd hj hp
            omega
          · cases hj
        have hvn : valV (tout tb) (Sum.inl p) = none := by
          rw [valV_tout]
          cases hf : tb.find? fun t => decide (t.1 = p) with
          | none => rfl
          | some t => exact absurd (List.mem_map.mpr ⟨t, List.mem_of_find?_eq_some hf, by simpa using List.find?_some hf⟩) hpn
        have htl : tb.length ≤ 6 := by
          have := congrArg List.length htb
          rw [List.length_map, List.length_take] at this
          omega
        have tl : (tout tb).length = tb.length := by simp [tout]
        refine ⟨_, rfl, _, rfl, d, _, rfl, DPut.k (k := Sum.inl p) hd6 (by rw [tl]; exact szlt (by omega)), ?_⟩
        have pk : putK (tout tb) (Sum.inl p) (.ref e) = tout (tb ++ [(p, e, [])]) := by
          rw [putK_new _ hvn]
          simp [tout]
        rw [pk]
        have ed : e ≠ d := fun z => by rw [z, e5 _ _ hd'] at he; cases he
        have es : e ≠ S := fun z => by obtain ⟨a, b, c, h⟩ := sB.2; rw [z, h] at he; cases he
        have D6 := e6 _ _ h5
        have DS : D ≠ S := fun z => by obtain ⟨a, b, c, h⟩ := sB.2; rw [z] at hD; obtain ⟨a2, b2, c2, h'⟩ := hs.2; rw [h'] at hD; cases hD
        have sC : StS S H (upd (upd H'' e (.dK [])) d (.dK (tout (tb ++ [(p, e, [])])))) := ⟨fun a o ha ne => by
          rw [upd_ne (fun z => by rw [z, nd0] at ha; cases ha)]
          exact e6 _ _ (sB.1 a o ha ne), by
          obtain ⟨a, b, c, h⟩ := sB.2
          exact ⟨a, b, c, by rw [upd_ne dS.symm]; exact e6 _ _ h⟩⟩
        have ne0 : H e = none := hs.none hS (fresh_back e5 he)
        have os6 : (oth xs p).length ≤ 6 := Nat.le_trans (List.length_filter_le _ _) (by omega)
        refine ⟨_, rfl, D, rfl, ⟨_, SqL.of (by rw [upd_ne (ne_of D6 hd6 (fun z => nomatch z))]; exact D6)⟩, ?_⟩
        refine for_list (K := K) (a := D) (xs := ivs (oth xs p)) (fun j σ H4 => ∃ ws : List (Int × Int), StS S H H4 ∧ H4 l = some (.lst (ivs xs)) ∧ H4 D = some (.lst (ivs (oth xs p))) ∧ H4 d = some (.dK (tout (tb ++ [(p, e, [])]))) ∧ H4 e = some (.dK (tin ws)) ∧ (∀ t ∈ tb, H4 t.2.1 = some (.dK (tin t.2.2)) ∧ t.2.1 ≠ d ∧ TE' xs t) ∧ (ws.map (·.1)).Sublist ((oth xs p).take j) ∧ (∀ q ∈ ws, q.2 ∈ oth xs p) ∧ ∃ v7 v8 v9, σ = [some (.ref S), some (.int 6), some (.ref l), some (.int lk), some (.ref d), some (.int p), some (.ref D), v7, v8, v9])
          ⟨[], sC, by rw [upd_ne (ne_of ((e5.trans e6) _ _ hl') hd6 (fun z => nomatch z))]; exact (e5.trans e6) _ _ hl', by rw [upd_ne (ne_of D6 hd6 (fun z => nomatch z))]; exact D6, upd_same, by rw [upd_ne ed, upd_same]; rfl, fun t ht => ⟨by rw [upd_ne (hi' t ht).2.1]; exact (e5.trans e6) _ _ (hi' t ht).1, (hi' t ht).2⟩, by simp, (fun t ht => nomatch ht), _, _, _, rfl⟩ (fun i σ H' _ hh => SqL.of hh.choose_spec.2.2.1) ?_ ?_
        · rintro j x σ H4 hx3 ⟨ws, g1, g2, g3, g4, g5, g6, g7, g8, v7, v8, v9, rfl⟩
          obtain ⟨t, ht, rfl⟩ := ivs_get hx3
          have htm := List.mem_of_getElem? ht
          have hjl := (List.getElem?_eq_some_iff.mp ht).1
          refine ⟨_, rfl, _, rfl, _, rfl, D, _, rfl, .inl (SqL.of g3), S, _, rfl, g1.2, by rw [ivs_len]; omega, by rw [ivs_len]; omega, fun r H5 r10 r11 s5 => ?_⟩
          obtain ⟨r, rfl⟩ := Int.eq_ofNat_of_zero_le r10
          rw [ivs_len] at r11
          have hr : r < (oth xs p).length := by omega
          have up5 : ∀ a o, H4 a = some o → a ≠ S → H5 a = some o := s5.1
          have k2 := up5 _ _ g2 lS
          have k3 := up5 _ _ g3 DS
          have k4 := up5 _ _ g4 dS
          have k5 := up5 _ _ g5 es
          have k6 : ∀ t ∈ tb, H5 t.2.1 = some (.dK (tin t.2.2)) ∧ t.2.1 ≠ d ∧ TE' xs t := fun t ht => ⟨up5 _ _ (g6 t ht).1 (fun z => by obtain ⟨a, b, c, h⟩ := g1.2; rw [← z, (g6 t ht).1] at h; cases h), (g6 t ht).2⟩
          have k1 := g1.trans s5
          refine ⟨_, _, _, _, rfl, rfl, SqL.of k3, atI_nat (v := .int (oth xs p)[r]) ?_, ?_⟩
          · unfold ivs
            rw [List.getElem?_map, List.getElem?_eq_getElem hr]
            rfl
          have hym : (oth xs p)[r] ∈ oth xs p := List.getElem_mem hr
          generalize (oth xs p)[r] = y at hym
          have fin : ∀ H6, StS S H H6 → H6 l = some (.lst (ivs xs)) → H6 D = some (.lst (ivs (oth xs p))) → H6 d = some (.dK (tout (tb ++ [(p, e, [])]))) → H6 e = some (.dK (tin ws)) → (∀ t ∈ tb, H6 t.2.1 = some (.dK (tin t.2.2)) ∧ t.2.1 ≠ d ∧ TE' xs t) → DGet H6 d (.int p) (some (.ref e)) ∧ DPut H6 e (.int t) (.int y) (upd H6 e (.dK (tin (ws ++ [(t, y)])))) ∧ ∃ ws' : List (Int × Int), StS S H (upd H6 e (.dK (tin (ws ++ [(t, y)])))) ∧ (upd H6 e (.dK (tin (ws ++ [(t, y)])))) l = some (.lst (ivs xs)) ∧ (upd H6 e (.dK (tin (ws ++ [(t, y)])))) D = some (.lst (ivs (oth xs p))) ∧ (upd H6 e (.dK (tin (ws ++ [(t, y)])))) d = some (.dK (tout (tb ++ [(p, e, [])]))) ∧ (upd H6 e (.dK (tin (ws ++ [(t, y)])))) e = some (.dK (tin ws')) ∧ (∀ t' ∈ tb, (upd H6 e (.dK (tin (ws ++ [(t, y)])))) t'.2.1 = some (.dK (tin t'.2.2)) ∧ t'.2.1 ≠ d ∧ TE' xs t') ∧ (ws'.map (·.1)).Sublist ((oth xs p).take (j + 1)) ∧ (∀ q ∈ ws', q.2 ∈ oth xs p) := by
            intro H6 f1 f2 f3 f4 f5 f6
            have hne : ∀ t ∈ tb, t.2.1 ≠ e := fun t ht => ne_of_none (e5 _ _ (hi' t ht).1) he
            have htn : ¬ t ∈ ws.map (·.1) := fun hm => by
              obtain ⟨i2, hi2⟩ := List.getElem?_of_mem (g7.subset hm)
              have hil := (List.getElem?_eq_some_iff.mp hi2).1
              rw [List.length_take] at hil
              rw [List.getElem?_take] at hi2
              split at hi2
              · have := nd_ix (hnd.filter _) hi2 ht
                omega
              · cases hi2
            have hvt : valV (tin ws) (Sum.inl t) = none := by
              rw [valV_tin]
              cases hf : ws.find? fun q => decide (q.1 = t) with
              | none => rfl
              | some q => exact absurd (List.mem_map.mpr ⟨q, List.mem_of_find?_eq_some hf, by simpa using List.find?_some hf⟩) htn
            have hwl : ws.length ≤ 6 := by
              have := g7.length_le
              rw [List.length_map, List.length_take] at this
              omega
            have pk2 : putK (tin ws) (Sum.inl t) (.int y) = tin (ws ++ [(t, y)]) := by
              rw [putK_new _ hvt]
              simp [tin]
            refine ⟨?_, ?_, ws ++ [(t, y)], ?_, by rw [upd_ne (ne_of f2 f5 (fun z => nomatch z))]; exact f2, by rw [upd_ne (ne_of f3 f5 (fun z => nomatch z))]; exact f3, by rw [upd_ne ed.symm]; exact f4, upd_same, fun t' ht' => ⟨by rw [upd_ne (hne t' ht')]; exact (f6 t' ht').1, (f6 t' ht').2⟩, ?_, fun q hq => ?_⟩
            · have := DGet.k (k := Sum.inl p) f4
              have ev : valV (tout (tb ++ [(p, e, [])])) (Sum.inl p) = some (.ref e) := by
                rw [valV_tout, List.find?_append]
                cases hf : tb.find? fun t => decide (t.1 = p) with
                | none => simp
                | some t => exact absurd (List.mem_map.mpr ⟨t, List.mem_of_find?_eq_some hf, by simpa using List.find?_some hf⟩) hpn
              rw [ev] at this
              exact this
            · have := DPut.k (k := Sum.inl t) (v := .int y) f5 (by rw [show (tin ws).length = ws.length by simp [tin]]; exact szlt (by omega))
              rw [pk2] at this
              exact this
            · refine ⟨fun a o ha ne => ?_, ?_⟩
              · rw [upd_ne (fun z => by rw [z, ne0] at ha; cases ha)]
                exact f1.1 a o ha ne
              · obtain ⟨a, b, c, h⟩ := f1.2
                exact ⟨a, b, c, by rw [upd_ne es.symm]; exact h⟩
            · rw [take_succ' ht, List.map_append]
              exact g7.append (List.Sublist.refl _)
            · rcases List.mem_append.mp hq with z | z
              · exact g8 q z
              · have : q = (t, y) := by simpa using z
                rw [this]; exact hym
          have skip : ∀ H6, StS S H H6 → H6 l = some (.lst (ivs xs)) → H6 D = some (.lst (ivs (oth xs p))) → H6 d = some (.dK (tout (tb ++ [(p, e, [])]))) → H6 e = some (.dK (tin ws)) → (∀ t ∈ tb, H6 t.2.1 = some (.dK (tin t.2.2)) ∧ t.2.1 ≠ d ∧ TE' xs t) → ∃ ws' : List (Int × Int), StS S H H6 ∧ H6 l = some (.lst (ivs xs)) ∧ H6 D = some (.lst (ivs (oth xs p))) ∧ H6 d = some (.dK (tout (tb ++ [(p, e, [])]))) ∧ H6 e = some (.dK (tin ws')) ∧ (∀ t ∈ tb, H6 t.2.1 = some (.dK (tin t.2.2)) ∧ t.2.1 ≠ d ∧ TE' xs t) ∧ (ws'.map (·.1)).Sublist ((oth xs p).take (j + 1)) ∧ (∀ q ∈ ws', q.2 ∈ oth xs p) := fun H6 f1 f2 f3 f4 f5 f6 =>
            ⟨ws, f1, f2, f3, f4, f5, f6, g7.trans (by rw [take_succ' ht]; exact List.sublist_append_left _ _), g8⟩
          refine ⟨_, rfl, rfl, _, rfl, ?_⟩
          by_cases hz : lk = 0
          · rw [decide_eq_true (by rw [hz])]
            obtain ⟨f1, f2, ws', f3, f4, f5, f6, f7, f8, f9, f10⟩ := fin H5 k1 k2 k3 k4 k5 k6
            exact iteT ⟨_, rfl, _, rfl, _, rfl, d, _, rfl, f1, _, rfl, e, _, rfl, f2, ws', f3, f4, f5, f6, f7, f8, f9, f10, _, _, _, rfl⟩
          · rw [decide_eq_false fun q => hz (by injection q)]
            refine iteF ⟨_, rfl, _, rfl, _, _, rfl, rfl, .inl ⟨by decide, by decide⟩, _, _, rfl, rfl, S, _, rfl, k1.2, by omega, by omega, fun r2 H6 r20 r21 s6 => ⟨_, _, rfl, rfl, _, rfl, ?_⟩⟩
            have up6 : ∀ a o, H5 a = some o → a ≠ S → H6 a = some o := s6.1
            have m2 := up6 _ _ k2 lS
            have m3 := up6 _ _ k3 DS
            have m4 := up6 _ _ k4 dS
            have m5 := up6 _ _ k5 es
            have m6 : ∀ t ∈ tb, H6 t.2.1 = some (.dK (tin t.2.2)) ∧ t.2.1 ≠ d ∧ TE' xs t := fun t ht => ⟨up6 _ _ (k6 t ht).1 (fun z => by obtain ⟨a, b, c, h⟩ := k1.2; rw [← z, (k6 t ht).1] at h; cases h), (k6 t ht).2⟩
            have m1 := k1.trans s6
            cases decide ((0 : Int) < r2) with
            | true =>
              obtain ⟨f1, f2, ws', f3, f4, f5, f6, f7, f8, f9, f10⟩ := fin H6 m1 m2 m3 m4 m5 m6
              exact iteT ⟨_, rfl, _, rfl, _, rfl, d, _, rfl, f1, _, rfl, e, _, rfl, f2, ws', f3, f4, f5, f6, f7, f8, f9, f10, _, _, _, rfl⟩
            | false =>
              obtain ⟨ws', f3, f4, f5, f6, f7, f8, f9, f10⟩ := skip H6 m1 m2 m3 m4 m5 m6
              exact iteF ⟨ws', f3, f4, f5, f6, f7, f8, f9, f10, _, _, _, rfl⟩
        · rintro σ H4 ⟨ws, g1, g2, g3, g4, g5, g6, g7, g8, v7, v8, v9, rfl⟩
          rw [ivs_len, List.take_length] at g7
          refine ⟨tb ++ [(p, e, ws)], g1, g2, by rw [g4]; simp [tout], fun t ht => ?_, by rw [List.map_append, htb, take_succ' hp]; rfl, _, _, _, _, _, rfl⟩
          rcases List.mem_append.mp ht with z | z
          · exact g6 t z
          · have : t = (p, e, ws) := by simpa using z
            rw [this]
            exact ⟨g5, ed, g7.nodup (hnd.filter _), fun q hq => ⟨g7.subset (List.mem_map_of_mem hq), g8 q hq⟩⟩
    · rintro σ H' ⟨tb, hs, hl', hd', hi', htb, v5, v6, v7, v8, v9, rfl⟩
      rw [ivs_len, List.take_length] at htb
      exact ⟨_, rfl, q d (tview tb) H' hs nd0 ⟨tb, rfl, hd', fun t ht => (hi' t ht).1⟩ (tvok (by omega) (by omega) hnd hB htb fun t ht => (hi' t ht).2.2)⟩
end
end K54

set_option Elab.async false
set_option linter.all false
set_option maxRecDepth 100000
set_option maxHeartbeats 4000000
/-! The law's own defs: fields, like. -/
namespace K54
open PySem PySem.Spec PyProof.Rows L2 Evl
def bsum (l : List Bool) : List Int := (List.range 8).map fun k => b2z (l.getD k false) * 2 ^ (7 - k)
theorem bsum_nat (l : List Bool) (h : l.length = 8) : (bsum l).sum = ((natOf l : Nat) : Int) := by
  match l, h with
  | [a, b, c, d, e, f, g, i], _ =>
    have : bsum [a, b, c, d, e, f, g, i] = [b2z a * 128, b2z b * 64, b2z c * 32, b2z d * 16, b2z e * 8, b2z f * 4, b2z g * 2, b2z i * 1] := rfl
    rw [this]
    simp only [natOf_cons, natOf_nil, List.sum_cons, List.sum_nil, List.length_cons, List.length_nil, b2z_b2n]
    omega
theorem row_get {bs : List Bool} {n j : Nat} : (rowOf bs n).length = n := rowOf_len bs n
section
variable {P : Program} {w : World} {K : PySem.W.Frag} {mg : Str → Option Value} {base : Heap}
theorem cal_law_fields (T : TX K mg) : Cal P w K mg base "_law_fields" 1 (sp_law_fields K) := by
  obtain ⟨fd, F⟩ := T.df_law_fields
  have hb : Binds K fd ["_law_bits"] [] := F.bindsN fun _ _ _ _ _ _ us hl => match us, hl with | [_], _ => rfl
  refine Cal.mk2 T.g_law_fields F.kp hb (F.ok (CX := CX0) (k := 0) sc_law_fields (fun vs H Q E h => ?_) (fun cdv A outer s H vs Q E hr h => ?_))
  · obtain ⟨_, _, _, rfl, _⟩ := h
    rfl
  · obtain ⟨b, bs, n, rfl, hb, hbl, h14, h17, q⟩ := h
    refine ⟨_, PSs.nox (pss_cons (ps_set (i := 1) sc_law_fields.nd rfl (.inl rfl) (pe_lst pa_nil))
    (pss_cons (ps_for PassesOwn.never rfl (pi_range3 rfl T.f_range (pa_cons pe_int (pa_cons (pe_op op_sub (pe_callB call_len_seq (by rfl) T.f_len bt_len (pa_cons (pv 0) pa_nil)) pe_int) (pa_cons pe_int pa_nil)))) (pg_name (i := 2) sc_law_fields.nd rfl (.inr rfl)) (pss_one (ps_expr (pe_bm PySem.F.plainAttrs_list PySem.F.slot_list_append PySem.F.type_list_append mt_append (pv 1) (pa_cons (pe_callB (cr_sum rfl) (by rfl) T.f_sum bt_sum (pa_cons (pe_lc (own := [("_law_k", 4)]) rfl sc_law_fields.nd (pi_range1 rfl T.f_range (pa_cons pe_int pa_nil)) (blkOk_by (own := [("_law_k", 4)]) (N := sn_law_fields) (sc := defScope s_law_fields) (by decide +kernel)) (fun _ _ _ _ _ => pg_name (i := 4) sc_law_fields.nd rfl (.inl rfl)) (fun _ _ _ _ _ => pts_nil) (fun _ _ _ _ _ => (pe_op op_shl (pe_ix (ix_tupc K) (pv 0) (pe_op op_add (pv 2) (pv 4)) (fun _ _ => rfl)) (pe_op op_sub pe_int (pv 4))))) pa_nil)) pa_nil)))))
    (pss_cons (ps_set (i := 3) sc_law_fields.nd rfl (.inl rfl) (pe_op op_add (pe_op op_mul (pe_ix ix_list (pv 1) pe_int (fun _ _ => rfl)) pe_int) (pe_ix ix_list (pv 1) pe_int (fun _ _ => rfl))))
    (pss_one (ps_ret (pe_tup (pa_cons (pe_ix ix_list (pv 1) pe_int (fun _ _ => rfl)) (pa_cons (pe_ix ix_list (pv 1) pe_int (fun _ _ => rfl)) (pa_cons (pe_ix ix_list (pv 1) pe_int (fun _ _ => rfl)) (pa_cons (pe_ix ix_list (pv 1) pe_int (fun _ _ => rfl)) (pa_cons (pv 3) (pa_cons (pe_op op_add (pe_op op_mul (pe_ix ix_list (pv 1) pe_int (fun _ _ => rfl)) pe_int) (pe_ix ix_list (pv 1) pe_int (fun _ _ => rfl))) (pa_cons (pe_cmpR op_eq (pe_ix ix_list (pv 1) pe_int (fun _ _ => rfl)) pe_int (nomark _)) (pa_cons (pe_callTy call_tuple_of (by rfl) T.f_tuple bt_tuple (pa_cons (pe_slice sl_list (pv 1) (po_some pe_int) po_none) pa_nil)) pa_nil)))))))))))))), ?_⟩
    refine ⟨Nat.zero_le _, fun r hr => ?_⟩
    have e1 := Ex.new (o := .lst []) hr
    have rg : RgC 0 (((bvs bs).length : Nat) - 16) 8 n := by
      rw [bvs_len, hbl]
      have : n = 14 ∨ n = 15 ∨ n = 16 ∨ n = 17 := by omega
      rcases this with rfl | rfl | rfl | rfl <;> exact ⟨by decide, by decide, by decide, by decide⟩
    refine ⟨_, rfl, b, _, rfl, .inr (SqT.of (e1 _ _ hb)), _, _, rfl, rfl, 0, _, 8, n, rfl, rg, ?_⟩
    refine for_rangeC (lo := 0) (c := 8) (n := n) (fun i σ H' => Ex H H' ∧ H' r = some (.lst (ivs (rowOf bs i))) ∧ ∃ v2 v3 v4, σ = [some (.ref b), some (.ref r), v2, v3, v4]) ⟨e1, upd_same, none, none, none, rfl⟩ ?_ ?_
    · rintro i σ H' hi ⟨e2, hrow, v2, v3, v4, rfl⟩
      have hl8 : ((bs.drop (8 * i)).take 8).length = 8 := by
        rw [List.length_take, List.length_drop]
        omega
      refine ⟨_, rfl, .inl ⟨rfl, _, SqL.of hrow⟩, 8, rfl, by decide, by decide, fun D hD => lcR (n := 8) (fun k => .int (b2z (((bs.drop (8 * i)).take 8).getD k false) * 2 ^ (7 - k))) hD (by omega) (fun x => rfl) (fun k H3 hk e3 Q1 k3 => ?_) (fun H3 e3 hq => ?_)⟩
      · have hc : bs[8 * i + k]? = some (((bs.drop (8 * i)).take 8).getD k false) := by
          have : ((bs.drop (8 * i)).take 8)[k]? = bs[8 * i + k]? := by
            rw [List.getElem?_take, if_pos hk, List.getElem?_drop]
          rw [List.getD_eq_getElem?_getD, this, List.getElem?_eq_getElem (show 8 * i + k < bs.length by omega)]
          rfl
        generalize ((bs.drop (8 * i)).take 8).getD k false = c at hc k3
        have hix : (0 + (i : Int) * 8) + (0 + (k : Int)) = ((8 * i + k : Nat) : Int) := by omega
        refine ⟨_, rfl, _, rfl, _, rfl, _, _, rfl, rfl, _, _, _, _, rfl, rfl, SqT.of ((e2.trans e3) _ _ hb), (by rw [hix]; exact atI_nat (bvs_get hc)), _, rfl, _, _, rfl, rfl, _, _, rfl, rfl, ⟨by omega, by omega, by cases c <;> decide⟩, ?_⟩
        show Q1 (V.int (b2z c * 2 ^ (7 - (0 + (k : Int))).toNat)) H3
        rw [show (7 - (0 + (k : Int))).toNat = 7 - k by omega]
        exact k3 H3 (Ex.refl _)
      · refine ⟨D, bsum ((bs.drop (8 * i)).take 8), rfl, SqL.of (by unfold bsum; rw [List.map_map]; exact hq), r, _, _, rfl, rfl, e3 _ _ hrow, by rw [ivs_len, rowOf_len]; exact szlt (by omega), Ex.mut (e2.trans e3) hr, ?_, _, _, _, rfl⟩
        rw [upd_same, bsum_nat _ hl8, rowOf_succ]
        simp [ivs, byteAt]
    · rintro σ H' ⟨e2, hrow, v2, v3, v4, rfl⟩
      have hl := rowOf_len bs n
      have hat : ∀ j : Nat, j < 14 → atI (ivs (rowOf bs n)) (j : Int) = some (.int ((rowOf bs n).getD j 0)) := fun j hj => at_ivs (by omega)
      have mu : ∀ j : Int, CMul j 256 := fun j => .inr ⟨by decide, by decide⟩
      refine ⟨_, rfl, _, _, _, _, rfl, rfl, SqL.of hrow, hat 4 (by decide), _, _, rfl, rfl, mu _, _, rfl, _, _, _, _, rfl, rfl, SqL.of hrow, hat 5 (by decide), _, _, rfl, rfl, ?_⟩
      refine ⟨_, rfl, _, _, _, _, rfl, rfl, SqL.of hrow, hat 2 (by decide), _, rfl, _, _, _, _, rfl, rfl, SqL.of hrow, hat 3 (by decide), _, rfl, _, _, _, _, rfl, rfl, SqL.of hrow, hat 0 (by decide), _, rfl, _, _, _, _, rfl, rfl, SqL.of hrow, hat 1 (by decide), _, rfl, ?_⟩
      refine ⟨_, rfl, _, _, _, _, rfl, rfl, SqL.of hrow, hat 6 (by decide), _, _, rfl, rfl, mu _, _, rfl, _, _, _, _, rfl, rfl, SqL.of hrow, hat 7 (by decide), _, _, rfl, rfl, ?_⟩
      refine ⟨_, rfl, _, _, _, _, rfl, rfl, SqL.of hrow, hat 8 (by decide), rfl, _, rfl, _, rfl, r, _, rfl, SqL.of hrow, fun z hz => ⟨z, _, rfl, .inl ⟨SqL.of upd_same, fun d hd => ⟨sz_8, fun u hu => ?_⟩⟩⟩⟩
      have e3 := Ex.new (o := .lst (cutV (ivs (rowOf bs n)) (some 14) none)) hz
      have e4 := Ex.new (o := .tup (cutV (ivs (rowOf bs n)) (some 14) none)) hd
      refine q u _ (((e2.trans e3).trans e4).trans (Ex.new hu)) ⟨d, ?_, ?_⟩
      · rw [upd_same]
        have hdec : decide (V.int ((rowOf bs n).getD 8 0) = V.int 1) = decide ((rowOf bs n).getD 8 0 = 1) := by
          by_cases z : (rowOf bs n).getD 8 0 = 1
          · rw [decide_eq_true z, decide_eq_true (by rw [z])]
          · rw [decide_eq_false z, decide_eq_false fun y => z (by injection y)]
        rw [hdec]
        rfl
      · refine Ex.new hu _ _ ?_
        rw [upd_same]
        exact congrArg (fun z => some (HO.tup z)) (cut_from (rowOf bs n) 14)
theorem cal_law_like (T : TX K mg) : Cal P w K mg base "_law_like" 1 (sp_law_like K) := by
  obtain ⟨fd, F⟩ := T.df_law_like
  have hb : Binds K fd ["_law_fields_here", "_law_put_here"] [] := F.bindsN fun _ _ _ _ _ _ us hl => match us, hl with | [_, _], _ => rfl
  refine Cal.mk2 T.g_law_like F.kp hb (F.ok (CX := CX0) (k := 0) sc_law_like (fun vs H Q E h => ?_) (fun cdv A outer s H vs Q E hr h => ?_))
  · obtain ⟨_, _, _, _, rfl, _⟩ := h
    rfl
  · obtain ⟨p, q', f, g, rfl, ⟨d1, hp, hd1⟩, ⟨d2, hq, hd2⟩, ⟨he, hl1, hl2⟩, q⟩ := h
    refine ⟨_, PSs.nox (pss_one (ps_ret (pe_and (pe_cmpR (op_eqD hr.units) (pe_slice sl_tupA (pv 0) po_none (po_some pe_int)) (pe_slice sl_tupA (pv 1) po_none (po_some pe_int)) (nomark _)) (pe_and (pe_cmpR (op_eqD hr.units) (pe_slice sl_tupA (pv 0) (po_some pe_int) po_none) (pe_slice sl_tupA (pv 1) (po_some pe_int) po_none) (nomark _)) (pe_one (pe_chain op_le op_le pe_int (pe_ix ix_tup (pv 0) pe_int (fun _ _ => rfl)) (pe_ix ix_tup (pv 1) pe_int (fun _ _ => rfl)))))))), ?_⟩
    have eg : flV g d2 = [.int f.src, .int f.tgt, .int f.kind, .int g.life, .int f.name, .int f.first, .bl f.more, .ref d2] := by
      rw [← he]
      rfl
    have ed : g.data = f.data := by rw [← he]
    rw [eg] at hq
    rw [ed] at hd2
    refine ⟨_, rfl, _, rfl, p, _, rfl, SqT.of hp, fun hw => absurd hw.2 (by show ¬ HT.sIx 8 8 (some 3) = 8; decide), fun _ u hu => ?_⟩
    have e1 := Ex.new (o := .tup (cutV (flV f d1) none (some 3))) hu
    refine ⟨_, rfl, _, rfl, q', _, rfl, SqT.of (e1 _ _ hq), fun hw => absurd hw.2 (by show ¬ HT.sIx 8 8 (some 3) = 8; decide), fun _ u2 hu2 => ?_⟩
    have e2 := Ex.new (o := .tup (cutV [.int f.src, .int f.tgt, .int f.kind, .int g.life, .int f.name, .int f.first, .bl f.more, .ref d2] none (some 3))) hu2
    refine ⟨.tuple (iD [f.src, f.tgt, f.kind]), .tuple (iD [f.src, f.tgt, f.kind]), .tup (SqT.of (e2 _ _ upd_same)) (dp_ivs [f.src, f.tgt, f.kind]), .tup (SqT.of upd_same) (dp_ivs [f.src, f.tgt, f.kind]), (gd_tup (gd_iD 0 _)).shaped, (gd_tup (gd_iD 0 _)).shaped, ?_⟩
    rw [(gd_tup (gd_iD 0 _)).refl]
    refine ⟨true, rfl, iteT ?_⟩
    have eA := e1.trans e2
    refine ⟨_, rfl, _, rfl, p, _, rfl, SqT.of (eA _ _ hp), fun hw => absurd hw.1 (by show ¬ HT.sIx 8 0 (some 4) = 0; decide), fun _ u3 hu3 => ?_⟩
    have e3 := Ex.new (o := .tup (cutV (flV f d1) (some 4) none)) hu3
    refine ⟨_, rfl, _, rfl, q', _, rfl, SqT.of ((eA.trans e3) _ _ hq), fun hw => absurd hw.1 (by show ¬ HT.sIx 8 0 (some 4) = 0; decide), fun _ u4 hu4 => ?_⟩
    have e4 := Ex.new (o := .tup (cutV [.int f.src, .int f.tgt, .int f.kind, .int g.life, .int f.name, .int f.first, .bl f.more, .ref d2] (some 4) none)) hu4
    have gd2 : Gd 2 (.tuple [.int f.name, .int f.first, .bool f.more, .tuple (iD f.data)]) := gd_tup fun d hd => by
      simp only [List.mem_cons, List.not_mem_nil, or_false] at hd
      rcases hd with rfl | rfl | rfl | rfl
      · exact gd_int 1 _
      · exact gd_int 1 _
      · exact gd_bool 1 _
      · exact gd_tup (gd_iD 0 _)
    have eB := (eA.trans e3).trans e4
    refine ⟨.tuple [.int f.name, .int f.first, .bool f.more, .tuple (iD f.data)], .tuple [.int f.name, .int f.first, .bool f.more, .tuple (iD f.data)], .tup (SqT.of (e4 _ _ upd_same)) (.cons (.int _) (.cons (.int _) (.cons (.bl _) (.cons (dp_tI (eB _ _ hd1)) .nil)))), .tup (SqT.of upd_same) (.cons (.int _) (.cons (.int _) (.cons (.bl _) (.cons (dp_tI (eB _ _ hd2)) .nil)))), gd2.shaped, gd2.shaped, ?_⟩
    rw [gd2.refl]
    refine ⟨true, rfl, iteT ⟨_, rfl, _, _, _, _, rfl, rfl, SqT.of (eB _ _ hp), rfl, _, _, rfl, rfl, _, rfl, ?_⟩⟩
    rw [decide_eq_true hl1]
    refine iteT ⟨_, rfl, _, _, _, _, rfl, rfl, SqT.of (eB _ _ hq), rfl, _, _, rfl, rfl, ?_⟩
    have hl2' : decide (f.life ≤ g.life) = true := decide_eq_true hl2
    have := q _ eB
    rw [← hl2'] at this
    exact this
end
end K54

set_option Elab.async false
set_option linter.all false
set_option maxRecDepth 100000
set_option maxHeartbeats 4000000
/-! The law's own state: what stands in the heap, what stays true, the promises. -/
namespace K54
open PySem PySem.Spec PyProof.Rows L2 Evl
theorem hu65 {A : Around} {k : Nat} (hr : Room k A) : A.units + 65 < cLine := by have := hr.un; omega
theorem pget2 {α β : Type} {F : α → β → Prop} : ∀ {l₁ : List α} {l₂ : List β} {j : Nat} {x : β}, Paired F l₁ l₂ → l₂[j]? = some x → ∃ y, l₁[j]? = some y ∧ F y x
  | _, _, _, _, .nil, h => nomatch h
  | _, _, 0, _, .cons h _, e => ⟨_, rfl, by rw [← Option.some.inj e]; exact h⟩
  | _, _, j + 1, _, .cons _ r, e => pget2 (j := j) r e
structure PEnt where
  fl : Fl
  exp : Int
  a : Addr
  f : Addr
structure TEnt where
  h : Int
  t : Int
  bs : List Bool
  a : Addr
  b : Addr
structure LC where
  m : Addr
  d : Addr
  PU : Addr
  TU : Addr
  tv : TV
  oldest : Int
  off : Int
def mK (C : LC) (time : Int) : List (Key × V) := [(Sum.inr "table", .ref C.d), (Sum.inr "oldest", .int C.oldest), (Sum.inr "put", .ref C.PU), (Sum.inr "turned", .ref C.TU), (Sum.inr "time", .int time), (Sum.inr "off", .int C.off)]
def puK (put : List PEnt) : List (Key × V) := put.map fun e => (Sum.inl e.fl.name, V.ref e.a)
/-- what keeps: dicts, tuples, what is locked -/
def okK : HO → Prop
  | .dK _ => True
  | .tup _ => True
  | .frz _ _ => True
  | _ => False
structure LO (H : Hp) (C : LC) (put : List PEnt) (turned : List TEnt) (time : Int) : Prop where
  md : H C.m = some (.dK (mK C time))
  tab : ∃ tb : TB, tview tb = C.tv ∧ H C.d = some (.dK (tout tb)) ∧ (C.d ≠ C.m ∧ C.d ≠ C.PU) ∧ ∀ t ∈ tb, H t.2.1 = some (.dK (tin t.2.2)) ∧ t.2.1 ≠ C.m ∧ t.2.1 ≠ C.PU
  pu : H C.PU = some (.dK (puK put))
  ents : ∀ e ∈ put, H e.a = some (.tup [.ref e.f, .int e.exp]) ∧ FlR H e.f e.fl
  tu : H C.TU = some (.lst (turned.map fun t => V.ref t.a))
  tus : ∀ t ∈ turned, H t.a = some (.tup [.int t.h, .int t.t, .ref t.b]) ∧ H t.b = some (.tup (bvs t.bs))
  mp : C.m ≠ C.PU
structure LR (K : PySem.W.Frag) (H : Hp) (n : NG) (C : LC) (put : List PEnt) (turned : List TEnt) (time : Int) : Prop where
  net : NetR K H n
  lo : LO H C put turned time
  wap : TabRA H n.W n.tv (fun a => a = C.m ∨ a = C.PU)
  noTU : ¬ own n C.TU
structure ThI (C : LC) (put : List PEnt) (turned : List TEnt) (time : Int) (k : Int × Int) (t : Th) : Prop where
  life : 1 ≤ t.fl.life
  years : t.years ≤ C.oldest
  ent : ∃ e ∈ put, Like t.fl e.fl ∧ time - t.years + t.fl.life * (C.oldest + 1) ≤ e.exp
  trn : t.places ≠ [] → ∃ u ∈ turned, u.h = k.1 ∧ u.t = k.2 ∧ u.bs = bitsT t.fl t.places
structure Inv (n : NG) (C : LC) (put : List PEnt) (turned : List TEnt) (time : Int) (b : Nat) : Prop where
  ok : NetOk n
  tvE : n.tv = C.tv
  oldE : n.oldest = C.oldest
  old3 : C.oldest ≤ 3
  names : ∀ (i : Nat) e, put[i]? = some e → e.fl.name = ((i : Int) * 40009 + C.off) % 65536
  fok : ∀ e ∈ put, FlOk e.fl
  th : ∀ k ∈ n.keys, ∀ t ∈ n.T k, ThI C put turned time k t
  few : put.length ≤ b ∧ turned.length ≤ b ∧ tot n ≤ b
  exps : ∀ e ∈ put, e.exp ≤ time + 36
/-- a state that is none of these -/
structure SOk (H : Hp) (n : NG) (C : LC) (S : Addr) : Prop where
  st : StR H S
  own : ¬ K54.own n S
  tu : S ≠ C.TU
def LF (C : LC) (S : Addr) (n : NG) (a : Addr) : Prop := own n a ∨ (a = C.m ∨ a = C.PU ∨ a = C.TU ∨ a = S)
def Post (K : PySem.W.Frag) (H : Hp) (n : NG) (C : LC) (S : Addr) (b : Nat) (Q : Hp → Prop) : Prop :=
  ∀ H2 n' put turned time, n'.p = n.p → LR K H2 n' C put turned time → Inv n' C put turned time b → SOk H2 n' C S → Stp (LF C S n) H (LF C S n') H2 → Q H2
def sp_law_put (K : PySem.W.Frag) : Sp := fun vs H Q _ => ∃ (n : NG) (C : LC) (put : List PEnt) (turned : List TEnt) (time : Int) (b : Nat) (S : Addr), vs = [.ref n.p, .ref C.m, .ref S] ∧ LR K H n C put turned time ∧ Inv n C put turned time b ∧ b ≤ 61 ∧ SOk H n C S ∧ Post K H n C S (b + 1) (Q (.bl true))
def sp_law_thing (K : PySem.W.Frag) : Sp := fun vs H Q _ => ∃ (n : NG) (S : Addr), vs = [.ref n.p, .ref S] ∧ NetR K H n ∧ NetOk n ∧ tot n ≤ 1000 ∧ StR H S ∧ ¬ own n S ∧
  ((∀ k ∈ n.keys, n.T k = []) → ∀ H2, StS S H H2 → Q .non H2) ∧ ∀ (k : Int × Int) (i : Nat) t, k ∈ n.keys → (n.T k)[i]? = some t → ∀ p H2, StS S H H2 → H p = none → H2 p = some (.tup [.int k.1, .int k.2, .int i]) → Q (.ref p) H2
def sp_law_brought (K : PySem.W.Frag) : Sp := fun vs H Q _ => ∃ (n : NG) (C : LC) (put : List PEnt) (turned : List TEnt) (time : Int) (b : Nat) (p : Addr) (k : Int × Int) (i : Nat) (t : Th), vs = [.ref n.p, .ref C.m, .ref p] ∧ LR K H n C put turned time ∧ Inv n C put turned time b ∧ b ≤ 62 ∧
  H p = some (.tup [.int k.1, .int k.2, .int i]) ∧ k ∈ n.keys ∧ (n.T k)[i]? = some t ∧
  ∀ H2 n', n'.p = n.p → LR K H2 n' C put turned time → Inv n' C put turned time b → Stp (own n) H (own n') H2 → Q (.bl true) H2
def sp_law_lies_right (K : PySem.W.Frag) : Sp := fun vs H Q _ => ∃ (n : NG) (C : LC) (put : List PEnt) (turned : List TEnt) (time : Int) (b : Nat), vs = [.ref n.p, .ref C.m] ∧ LR K H n C put turned time ∧ Inv n C put turned time b ∧ b ≤ 62 ∧ RetV (.bl true) H Q
def sp_law_turned (K : PySem.W.Frag) : Sp := fun vs H Q _ => ∃ (n : NG) (C : LC) (put : List PEnt) (turned : List TEnt) (time : Int) (b : Nat) (S : Addr) (p : Addr) (k : Int × Int) (i : Nat) (t : Th), vs = [.ref n.p, .ref C.m, .ref S, .ref p] ∧ LR K H n C put turned time ∧ Inv n C put turned time b ∧ b ≤ 61 ∧ SOk H n C S ∧
  H p = some (.tup [.int k.1, .int k.2, .int i]) ∧ k ∈ n.keys ∧ (n.T k)[i]? = some t ∧ Post K H n C S (b + 1) (Q .non)
def sp_law_deed (K : PySem.W.Frag) : Sp := fun vs H Q _ => ∃ (n : NG) (C : LC) (put : List PEnt) (turned : List TEnt) (time : Int) (b : Nat) (S : Addr), vs = [.ref n.p, .ref C.m, .ref S] ∧ LR K H n C put turned time ∧ Inv n C put turned time b ∧ b ≤ 61 ∧ SOk H n C S ∧ Post K H n C S (b + 1) (Q (.bl true))
def sp_law_emptied (K : PySem.W.Frag) : Sp := fun vs H Q _ => ∃ (n : NG) (C : LC) (put : List PEnt) (turned : List TEnt) (time : Int) (b : Nat) (S : Addr), vs = [.ref n.p, .ref C.m, .ref S] ∧ LR K H n C put turned time ∧ Inv n C put turned time b ∧ b ≤ 62 ∧ SOk H n C S ∧ ∀ H2, Q (.bl true) H2
def sp_law_goes (K : PySem.W.Frag) : Sp := fun vs H Q _ => ∃ (d : Addr) (p t life : Int) (tv : TV), vs = [.ref d, .int p, .int t, .int life] ∧ TabZ H d tv ∧ TvOk tv ∧ p ∈ plcs tv ∧ t ∈ plcs tv ∧ 1 ≤ life ∧ life ≤ 9 ∧ RetV (.bl true) H Q
/-! ### what keeps -/
section
variable {K : PySem.W.Frag} {H H2 : Hp} {n n' : NG} {C : LC} {put : List PEnt} {turned : List TEnt} {time : Int} {S : Addr} {b : Nat}
theorem LO.frame (h : LO H C put turned time) (f : ∀ a o, H a = some o → okK o → H2 a = some o) (ft : ∀ o, H C.TU = some o → H2 C.TU = some o) : LO H2 C put turned time where
  md := f _ _ h.md trivial
  tab := let ⟨tb, e, hd, ne, hi⟩ := h.tab; ⟨tb, e, f _ _ hd trivial, ne, fun t ht => ⟨f _ _ (hi t ht).1 trivial, (hi t ht).2⟩⟩
  pu := f _ _ h.pu trivial
  ents := fun e he => ⟨f _ _ (h.ents e he).1 trivial, let ⟨d, a, b⟩ := (h.ents e he).2; ⟨d, f _ _ a trivial, f _ _ b trivial⟩⟩
  tu := ft _ h.tu
  tus := fun t ht => ⟨f _ _ (h.tus t ht).1 trivial, f _ _ (h.tus t ht).2 trivial⟩
  mp := h.mp
theorem TabRA.frame {d : Addr} {tv : TV} {A : Addr → Prop} (h : TabRA H d tv A) (f : ∀ a o, H a = some o → okK o → H2 a = some o) : TabRA H2 d tv A := by
  obtain ⟨tb, e, ⟨hd, n1⟩, hi⟩ := h
  have rd : ∀ (a : Addr) (kvs : List (Key × V)), Rd H a (.dK kvs) → Rd H2 a (.dK kvs) := fun a kvs r => by
    rcases r with r | ⟨o, r⟩
    · exact .inl (f _ _ r trivial)
    · exact .inr ⟨o, f _ _ r trivial⟩
  exact ⟨tb, e, ⟨rd _ _ hd, n1⟩, fun t ht => ⟨rd _ _ (hi t ht).1, (hi t ht).2⟩⟩
theorem LR.ex (h : LR K H n C put turned time) (e : Ex H H2) : LR K H2 n C put turned time := ⟨h.net.ex e, h.lo.frame (fun a o ha _ => e a o ha) (fun o ho => e _ _ ho), h.wap.frame fun a o ha _ => e a o ha, h.noTU⟩
theorem StR.nok (h : StR H S) {a : Addr} {o : HO} (ha : H a = some o) (hk : okK o) : a ≠ S := fun z => by
  obtain ⟨x, y, w, hs⟩ := h
  rw [z, hs] at ha
  rw [← Option.some.inj ha] at hk
  exact hk
theorem NetR.st (h : NetR K H n) (hS : StR H S) (no : ¬ own n S) (f : ∀ a o, H a = some o → a ≠ S → H2 a = some o) : NetR K H2 n := by
  have ni : ∀ {a : Addr} {C dx : Addr} {fs : List (Str × V)}, H a = some (.ins C dx fs) → a ≠ S := fun ha z => by
    obtain ⟨x, y, w, hs⟩ := hS
    rw [z, hs] at ha
    cases ha
  refine ⟨f _ _ h.obj (ni h.obj), ?_, f _ _ h.dict fun z => no (.inl z.symm), fun k hk => f _ _ (h.lst k hk) fun z => no (.inr ⟨k, hk, .inl z.symm⟩), fun k hk t ht => ?_⟩
  · obtain ⟨tb, e, hd, hi⟩ := h.ways
    have rd : ∀ (a : Addr) (kvs : List (Key × V)), Rd H a (.dK kvs) → Rd H2 a (.dK kvs) := fun a kvs r => by
      rcases r with r | ⟨o, r⟩
      · exact .inl (f _ _ r (hS.nok r trivial))
      · exact .inr ⟨o, f _ _ r (hS.nok r trivial)⟩
    exact ⟨tb, e, rd _ _ hd, fun t ht => rd _ _ (hi t ht)⟩
  · have r := h.th k hk t ht
    exact ⟨f _ _ r.obj (ni r.obj), f _ _ r.row (hS.nok r.row trivial), f _ _ r.pl (hS.nok r.pl trivial)⟩
/-- the state moves on -/
theorem LR.st (h : LR K H n C put turned time) (s : SOk H n C S) (f : StS S H H2) : LR K H2 n C put turned time :=
  ⟨h.net.st s.st s.own f.1, h.lo.frame (fun a o ha hk => f.1 a o ha (s.st.nok ha hk)) (fun o ho => f.1 _ _ ho s.tu.symm), h.wap.frame fun a o ha hk => f.1 a o ha (s.st.nok ha hk), h.noTU⟩
theorem SOk.st' (s : SOk H n C S) (f : StS S H H2) : SOk H2 n C S := ⟨f.2, s.own, s.tu⟩
theorem SOk.ex (s : SOk H n C S) (e : Ex H H2) : SOk H2 n C S := ⟨s.st.ex e, s.own, s.tu⟩
theorem LF.st (f : StS S H H2) : Stp (LF C S n) H (LF C S n) H2 := ⟨fun a o ha no => f.1 a o ha fun z => no (.inr (.inr (.inr (.inr z)))), fun a h => .inl h⟩
theorem NetR.ownk (h : NetR K H n) {a : Addr} {o : HO} (ha : H a = some o) (hk : okK o) : ¬ own n a := fun q => by
  rcases h.kind q with ⟨_, e⟩ | ⟨_, e⟩ | ⟨_, _, e⟩ <;> rw [ha] at e <;> rw [Option.some.inj e] at hk <;> exact hk
/-- the net moves on -/
theorem LR.mv (h : LR K H n C put turned time) (s : Stp (own n) H (own n') H2) (hn : NetR K H2 n') (ew : n'.W = n.W) (et : n'.tv = n.tv) : LR K H2 n' C put turned time := by
  have f : ∀ a o, H a = some o → okK o → H2 a = some o := fun a o ha hk => s.1 a o ha (h.net.ownk ha hk)
  refine ⟨hn, h.lo.frame f (fun o ho => s.1 _ _ ho h.noTU), by rw [ew, et]; exact h.wap.frame f, s.out h.lo.tu h.noTU⟩
theorem SOk.mv (q : SOk H n C S) (s : Stp (K54.own n) H (K54.own n') H2) : SOk H2 n' C S := by
  obtain ⟨⟨x, y, z, hs⟩, no, tu⟩ := q
  exact ⟨⟨x, y, z, s.1 _ _ hs no⟩, s.out hs no, tu⟩
theorem LF.mv (s : Stp (own n) H (own n') H2) : Stp (LF C S n) H (LF C S n') H2 := s.frame
theorem setT_W {k : Int × Int} {ts : List Th} : (n.setT k ts).W = n.W := rfl
theorem PutS.same {p : Int} {f : Fl} (h : PutS n p f n') : n'.p = n.p ∧ n'.W = n.W ∧ n'.tv = n.tv ∧ n'.oldest = n.oldest ∧ n'.keys = n.keys := by
  rcases h with ⟨_, y, t, _, _, _, _, rfl⟩ | ⟨_, rfl⟩ <;> exact ⟨rfl, rfl, rfl, rfl, rfl⟩
end
/-! ### the dict of the law -/
section
variable {H : Hp} {C : LC} {put : List PEnt} {turned : List TEnt} {time : Int}
theorem mg {k : Str} {o : Option V} (h : H C.m = some (.dK (mK C time))) (e : valV (mK C time) (Sum.inr k) = o) : DGet H C.m (.str k) o := by
  have := DGet.k (k := Sum.inr k) h
  rw [e] at this
  exact this
theorem mv_table : valV (mK C time) (Sum.inr "table") = some (.ref C.d) := rfl
theorem mv_oldest : valV (mK C time) (Sum.inr "oldest") = some (.int C.oldest) := rfl
theorem mv_put : valV (mK C time) (Sum.inr "put") = some (.ref C.PU) := rfl
theorem mv_turned : valV (mK C time) (Sum.inr "turned") = some (.ref C.TU) := rfl
theorem mv_time : valV (mK C time) (Sum.inr "time") = some (.int time) := rfl
theorem mv_off : valV (mK C time) (Sum.inr "off") = some (.int C.off) := rfl
theorem mp_time (t : Int) : putK (mK C time) (Sum.inr "time") (.int t) = mK C t := rfl
end
end K54

set_option Elab.async false
set_option linter.all false
set_option maxRecDepth 100000
set_option maxHeartbeats 4000000
/-! The law's own defs: thing, brought. -/
namespace K54
open PySem PySem.Spec PyProof.Rows L2 Evl
def ksD (ks : List (Int × Int)) : List PyData := ks.map fun k => .tuple (iD [k.1, k.2])
theorem dpAll_ks {K : PySem.W.Frag} {H : Hp} : ∀ {ks : List (Int × Int)} {as : List Addr}, Paired (fun (k : Int × Int) a => H a = some (.tup [.int k.1, .int k.2])) ks as → DpAll K H (as.map V.ref) (ksD ks)
  | [], _, h => by cases h; exact .nil
  | k :: r, _, h => by
    cases h with
    | cons h1 h2 => exact .cons (dp_tI (xs := [k.1, k.2]) h1) (dpAll_ks h2)
theorem gd_ks (ks : List (Int × Int)) : Gd 2 (.list (ksD ks)) := gd_lst fun d hd => by
  obtain ⟨k, _, rfl⟩ := List.mem_map.mp hd
  exact gd_tup (gd_iD 0 _)
theorem gd_l0 : Gd 2 (.list []) := gd_lst fun d hd => nomatch hd
theorem eqv_l0 (ds : List PyData) : PyData.eqv (.list ds) (.list []) = ds.isEmpty := by
  show PyData.eqvAll ds [] = _
  exact eqv_nil ds
theorem ks_len {n : NG} (ok : NetOk n) {ks : List (Int × Int)} (hnd : ks.Nodup) (h : ∀ k, k ∈ ks ↔ k ∈ n.keys ∧ n.T k ≠ []) : ks.length ≤ 100 := by
  have : ks.length ≤ n.keys.length := by
    have sub : ∀ (l s : List (Int × Int)), l.Nodup → (∀ x ∈ l, x ∈ s) → l.length ≤ s.length := by
      intro l
      induction l with
      | nil => intro s _ _; exact Nat.zero_le _
      | cons a r ih =>
        intro s hn hs
        obtain ⟨h1, h2⟩ := List.nodup_cons.mp hn
        have ha := hs a (List.mem_cons_self ..)
        have := ih (s.erase a) h2 fun x hx => (List.mem_erase_of_ne (fun e => h1 (by rw [← e]; exact hx))).mpr (hs x (List.mem_cons_of_mem _ hx))
        rw [List.length_erase_of_mem ha] at this
        have := List.length_pos_of_mem ha
        simp only [List.length_cons]
        omega
    exact sub _ _ hnd fun x hx => ((h x).mp hx).1
  exact Nat.le_trans this ok.kl
theorem puK_get {put : List PEnt} (hn : (put.map (·.fl.name)).Nodup) {e : PEnt} (he : e ∈ put) : valV (puK put) (Sum.inl e.fl.name) = some (.ref e.a) := by
  unfold puK
  rw [valV_map (fun e : PEnt => e.fl.name) (fun e => V.ref e.a)]
  cases hf : put.find? fun x => decide (x.fl.name = e.fl.name) with
  | none => exact absurd (decide_eq_true rfl) (List.find?_eq_none.mp hf e he)
  | some x =>
    have hx := List.mem_of_find?_eq_some hf
    have en : x.fl.name = e.fl.name := by simpa using List.find?_some hf
    obtain ⟨i, hi⟩ := List.getElem?_of_mem hx
    obtain ⟨j, hj⟩ := List.getElem?_of_mem he
    have : i = j := nd_ix hn (by rw [List.getElem?_map, hi]; rfl) (by rw [List.getElem?_map, hj]; exact congrArg some en.symm)
    rw [this, hj] at hi
    rw [Option.some.inj hi]
    rfl
theorem Inv.nd {n : NG} {C : LC} {put : List PEnt} {turned : List TEnt} {time : Int} {b : Nat} (h : Inv n C put turned time b) (hb : b ≤ 62) : (put.map (·.fl.name)).Nodup := by
  refine List.pairwise_iff_getElem.mpr fun i j hi hj hij he => ?_
  rw [List.length_map] at hi hj
  rw [List.getElem_map, List.getElem_map] at he
  have e1 := h.names i put[i] (List.getElem?_eq_getElem hi)
  have e2 := h.names j put[j] (List.getElem?_eq_getElem hj)
  have := h.few.1
  rw [e1, e2] at he
  omega
theorem Inv.mv {n n' : NG} {C : LC} {put : List PEnt} {turned : List TEnt} {time : Int} {b : Nat} (h : Inv n C put turned time b) (ok : NetOk n') (e1 : n'.tv = n.tv) (e2 : n'.oldest = n.oldest) (ek : n'.keys = n.keys) (th : ∀ k ∈ n.keys, ∀ t ∈ n'.T k, ThI C put turned time k t) (ht : tot n' ≤ b) : Inv n' C put turned time b :=
  ⟨ok, e1.trans h.tvE, e2.trans h.oldE, h.old3, h.names, h.fok, fun k hk => th k (ek ▸ hk), ⟨h.few.1, h.few.2.1, ht⟩, h.exps⟩
section
variable {P : Program} {w : World} {K : PySem.W.Frag} {mg : Str → Option Value} {base : Heap}
theorem cal_law_thing (T : TX K mg) (c_Net_lying : MCal P w K mg base "Net" "lying" 1 (sp_Net_lying K)) (c_law_next : Cal P w K mg base "_law_next" 1 (sp_law_next K)) (c_Net_things : MCal P w K mg base "Net" "things" 8 (sp_Net_things K)) : Cal P w K mg base "_law_thing" 9 (sp_law_thing K) := by
  obtain ⟨fd, F⟩ := T.df_law_thing
  have hb : Binds K fd ["_law_net", "_law_state_here"] [] := F.bindsN fun _ _ _ _ _ _ us hl => match us, hl with | [_, _], _ => rfl
  refine Cal.mk2 T.g_law_thing F.kp hb (F.ok (CX := CX0) (k := 8) sc_law_thing (fun vs H Q E h => ?_) (fun cdv A outer s H vs Q E hr h => ?_))
  · obtain ⟨_, _, rfl, _⟩ := h
    rfl
  · obtain ⟨n, S, rfl, hn, ok, hl, hS, no, q1, q2⟩ := h
    refine ⟨_, PSs.nox (pss_cons (ps_set (i := 2) sc_law_thing.nd rfl (.inl rfl) (pe_calM0 c_Net_lying (hr.mono (by decide)) (pv 0)))
    (pss_cons (ps_if (pt_cmpR (op_eqD hr.units) (pv 2) (pe_lst pa_nil) (nomark _)) (pss_one (ps_ret pe_non)) pss_nil)
    (pss_cons (ps_asg (pe_ix ix_list (pv 2) (pe_cal c_law_next (hr.mono (by decide)) (pa_cons (pv 1) (pa_cons (pe_callB call_len_seq (by rfl) T.f_len bt_len (pa_cons (pv 2) pa_nil)) pa_nil))) (fun _ _ => rfl)) (pg_tup rfl (pgs_cons (pg_name (i := 3) sc_law_thing.nd rfl (.inl rfl)) (pgs_cons (pg_name (i := 4) sc_law_thing.nd rfl (.inl rfl)) pgs_nil))))
    (pss_one (ps_ret (pe_tup (pa_cons (pv 3) (pa_cons (pv 4) (pa_cons (pe_cal c_law_next (hr.mono (by decide)) (pa_cons (pv 1) (pa_cons (pe_callB call_len_seq (by rfl) T.f_len bt_len (pa_cons (pe_calM c_Net_things hr (pv 0) (pa_cons (pv 3) (pa_cons (pv 4) pa_nil))) pa_nil)) pa_nil))) pa_nil))))))))), ?_⟩
    refine ⟨_, rfl, n.p, n.dx, _, rfl, hn.obj, ntl_m nSt nSt nSt nSt, n, rfl, hn, ok, fun l ks as H1 e1 nl hl1 hp hnd hks => ?_⟩
    have hl100 := ks_len ok hnd hks
    have hal : as.length = ks.length := (Paired.length hp).symm
    refine ⟨_, rfl, Nat.zero_le _, fun u hu => ?_⟩
    have e2 := Ex.new (o := .lst []) hu
    have hp2 := L2.Paired.mapP hp fun k a h => e2 _ _ h
    refine ⟨.list (ksD ks), .list [], .lst (SqL.of (e2 _ _ hl1)) (dpAll_ks hp2), .lst (SqL.of upd_same) .nil, (gd_ks ks).shaped, gd_l0.shaped, _, rfl, ?_⟩
    rw [eqv_l0]
    have eA := e1.trans e2
    have lS : l ≠ S := fun z => by obtain ⟨a, b, c, h⟩ := hS; rw [z, h] at nl; cases nl
    cases ks with
    | nil =>
      refine iteT (q1 (fun k hk => Classical.byContradiction fun h => ?_) _ (StS.of_ex eA hS))
      exact nomatch (hks k).mpr ⟨hk, h⟩
    | cons k0 kr =>
      refine iteF ⟨_, rfl, _, rfl, _, rfl, l, _, rfl, .inl (SqL.of (e2 _ _ hl1)), S, _, rfl, hS.ex eA, by rw [List.length_map, hal]; simp only [List.length_cons]; omega, by rw [List.length_map, hal]; omega, fun r H3 r0 r1 s3 => ?_⟩
      obtain ⟨r, rfl⟩ := Int.eq_ofNat_of_zero_le r0
      rw [List.length_map, hal] at r1
      obtain ⟨k, hk⟩ : ∃ k, (k0 :: kr)[r]? = some k := ⟨_, List.getElem?_eq_getElem (by omega)⟩
      obtain ⟨a, ha, hka⟩ := L2.paired_get hp2 hk
      obtain ⟨hkn, hTk⟩ := (hks k).mp (List.mem_of_getElem? hk)
      have hn3 := (hn.ex eA).st (hS.ex eA) no s3.1
      refine ⟨_, _, _, _, rfl, rfl, SqL.of (s3.1 _ _ (e2 _ _ hl1) lS), atI_nat (v := .ref a) (by rw [List.getElem?_map, ha]; rfl), a, _, rfl, SqT.of (s3.1 _ _ hka ((hS.ex eA).nok hka trivial)), rfl, _, _, rfl, _, _, rfl, rfl, ?_⟩
      refine ⟨_, rfl, _, rfl, _, rfl, _, rfl, n.p, n.dx, _, rfl, hn3.obj, ntl_m nSt nSt nSt nSt, _, rfl, _, rfl, n, k, rfl, hn3, ok, hkn, hl, fun l2 as2 H4 e4 nl2 hl2 hp3 => ?_⟩
      have hlen := (Paired.length hp3).symm
      have ht := Nat.le_trans (len_tot ok.kd hkn) hl
      have hpos : 0 < (n.T k).length := List.length_pos_iff.mpr hTk
      refine ⟨l2, _, rfl, .inl (SqL.of hl2), S, _, rfl, s3.2.ex e4, by rw [List.length_map, hlen]; omega, by rw [List.length_map, hlen]; omega, fun r2 H5 r20 r21 s5 => ⟨sz_3, fun p hp5 => ?_⟩⟩
      obtain ⟨r2, rfl⟩ := Int.eq_ofNat_of_zero_le r20
      rw [List.length_map, hlen] at r21
      have sB := (((StS.of_ex eA hS).trans s3).ex e4).trans s5
      exact q2 k r2 _ hkn (List.getElem?_eq_getElem (by omega)) p _ (sB.ex (Ex.new hp5)) (sB.none hS hp5) upd_same
theorem cal_law_brought (T : TX K mg) (c_Net_bring : MCal P w K mg base "Net" "bring" 9 (sp_Net_bring K)) (c_Packet_told : MCal P w K mg base "Packet" "told" 1 (sp_Packet_told K)) (c_law_like : Cal P w K mg base "_law_like" 1 (sp_law_like K)) : Cal P w K mg base "_law_brought" 10 (sp_law_brought K) := by
  obtain ⟨fd, F⟩ := T.df_law_brought
  have hb : Binds K fd ["_law_net", "_law_m", "_law_thing_here"] [] := F.bindsN fun _ _ _ _ _ _ us hl => match us, hl with | [_, _, _], _ => rfl
  refine Cal.mk2 T.g_law_brought F.kp hb (F.ok (CX := CX0) (k := 9) sc_law_brought (fun vs H Q E h => ?_) (fun cdv A outer s H vs Q E hr h => ?_))
  · obtain ⟨_, _, _, _, _, _, _, _, _, _, rfl, _⟩ := h
    rfl
  · obtain ⟨n, C, put, turned, time, b, p, k, i, t, rfl, hL, hI, hb, hp, hk, hi, q⟩ := h
    refine ⟨_, PSs.nox (pss_cons (ps_set (i := 3) sc_law_brought.nd rfl (.inl rfl) (pe_calM c_Net_bring hr (pv 0) (pa_cons (pe_ix ix_tup (pv 2) pe_int (fun _ _ => rfl)) (pa_cons (pe_ix ix_tup (pv 2) pe_int (fun _ _ => rfl)) (pa_cons (pe_ix ix_tup (pv 2) pe_int (fun _ _ => rfl)) pa_nil)))))
    (pss_cons (ps_if (pt_cmpR op_isN (pv 3) pe_non (nomark _)) (pss_one (ps_ret pe_bl)) pss_nil)
    (pss_cons (ps_set (i := 4) sc_law_brought.nd rfl (.inl rfl) (pe_calM0 c_Packet_told (hr.mono (by decide)) (pv 3)))
    (pss_one (ps_ret (pe_and (pe_cmpR op_eq (pe_ix ix_tup (pv 4) pe_int (fun _ _ => rfl)) (pe_ix ix_tup (pv 2) pe_int (fun _ _ => rfl)) (nomark _)) (pe_and (pe_cmp (pc_din (hu_of hr) (pe_ix ix_tup (pv 4) pe_int (fun _ _ => rfl)) (pe_dget (hu_of hr) (pv 1) pe_str (fun _ _ => rfl)))) (pe_one (pe_cal c_law_like (hr.mono (by decide)) (pa_cons (pv 4) (pa_cons (pe_ix ix_tup (pe_dget (hu_of hr) (pe_dget (hu_of hr) (pv 1) pe_str (fun _ _ => rfl)) (pe_ix ix_tup (pv 4) pe_int (fun _ _ => rfl)) (fun _ _ => rfl)) pe_int (fun _ _ => rfl)) pa_nil))))))))))), ?_⟩
    have hm := List.mem_of_getElem? hi
    have hT := hI.th k hk t hm
    have hn := hL.net
    have few := hI.few
    have npp : ¬ own n p := hn.no_tup hp
    have hlt := (List.getElem?_eq_some_iff.mp hi).1
    have er : (n.T k).eraseIdx i = (n.T k).eraseIdx i := rfl
    have htot : tot (n.setT k ((n.T k).eraseIdx i)) + 1 ≤ b := by
      have := tot_set hI.ok.kd hk ((n.T k).eraseIdx i)
      rw [List.length_eraseIdx, if_pos hlt] at this
      omega
    have thE : ∀ k' ∈ n.keys, ∀ t' ∈ (n.setT k ((n.T k).eraseIdx i)).T k', ThI C put turned time k' t' := fun k' hk' t' ht' => by
      by_cases e : k' = k
      · rw [e, setT_same] at ht'
        rw [e]
        exact hI.th k hk t' ((List.eraseIdx_sublist _ _).subset ht')
      · rw [setT_ne e] at ht'
        exact hI.th k' hk' t' ht'
    refine ⟨_, rfl, n.p, n.dx, _, rfl, hn.obj, ntl_m nSt nSt nSt nSt, _, rfl, _, _, _, _, rfl, rfl, SqT.of hp, rfl, _, rfl, _, _, _, _, rfl, rfl, SqT.of hp, rfl, _, rfl, _, _, _, _, rfl, rfl, SqT.of hp, rfl, n, k, i, t, rfl, hn, hI.ok, hk, hi, hT.life, by omega, fun hz H2 n' e hn' ok' hs => ?_, fun hz ht x H2 n' e hx nx hn' ok' hs => ?_, fun hz ht H2 n' e hn' ok' hs => ?_⟩
    · subst e
      exact ⟨_, rfl, rfl, _, rfl, iteT (q H2 (n.setT k ((n.T k).eraseIdx i)) rfl (hL.mv hs hn' rfl rfl) (hI.mv ok' rfl rfl rfl thE (by omega)) hs)⟩
    · subst e
      have hL' := hL.mv hs hn' rfl rfl
      have hI' := hI.mv ok' rfl rfl rfl thE (by omega)
      have hp2 := hs.keep hp npp
      obtain ⟨en, hen, ⟨like, exp⟩⟩ := hT.ent
      have hpk := hx
      obtain ⟨pdx, d, hpo, hd⟩ := hx
      refine ⟨_, rfl, rfl, _, rfl, iteF ⟨_, rfl, x, pdx, _, rfl, hpo, pkl_told, x, t.fl, rfl, hpk, fun fp H3 e3 hf => ?_⟩⟩
      have hf0 := hf
      obtain ⟨d3, hf1, hf2⟩ := hf
      have hL3 := hL'.ex e3
      have lo := hL3.lo
      refine ⟨_, rfl, _, _, _, _, rfl, rfl, SqT.of hf1, rfl, _, rfl, _, _, _, _, rfl, rfl, SqT.of (e3 _ _ hp2), rfl, rfl, ?_⟩
      have e0 : decide (V.int t.fl.tgt = V.int k.2) = true := decide_eq_true (by rw [ht])
      rw [e0]
      have en1 : en.fl.name = t.fl.name := by rw [← like.1]
      have gp : DGet H3 C.PU (.int t.fl.name) (some (.ref en.a)) := by
        have := DGet.k (k := Sum.inl en.fl.name) lo.pu
        rw [puK_get (hI.nd hb) hen, en1] at this
        exact this
      refine ⟨true, rfl, iteT ⟨_, rfl, _, _, _, _, rfl, rfl, SqT.of hf1, rfl, _, rfl, C.m, _, rfl, K54.mg lo.md mv_put, C.PU, some _, rfl, gp, true, rfl, iteT ?_⟩⟩
      obtain ⟨en2, en3⟩ := lo.ents en hen
      refine ⟨_, rfl, _, rfl, C.m, _, rfl, K54.mg lo.md mv_put, _, rfl, _, _, _, _, rfl, rfl, SqT.of hf1, rfl, C.PU, _, rfl, gp, _, _, _, _, rfl, rfl, SqT.of en2, rfl, fp, en.f, t.fl, en.fl, rfl, hf0, en3, like, fun H4 e4 => ?_⟩
      exact q H4 (n.setT k ((n.T k).eraseIdx i)) rfl (hL3.ex e4) hI' (hs.trans (Stp.of_ex (e3.trans e4)))
    · obtain ⟨p1, p2, p3, p4, p5⟩ := e.same
      refine ⟨_, rfl, rfl, _, rfl, iteT (q H2 _ p1 (hL.mv hs hn' p2 p3) (hI.mv ok' p3 p4 p5 (fun k' hk' t' ht' => ?_) (by have := e.tot (hI.ok.erase hk i); omega)) hs)⟩
      rcases e with ⟨hlf, y, u, hy, hu1, hu2, hu3, rfl⟩ | ⟨_, rfl⟩
      · have hky := (hI.ok.erase hk i).knx _ _ _ hy
        by_cases e : k' = (k.2, y)
        · rw [e, setT_same] at ht'
          rcases List.mem_append.mp ht' with z | z
          · rw [e]
            exact thE _ hky t' z
          · have : t' = u := by simpa using z
            rw [this]
            obtain ⟨en, hen, ⟨like, exp⟩⟩ := hT.ent
            have h0 := hI.ok.old
            rw [hI.oldE] at h0
            have hlf : 0 < t.fl.life - 1 := hlf
            have ex : (t.fl.life - 1) * (C.oldest + 1) = t.fl.life * (C.oldest + 1) - (C.oldest + 1) := by rw [Int.sub_mul, Int.one_mul]
            refine ⟨by rw [hu1]; show 1 ≤ t.fl.life - 1; omega, by rw [hu2]; exact h0, ⟨en, hen, ?_, ?_⟩, fun z => absurd hu3 z⟩
            · rw [hu1]
              exact ⟨like.1, by show 1 ≤ t.fl.life - 1; omega, by have := like.2.2; show t.fl.life - 1 ≤ en.fl.life; omega⟩
            · rw [hu1, hu2]
              show time - 0 + (t.fl.life - 1) * (C.oldest + 1) ≤ en.exp
              have := hT.years
              rw [ex]
              omega
        · rw [setT_ne e] at ht'
          exact thE k' hk' t' ht'
      · exact thE k' hk' t' ht'
end
end K54

set_option Elab.async false
set_option linter.all false
set_option maxRecDepth 100000
set_option maxHeartbeats 4000000
/-! The law's own defs: lies_right. -/
namespace K54
open PySem PySem.Spec PyProof.Rows L2 Evl
def trD (h t : Int) (bs : List Bool) : PyData := .tuple [.int h, .int t, .tuple (iD (bI bs))]
theorem gd_trD (h t : Int) (bs : List Bool) : Gd 2 (trD h t bs) := gd_tup fun d hd => by
  simp only [List.mem_cons, List.not_mem_nil, or_false] at hd
  rcases hd with rfl | rfl | rfl
  · exact gd_int 1 _
  · exact gd_int 1 _
  · exact gd_tup (gd_iD 0 _)
theorem dp_trD {K : PySem.W.Frag} {H : Hp} {a b : Addr} {h t : Int} {bs : List Bool} (ha : H a = some (.tup [.int h, .int t, .ref b])) (hb : H b = some (.tup (bvs bs))) : Dp K H (.ref a) (trD h t bs) :=
  .tup (SqT.of ha) (.cons (.int _) (.cons (.int _) (.cons (dp_tI (by rw [← bvs_ivs]; exact hb)) .nil)))
theorem dp_turned {K : PySem.W.Frag} {H : Hp} : ∀ turned : List TEnt, (∀ t ∈ turned, H t.a = some (.tup [.int t.h, .int t.t, .ref t.b]) ∧ H t.b = some (.tup (bvs t.bs))) → DpAll K H (turned.map fun t => V.ref t.a) (turned.map fun t => trD t.h t.t t.bs)
  | [], _ => .nil
  | t :: r, h => .cons (dp_trD (h t (List.mem_cons_self ..)).1 (h t (List.mem_cons_self ..)).2) (dp_turned r fun x hx => h x (List.mem_cons_of_mem _ hx))
theorem gd_turned (turned : List TEnt) : Gd 3 (.list (turned.map fun t => trD t.h t.t t.bs)) := gd_lst fun d hd => by
  obtain ⟨t, _, rfl⟩ := List.mem_map.mp hd
  exact gd_trD ..
theorem any_turned {turned : List TEnt} {h t : Int} {bs : List Bool} (hu : ∃ u ∈ turned, u.h = h ∧ u.t = t ∧ u.bs = bs) : ((turned.map fun t => trD t.h t.t t.bs).any fun z => PyData.eqv z (trD h t bs)) = true := by
  obtain ⟨u, hu, e1, e2, e3⟩ := hu
  refine List.any_eq_true.mpr ⟨_, List.mem_map_of_mem hu, ?_⟩
  rw [e1, e2, e3]
  exact (gd_trD h t bs).refl
theorem fields_T {f : Fl} (h : FlOk f) : fieldsP (rowOf (bitsT f []) (14 + f.data.length)) = f := by rw [rowOf_T f h, fields_pk h]
section
variable {P : Program} {w : World} {K : PySem.W.Frag} {mg : Str → Option Value} {base : Heap}
theorem cal_law_lies_right (T : TX K mg) (c_Net_lying : MCal P w K mg base "Net" "lying" 1 (sp_Net_lying K)) (c_Net_things : MCal P w K mg base "Net" "things" 8 (sp_Net_things K)) (c_law_fields : Cal P w K mg base "_law_fields" 1 (sp_law_fields K)) (c_law_like : Cal P w K mg base "_law_like" 1 (sp_law_like K)) : Cal P w K mg base "_law_lies_right" 9 (sp_law_lies_right K) := by
  obtain ⟨fd, F⟩ := T.df_law_lies_right
  have hb : Binds K fd ["_law_net", "_law_m"] [] := F.bindsN fun _ _ _ _ _ _ us hl => match us, hl with | [_, _], _ => rfl
  refine Cal.mk2 T.g_law_lies_right F.kp hb (F.ok (CX := CX0) (k := 8) sc_law_lies_right (fun vs H Q E h => ?_) (fun cdv A outer s H vs Q E hr h => ?_))
  · obtain ⟨_, _, _, _, _, _, rfl, _⟩ := h
    rfl
  · obtain ⟨n, C, put, turned, time, b, rfl, hL, hI, hb, q⟩ := h
    refine ⟨_, PSs.nox (pss_cons (ps_for PassesOwn.never rfl (pi_list (pe_calM0 c_Net_lying (hr.mono (by decide)) (pv 0))) (pg_tup rfl (pgs_cons (pg_name (i := 2) sc_law_lies_right.nd rfl (.inl rfl)) (pgs_cons (pg_name (i := 3) sc_law_lies_right.nd rfl (.inl rfl)) pgs_nil))) (pss_one (ps_for PassesOwn.never rfl (pi_list (pe_calM c_Net_things hr (pv 0) (pa_cons (pv 2) (pa_cons (pv 3) pa_nil)))) (pg_tup rfl (pgs_cons (pg_name (i := 4) sc_law_lies_right.nd rfl (.inl rfl)) (pgs_cons (pg_name (i := 5) sc_law_lies_right.nd rfl (.inl rfl)) pgs_nil))) (pss_cons (ps_if (pt_cmpR op_gt (pv 4) (pe_dget (hu_of hr) (pv 1) pe_str (fun _ _ => rfl)) (nomark _)) (pss_one (ps_ret pe_bl)) pss_nil)
    (pss_cons (ps_set (i := 6) sc_law_lies_right.nd rfl (.inl rfl) (pe_cal c_law_fields (hr.mono (by decide)) (pa_cons (pv 5) pa_nil)))
    (pss_cons (ps_if (pt_cmpR (op_inD (hu65 hr)) (pe_tup (pa_cons (pv 2) (pa_cons (pv 3) (pa_cons (pv 5) pa_nil)))) (pe_dget (hu_of hr) (pv 1) pe_str (fun _ _ => rfl)) (by rfl)) (pss_one ps_continue) pss_nil)
    (pss_cons (ps_if (PW.pt (pw_or (pt_cmp (pc_dnotin (hu_of hr) (pe_ix ix_tup (pv 6) pe_int (fun _ _ => rfl)) (pe_dget (hu_of hr) (pv 1) pe_str (fun _ _ => rfl)))) (pw_or1 (pt_not (pt_val (pe_cal c_law_like (hr.mono (by decide)) (pa_cons (pv 6) (pa_cons (pe_ix ix_tup (pe_dget (hu_of hr) (pe_dget (hu_of hr) (pv 1) pe_str (fun _ _ => rfl)) (pe_ix ix_tup (pv 6) pe_int (fun _ _ => rfl)) (fun _ _ => rfl)) pe_int (fun _ _ => rfl)) pa_nil)))))))) (pss_one (ps_ret pe_bl)) pss_nil)
    (pss_one (ps_if (pt_cmpR op_ge (pe_dget (hu_of hr) (pv 1) pe_str (fun _ _ => rfl)) (pe_ix ix_tup (pe_dget (hu_of hr) (pe_dget (hu_of hr) (pv 1) pe_str (fun _ _ => rfl)) (pe_ix ix_tup (pv 6) pe_int (fun _ _ => rfl)) (fun _ _ => rfl)) pe_int (fun _ _ => rfl)) (nomark _)) (pss_one (ps_ret pe_bl)) pss_nil)))))))))
    (pss_one (ps_ret pe_bl))), ?_⟩
    have hn := hL.net
    have few := hI.few
    refine ⟨_, rfl, n.p, n.dx, _, rfl, hn.obj, ntl_m nSt nSt nSt nSt, n, rfl, hn, hI.ok, fun l ks as H1 e1 nl hl hp hnd hks => ⟨l, rfl, ⟨_, SqL.of hl⟩, ?_⟩⟩
    refine for_list (K := K) (a := l) (xs := as.map V.ref) (fun i σ H' => Ex H1 H' ∧ ∃ v2 v3 v4 v5 v6, σ = [some (.ref n.p), some (.ref C.m), v2, v3, v4, v5, v6]) ⟨Ex.refl _, none, none, none, none, none, rfl⟩ (fun i σ H' _ hh => SqL.of (hh.1 _ _ hl)) ?_ ?_
    · rintro i x σ H' hx ⟨e2, v2, v3, v4, v5, v6, rfl⟩
      obtain ⟨a, ha, rfl⟩ : ∃ a, as[i]? = some a ∧ x = .ref a := by
        rw [List.getElem?_map] at hx
        cases e : as[i]? with
        | none => rw [e] at hx; cases hx
        | some a => rw [e] at hx; exact ⟨a, rfl, (Option.some.inj hx).symm⟩
      obtain ⟨k, hk, hka⟩ := pget2 hp ha
      have hkn := ((hks k).mp (List.mem_of_getElem? hk)).1
      have hn2 := (hn.ex e1).ex e2
      refine ⟨a, _, rfl, SqT.of (e2 _ _ hka), rfl, _, _, rfl, _, _, rfl, rfl, ?_⟩
      refine ⟨_, rfl, n.p, n.dx, _, rfl, hn2.obj, ntl_m nSt nSt nSt nSt, _, rfl, _, rfl, n, k, rfl, hn2, hI.ok, hkn, by omega, fun l2 as2 H3 e3 nl2 hl2 hp2 => ⟨l2, rfl, ⟨_, SqL.of hl2⟩, ?_⟩⟩
      refine for_list (K := K) (a := l2) (xs := as2.map V.ref) (fun j σ H'' => Ex H3 H'' ∧ ∃ v4 v5 v6, σ = [some (.ref n.p), some (.ref C.m), some (.int k.1), some (.int k.2), v4, v5, v6]) ⟨Ex.refl _, _, _, _, rfl⟩ (fun i σ H' _ hh => SqL.of (hh.1 _ _ hl2)) ?_ ?_
      · rintro j x σ H4 hx2 ⟨e4, v4, v5, v6, rfl⟩
        obtain ⟨a2, ha2, rfl⟩ : ∃ a, as2[j]? = some a ∧ x = .ref a := by
          rw [List.getElem?_map] at hx2
          cases e : as2[j]? with
          | none => rw [e] at hx2; cases hx2
          | some a => rw [e] at hx2; exact ⟨a, rfl, (Option.some.inj hx2).symm⟩
        obtain ⟨t, ht, bb, h1, h2⟩ := pget2 hp2 ha2
        have hm := List.mem_of_getElem? ht
        have hT := hI.th k hkn t hm
        have okt := hI.ok.tok k hkn t hm
        have hlo := okt.fl.len
        have eA := ((e1.trans e2).trans e3).trans e4
        have hL4 := hL.ex eA
        refine ⟨a2, _, rfl, SqT.of (e4 _ _ h1), rfl, _, _, rfl, _, _, rfl, rfl, ?_⟩
        refine ⟨_, rfl, _, rfl, C.m, _, rfl, K54.mg hL4.lo.md mv_oldest, _, _, rfl, rfl, _, rfl, ?_⟩
        have hyr := hT.years
        rw [decide_eq_false (by omega)]
        refine iteF ⟨_, rfl, bb, bitsT t.fl t.places, 14 + t.fl.data.length, rfl, e4 _ _ h2, bitsT_len _ _, by omega, by omega, fun fp H5 e5 hf => ?_⟩
        refine ⟨_, rfl, _, rfl, _, rfl, sz_3, fun u hu => ?_⟩
        have e6 := Ex.new (o := .tup [.int k.1, .int k.2, .ref bb]) hu
        have hL6 := (hL4.ex e5).ex e6
        have lo := hL6.lo
        refine ⟨_, rfl, C.m, _, rfl, K54.mg lo.md mv_turned, trD k.1 k.2 (bitsT t.fl t.places), turned.map fun t => trD t.h t.t t.bs, dp_trD upd_same ((e4.trans (e5.trans e6)) _ _ h2), .lst (SqL.of lo.tu) (dp_turned _ lo.tus), (gd_trD ..).shaped, (gd_turned _).shaped, _, rfl, ?_⟩
        cases hany : ((turned.map fun t => trD t.h t.t t.bs).any fun z => PyData.eqv z (trD k.1 k.2 (bitsT t.fl t.places))) with
        | true => exact iteT ⟨e4.trans (e5.trans e6), _, _, _, rfl⟩
        | false =>
          have hz : t.places = [] := Classical.byContradiction fun z => by
            rw [any_turned (hT.trn z)] at hany
            cases hany
          rw [hz, fields_T okt.fl] at hf
          obtain ⟨en, hen, ⟨like, exp⟩⟩ := hT.ent
          have hf6 := hf.ex e6
          obtain ⟨d3, hf1, hf2⟩ := id hf6
          have en1 : en.fl.name = t.fl.name := by rw [← like.1]
          have gp : ∀ H7, Ex (upd H5 u (.tup [.int k.1, .int k.2, .ref bb])) H7 → DGet H7 C.PU (.int t.fl.name) (some (.ref en.a)) := fun H7 e7 => by
            have := DGet.k (k := Sum.inl en.fl.name) (e7 _ _ lo.pu)
            rw [puK_get (hI.nd hb) hen, en1] at this
            exact this
          have g0 := gp _ (Ex.refl _)
          obtain ⟨en2, en3⟩ := lo.ents en hen
          refine iteF ⟨_, rfl, _, _, _, _, rfl, rfl, SqT.of hf1, rfl, _, rfl, C.m, _, rfl, K54.mg lo.md mv_put, C.PU, some _, rfl, g0, _, rfl, iteF ?_⟩
          refine ⟨_, rfl, _, rfl, C.m, _, rfl, K54.mg lo.md mv_put, _, rfl, _, _, _, _, rfl, rfl, SqT.of hf1, rfl, C.PU, _, rfl, g0, _, _, _, _, rfl, rfl, SqT.of en2, rfl, fp, en.f, t.fl, en.fl, rfl, hf6, en3, like, fun H7 e7 => ⟨true, rfl, iteF ?_⟩⟩
          have md7 := e7 _ _ lo.md
          refine ⟨_, rfl, C.m, _, rfl, K54.mg md7 mv_time, _, rfl, C.m, _, rfl, K54.mg md7 mv_put, _, rfl, _, _, _, _, rfl, rfl, SqT.of (e7 _ _ hf1), rfl, C.PU, _, rfl, gp _ e7, _, _, _, _, rfl, rfl, SqT.of (e7 _ _ en2), rfl, _, _, rfl, rfl, _, rfl, ?_⟩
          have h0 := hI.ok.old
          rw [hI.oldE] at h0
          have hml : 1 * (C.oldest + 1) ≤ t.fl.life * (C.oldest + 1) := Int.mul_le_mul_of_nonneg_right hT.life (by omega)
          rw [decide_eq_false (by omega)]
          exact iteF ⟨e4.trans ((e5.trans e6).trans e7), _, _, _, rfl⟩
      · rintro σ H4 ⟨e4, v4, v5, v6, rfl⟩
        exact ⟨e2.trans (e3.trans e4), _, _, _, _, _, rfl⟩
    · rintro σ H' ⟨e2, v2, v3, v4, v5, v6, rfl⟩
      exact q H' (e1.trans e2)
end
end K54

set_option Elab.async false
set_option linter.all false
set_option maxRecDepth 100000
set_option maxHeartbeats 4000000
/-! The law's own defs: turned. -/
namespace K54
open PySem PySem.Spec PyProof.Rows L2 Evl
section
variable {K : PySem.W.Frag} {H : Hp} {n : NG} {C : LC} {put : List PEnt} {turned : List TEnt} {time : Int} {b : Nat} {S : Addr}
theorem Inv.up (h : Inv n C put turned time b) : Inv n C put turned time (b + 1) := ⟨h.ok, h.tvE, h.oldE, h.old3, h.names, h.fok, h.th, (by have := h.few; omega), h.exps⟩
theorem ThI.more {k : Int × Int} {t : Th} (h : ThI C put turned time k t) (u : TEnt) : ThI C put (turned ++ [u]) time k t := ⟨h.life, h.years, h.ent, fun z => by
  obtain ⟨x, hx, e⟩ := h.trn z
  exact ⟨x, List.mem_append_left _ hx, e⟩⟩
theorem LO.turn (h : LO H C put turned time) {u : TEnt} (ha : H u.a = some (.tup [.int u.h, .int u.t, .ref u.b])) (hb : H u.b = some (.tup (bvs u.bs))) : LO (upd H C.TU (.lst (turned.map (fun t => V.ref t.a) ++ [.ref u.a]))) C put (turned ++ [u]) time := by
  have f : ∀ a o, H a = some o → okK o → upd H C.TU (.lst (turned.map (fun t => V.ref t.a) ++ [.ref u.a])) a = some o := fun a o ho hk => by
    rw [upd_ne (fun z => by rw [z, h.tu] at ho; rw [← Option.some.inj ho] at hk; exact hk)]
    exact ho
  refine ⟨f _ _ h.md trivial, ?_, f _ _ h.pu trivial, fun e he => ⟨f _ _ (h.ents e he).1 trivial, ?_⟩, ?_, fun t ht => ?_, h.mp⟩
  · obtain ⟨tb, e, hd, ne, hi⟩ := h.tab
    exact ⟨tb, e, f _ _ hd trivial, ne, fun t ht => ⟨f _ _ (hi t ht).1 trivial, (hi t ht).2⟩⟩
  · obtain ⟨d, a, b⟩ := (h.ents e he).2
    exact ⟨d, f _ _ a trivial, f _ _ b trivial⟩
  · rw [upd_same, List.map_append]
    rfl
  · rcases List.mem_append.mp ht with z | z
    · exact ⟨f _ _ (h.tus t z).1 trivial, f _ _ (h.tus t z).2 trivial⟩
    · have : t = u := by simpa using z
      rw [this]
      exact ⟨f _ _ ha trivial, f _ _ hb trivial⟩
theorem LR.turn (h : LR K H n C put turned time) {u : TEnt} (ha : H u.a = some (.tup [.int u.h, .int u.t, .ref u.b])) (hb : H u.b = some (.tup (bvs u.bs))) : LR K (upd H C.TU (.lst (turned.map (fun t => V.ref t.a) ++ [.ref u.a]))) n C put (turned ++ [u]) time := by
  refine ⟨h.net.updl h.lo.tu h.noTU, h.lo.turn ha hb, h.wap.frame fun a o ho hk => ?_, h.noTU⟩
  rw [upd_ne (fun z => by rw [z, h.lo.tu] at ho; rw [← Option.some.inj ho] at hk; exact hk)]
  exact ho
theorem Stp.up {F : Addr → Prop} {a : Addr} {o : HO} (h : F a) : Stp F H F (upd H a o) := ⟨fun x u hx no => by
  rw [upd_ne (fun z => no (by rw [z]; exact h))]
  exact hx, fun x hx => .inl hx⟩
theorem mem_nI {ps : List Nat} {r : Nat} : (r : Int) ∈ nI ps ↔ r ∈ ps := by
  unfold nI
  rw [List.mem_map]
  constructor
  · rintro ⟨x, hx, e⟩
    have : x = r := by omega
    rw [← this]; exact hx
  · exact fun h => ⟨r, h, rfl⟩
end
section
variable {P : Program} {w : World} {K : PySem.W.Frag} {mg : Str → Option Value} {base : Heap}
theorem cal_law_turned (T : TX K mg) (c_Net_turn : MCal P w K mg base "Net" "turn" 4 (sp_Net_turn K)) (c_law_next : Cal P w K mg base "_law_next" 1 (sp_law_next K)) (c_Net_things : MCal P w K mg base "Net" "things" 8 (sp_Net_things K)) : Cal P w K mg base "_law_turned" 9 (sp_law_turned K) := by
  obtain ⟨fd, F⟩ := T.df_law_turned
  have hb : Binds K fd ["_law_net", "_law_m", "_law_state_here", "_law_thing_here"] [] := F.bindsN fun _ _ _ _ _ _ us hl => match us, hl with | [_, _, _, _], _ => rfl
  refine Cal.mk2 T.g_law_turned F.kp hb (F.ok (CX := CX0) (k := 8) sc_law_turned (fun vs H Q E h => ?_) (fun cdv A outer s H vs Q E hr h => ?_))
  · obtain ⟨_, _, _, _, _, _, _, _, _, _, _, rfl, _⟩ := h
    rfl
  · obtain ⟨n, C, put, turned, time, b, S, p, k, i, t, rfl, hL, hI, hb, hS, hp, hk, hi, q⟩ := h
    refine ⟨_, PSs.nox (pss_cons (ps_asg (pv 3) (pg_tup rfl (pgs_cons (pg_name (i := 4) sc_law_turned.nd rfl (.inl rfl)) (pgs_cons (pg_name (i := 5) sc_law_turned.nd rfl (.inl rfl)) (pgs_cons (pg_name (i := 6) sc_law_turned.nd rfl (.inl rfl)) pgs_nil)))))
    (pss_cons (ps_set (i := 7) sc_law_turned.nd rfl (.inl rfl) (pe_ix ix_tup (pe_ix ix_list (pe_calM c_Net_things hr (pv 0) (pa_cons (pv 4) (pa_cons (pv 5) pa_nil))) (pv 6) (fun _ _ => rfl)) pe_int (fun _ _ => rfl)))
    (pss_cons (ps_if (pt_cmpR (op_inD (hu65 hr)) (pe_tup (pa_cons (pv 4) (pa_cons (pv 5) (pa_cons (pv 7) pa_nil)))) (pe_dget (hu_of hr) (pv 1) pe_str (fun _ _ => rfl)) (by rfl)) (pss_one ps_retN) pss_nil)
    (pss_cons (ps_set (i := 8) sc_law_turned.nd rfl (.inl rfl) (pe_lst pa_nil))
    (pss_cons (ps_for PassesOwn.never rfl (pi_range1 rfl T.f_range (pa_cons (pe_op op_add pe_int (pe_cal c_law_next (hr.mono (by decide)) (pa_cons (pv 2) (pa_cons pe_int pa_nil)))) pa_nil)) (pg_name (i := 9) sc_law_turned.nd rfl (.inl rfl)) (pss_cons (ps_set (i := 10) sc_law_turned.nd rfl (.inl rfl) (pe_cal c_law_next (hr.mono (by decide)) (pa_cons (pv 2) (pa_cons (pe_callB call_len_seq (by rfl) T.f_len bt_len (pa_cons (pv 7) pa_nil)) pa_nil))))
    (pss_one (ps_if (pt_cmpR op_notIn_seq (pv 10) (pv 8) (by rfl)) (pss_one (ps_expr (pe_bm PySem.F.plainAttrs_list PySem.F.slot_list_append PySem.F.type_list_append mt_append (pv 8) (pa_cons (pv 10) pa_nil)))) pss_nil))))
    (pss_cons (ps_expr (pe_calM c_Net_turn (hr.mono (by decide)) (pv 0) (pa_cons (pv 4) (pa_cons (pv 5) (pa_cons (pv 6) (pa_cons (pv 8) pa_nil))))))
    (pss_one (ps_expr (pe_bm PySem.F.plainAttrs_list PySem.F.slot_list_append PySem.F.type_list_append mt_append (pe_dget (hu_of hr) (pv 1) pe_str (fun _ _ => rfl)) (pa_cons (pe_tup (pa_cons (pv 4) (pa_cons (pv 5) (pa_cons (pe_ix ix_tup (pe_ix ix_list (pe_calM c_Net_things hr (pv 0) (pa_cons (pv 4) (pa_cons (pv 5) pa_nil))) (pv 6) (fun _ _ => rfl)) pe_int (fun _ _ => rfl)) pa_nil)))) pa_nil)))))))))), ?_⟩
    have hn := hL.net
    have few := hI.few
    have hm := List.mem_of_getElem? hi
    have hilt := (List.getElem?_eq_some_iff.mp hi).1
    have hT := hI.th k hk t hm
    have okt := hI.ok.tok k hk t hm
    refine ⟨_, rfl, p, _, rfl, SqT.of hp, rfl, _, _, rfl, _, _, rfl, _, _, rfl, rfl, ?_⟩
    refine ⟨_, rfl, n.p, n.dx, _, rfl, hn.obj, ntl_m nSt nSt nSt nSt, _, rfl, _, rfl, n, k, rfl, hn, hI.ok, hk, by omega, fun l as H1 e1 nl hl hp1 => ?_⟩
    obtain ⟨a, ha, bb, h1, h2⟩ := L2.paired_get hp1 hi
    refine ⟨_, rfl, _, _, _, _, rfl, rfl, SqL.of hl, atI_nat (v := .ref a) (by rw [List.getElem?_map, ha]; rfl), _, _, _, _, rfl, rfl, SqT.of h1, rfl, ?_⟩
    refine ⟨_, rfl, _, rfl, _, rfl, sz_3, fun u hu => ?_⟩
    have e2 := Ex.new (o := .tup [.int k.1, .int k.2, .ref bb]) hu
    have hL2 := (hL.ex e1).ex e2
    have lo := hL2.lo
    refine ⟨_, rfl, C.m, _, rfl, K54.mg lo.md mv_turned, trD k.1 k.2 (bitsT t.fl t.places), turned.map fun t => trD t.h t.t t.bs, dp_trD upd_same (e2 _ _ h2), .lst (SqL.of lo.tu) (dp_turned _ lo.tus), (gd_trD ..).shaped, (gd_turned _).shaped, _, rfl, ?_⟩
    cases hany : ((turned.map fun t => trD t.h t.t t.bs).any fun z => PyData.eqv z (trD k.1 k.2 (bitsT t.fl t.places))) with
    | true => exact iteT (q _ n put turned time rfl hL2 hI.up (hS.ex (e1.trans e2)) (Stp.of_ex (e1.trans e2)))
    | false =>
      have hz : t.places = [] := Classical.byContradiction fun z => by
        rw [any_turned (hT.trn z)] at hany
        cases hany
      refine iteF ⟨Nat.zero_le _, fun pl hpl => ?_⟩
      have e3 := Ex.new (o := .lst []) hpl
      have hSb := hS.ex (e1.trans e2)
      have plS : pl ≠ S := fun z => by obtain ⟨a, b, c, h⟩ := hSb.st; rw [← z, hpl] at h; cases h
      have h2b := e2 _ _ h2
      have hbl := bitsT_len t.fl t.places
      have hbn : nbits t.fl = 8 * (14 + t.fl.data.length) + 16 := rfl
      have hlo := okt.fl.len
      generalize hHb : upd H1 u (.tup [.int k.1, .int k.2, .ref bb]) = Hb at *
      refine ⟨_, rfl, S, 3, rfl, (hSb.ex e3).st, by decide, by decide, fun r H4 r0 r1 s4 => ⟨_, _, rfl, rfl, _, rfl, by omega, by omega, ?_⟩⟩
      refine for_range (lo := 0) (n := (1 + r).toNat) (fun c σ H' => ∃ ps : List Nat, StS S Hb H' ∧ H' pl = some (.lst (nvs ps)) ∧ ps.length ≤ c ∧ (1 ≤ c → ps ≠ []) ∧ ps.Nodup ∧ (∀ x ∈ ps, x < nbits t.fl) ∧ ∃ v9 v10, σ = [some (.ref n.p), some (.ref C.m), some (.ref S), some (.ref p), some (.int k.1), some (.int k.2), some (.int i), some (.ref bb), some (.ref pl), v9, v10])
        ⟨[], (StS.of_ex e3 hSb.st).trans s4, s4.1 _ _ upd_same plS, Nat.le_refl _, (fun z => absurd z (by decide)), .nil, (fun x hx => nomatch hx), none, none, rfl⟩ ?_ ?_
      · rintro c σ H' hc ⟨ps, g1, g2, g3, g4, g5, g6, v9, v10, rfl⟩
        have hbb := g1.1 _ _ h2b (hSb.st.nok h2b trivial)
        refine ⟨_, rfl, _, rfl, bb, _, rfl, .inr (SqT.of hbb), S, _, rfl, g1.2, by rw [bvs_len, hbl]; omega, by rw [bvs_len, hbl]; omega, fun r2 H5 r20 r21 s5 => ?_⟩
        obtain ⟨r2, rfl⟩ := Int.eq_ofNat_of_zero_le r20
        rw [bvs_len, hbl] at r21
        have k2 := s5.1 _ _ g2 plS
        refine ⟨_, rfl, _, rfl, pl, _, rfl, .inl (SqL.of k2), rfl, by rw [nvs_ivs]; exact flat_ivs _, _, rfl, ?_⟩
        have hv : inV (V.int (r2 : Int)) (nvs ps) = decide (r2 ∈ ps) := by
          rw [nvs_ivs, inV_ivs]
          by_cases z : r2 ∈ ps
          · rw [decide_eq_true z, decide_eq_true (mem_nI.mpr z)]
          · rw [decide_eq_false z, decide_eq_false fun y => z (mem_nI.mp y)]
        by_cases hm2 : r2 ∈ ps
        · rw [decide_eq_true hm2] at hv
          have hv2 : (!inV (V.int (r2 : Int)) (nvs ps)) = false := by rw [hv]; rfl
          have : (if true = true then (!inV (V.int (r2 : Int)) (nvs ps)) else inV (V.int (r2 : Int)) (nvs ps)) = false := hv2
          rw [this]
          refine iteF ⟨ps, g1.trans s5, k2, by omega, fun _ z => (by rw [z] at hm2; cases hm2), g5, g6, _, _, rfl⟩
        · rw [decide_eq_false hm2] at hv
          have hv2 : (!inV (V.int (r2 : Int)) (nvs ps)) = true := by rw [hv]; rfl
          have : (if true = true then (!inV (V.int (r2 : Int)) (nvs ps)) else inV (V.int (r2 : Int)) (nvs ps)) = true := hv2
          rw [this]
          refine iteT ⟨_, rfl, .inl ⟨rfl, _, SqL.of k2⟩, _, rfl, pl, _, _, rfl, rfl, k2, by rw [nvs_len]; exact szlt (by omega), ps ++ [r2], ?_, ?_, by rw [List.length_append, List.length_singleton]; omega, fun _ z => by simp at z, ?_, fun x hx => ?_, _, _, rfl⟩
          · have g := g1.trans s5
            refine ⟨fun a o ha ne => by rw [upd_ne (ne_of_none ha hpl)]; exact g.1 a o ha ne, ?_⟩
            obtain ⟨x, y, z, h⟩ := g.2
            exact ⟨x, y, z, by rw [upd_ne plS.symm]; exact h⟩
          · rw [upd_same]
            simp [nvs]
          · refine List.nodup_append.mpr ⟨g5, by simp, fun a ha b hb e => hm2 ?_⟩
            have y : b = r2 := by simpa using hb
            rw [← y, ← e]
            exact ha
          · rcases List.mem_append.mp hx with z | z
            · exact g6 x z
            · have : x = r2 := by simpa using z
              omega
      · rintro σ H' ⟨ps, g1, g2, g3, g4, g5, g6, v9, v10, rfl⟩
        have hL' := hL2.st hSb g1
        have hS' := hSb.st' g1
        have hn' := hL'.net
        refine ⟨_, rfl, n.p, n.dx, _, rfl, hn'.obj, ntl_m nSt nSt nSt nSt, _, rfl, _, rfl, _, rfl, _, rfl, n, k, i, t, pl, ps, rfl, hn', hI.ok, hk, hi, by omega, hz, g2, g4 (by omega), by omega, g5, g6, fun H6 n' qa e hn6 ok6 hs => ?_⟩
        subst e
        have hL6 := hL'.mv hs hn6 rfl rfl
        have hS6 := hS'.mv hs
        have hg : ((n.setT k ((n.T k).set i { t with places := ps, pl := qa })).T k)[i]? = some { t with places := ps, pl := qa } := by
          rw [setT_same]
          exact List.getElem?_set_self hilt
        have htot : tot (n.setT k ((n.T k).set i { t with places := ps, pl := qa })) = tot n := by
          have := tot_set hI.ok.kd hk ((n.T k).set i { t with places := ps, pl := qa })
          rw [List.length_set] at this
          omega
        have lo6 := hL6.lo
        refine ⟨_, rfl, C.m, _, rfl, K54.mg lo6.md mv_turned, .inl ⟨rfl, _, SqL.of lo6.tu⟩, _, rfl, _, rfl, _, rfl, n.p, n.dx, _, rfl, hn6.obj, ntl_m nSt nSt nSt nSt, _, rfl, _, rfl, (n.setT k ((n.T k).set i { t with places := ps, pl := qa })), k, rfl, hn6, ok6, hk, by omega, fun l2 as2 H7 e7 nl2 hl2 hp2 => ?_⟩
        obtain ⟨a2, ha2, b2, h3, h4⟩ := L2.paired_get hp2 hg
        refine ⟨_, rfl, _, _, _, _, rfl, rfl, SqL.of hl2, atI_nat (v := .ref a2) (by rw [List.getElem?_map, ha2]; rfl), _, _, _, _, rfl, rfl, SqT.of h3, rfl, sz_3, fun u3 hu3 => ?_⟩
        have e8 := Ex.new (o := .tup [.int k.1, .int k.2, .ref b2]) hu3
        have hL8 := (hL6.ex e7).ex e8
        refine ⟨C.TU, _, _, rfl, rfl, hL8.lo.tu, by rw [List.length_map]; exact szlt (by omega), ?_⟩
        have fin := hL8.turn (u := ⟨k.1, k.2, bitsT t.fl ps, u3, b2⟩) upd_same (e8 _ _ h4)
        refine q _ (n.setT k ((n.T k).set i { t with places := ps, pl := qa })) put (turned ++ [⟨k.1, k.2, bitsT t.fl ps, u3, b2⟩]) time rfl fin ⟨ok6, hI.tvE, hI.oldE, hI.old3, hI.names, hI.fok, fun k' hk' t' ht' => ?_, ⟨by omega, by rw [List.length_append, List.length_singleton]; omega, by omega⟩, hI.exps⟩ ?_ ?_
        · by_cases e : k' = k
          · rw [e, setT_same] at ht'
            rw [e]
            rcases List.mem_or_eq_of_mem_set ht' with z | z
            · exact (hI.th k hk t' z).more _
            · rw [z]
              exact ⟨hT.life, hT.years, hT.ent, fun _ => ⟨_, List.mem_append_right _ (List.mem_singleton.mpr rfl), rfl, rfl, rfl⟩⟩
          · rw [setT_ne e] at ht'
            exact (hI.th k' hk' t' ht').more _
        · obtain ⟨⟨x, y, z, h⟩, o1, o2⟩ := (hS6.ex e7).ex e8
          exact ⟨⟨x, y, z, by rw [upd_ne o2]; exact h⟩, o1, o2⟩
        · exact (((Stp.of_ex (e1.trans e2)).trans (LF.st g1)).trans (LF.mv hs)).trans ((Stp.of_ex (e7.trans e8)).trans (Stp.up (.inr (.inr (.inr (.inl rfl))))))
end
end K54

set_option Elab.async false
set_option linter.all false
set_option maxRecDepth 100000
set_option maxHeartbeats 1000000
/-! The law's own defs: put. -/
namespace K54
open PySem PySem.Spec PyProof.Rows L2 Evl
theorem tout_keys (tb : TB) : (tout tb).map (fun kv => kV kv.1) = ivs (plcs (tview tb)) := by
  unfold tout ivs
  rw [plcs_view, List.map_map, List.map_map]
  rfl
theorem plcs_len (tv : TV) : (plcs tv).length = tv.length := by simp [plcs]
theorem ivs_get' {xs : List Int} {j : Nat} {y : Int} (h : xs[j]? = some y) : (ivs xs)[j]? = some (.int y) := by
  unfold ivs
  rw [List.getElem?_map, h]
  rfl
theorem at_last {xs : List V} {v : V} (h0 : 0 < xs.length) (h : xs[xs.length - 1]? = some v) : atI xs (-1) = some v := by
  unfold atI
  have := ixN_neg (n := xs.length) (p := 0) h0
  have e : (-1 - ((0 : Nat) : Int)) = -1 := rfl
  rw [e] at this
  rw [this]
  exact h
def fD (f : Fl) : PyData := .tuple [.int f.src, .int f.tgt, .int f.kind, .int f.life, .int f.name, .int f.first, .bool f.more, .tuple (iD f.data)]
theorem gd_fD (f : Fl) : Gd 2 (fD f) := gd_tup fun d hd => by
  simp only [List.mem_cons, List.not_mem_nil, or_false] at hd
  rcases hd with rfl | rfl | rfl | rfl | rfl | rfl | rfl | rfl
  · exact gd_int 1 _
  · exact gd_int 1 _
  · exact gd_int 1 _
  · exact gd_int 1 _
  · exact gd_int 1 _
  · exact gd_int 1 _
  · exact gd_bool 1 _
  · exact gd_tup (gd_iD 0 _)
theorem dp_fD {K : PySem.W.Frag} {H : Hp} {p : Addr} {f : Fl} (h : FlR H p f) : Dp K H (.ref p) (fD f) := by
  obtain ⟨d, h1, h2⟩ := h
  exact .tup (SqT.of h1) (.cons (.int _) (.cons (.int _) (.cons (.int _) (.cons (.int _) (.cons (.int _) (.cons (.int _) (.cons (.bl _) (.cons (dp_tI h2) .nil))))))))
section
variable {K : PySem.W.Frag} {H : Hp} {n : NG} {C : LC} {put : List PEnt} {turned : List TEnt} {time : Int} {b : Nat} {S : Addr}
theorem NetR.updK (h : NetR K H n) {a : Addr} {kvs kvs' : List (Key × V)} (ha : H a = some (.dK kvs)) (w : TabRA H n.W n.tv (fun x => x = a)) : NetR K (upd H a (.dK kvs')) n := by
  refine ⟨by rw [upd_ne (ne_of h.obj ha (fun z => nomatch z))]; exact h.obj, ?_, by rw [upd_ne (ne_of h.dict ha (fun z => nomatch z))]; exact h.dict, fun k hk => by rw [upd_ne (ne_of (h.lst k hk) ha (fun z => nomatch z))]; exact h.lst k hk, fun k hk t ht => ?_⟩
  · obtain ⟨tb, e, ⟨hd, n1⟩, hi⟩ := w
    have rd : ∀ (x : Addr) (kv : List (Key × V)), Rd H x (.dK kv) → x ≠ a → Rd (upd H a (.dK kvs')) x (.dK kv) := fun x kv r ne => by
      rcases r with r | ⟨o, r⟩
      · exact .inl (by rw [upd_ne ne]; exact r)
      · exact .inr ⟨o, by rw [upd_ne ne]; exact r⟩
    exact ⟨tb, e, rd _ _ hd n1, fun t ht => rd _ _ (hi t ht).1 (hi t ht).2⟩
  · have r := h.th k hk t ht
    exact ⟨by rw [upd_ne (ne_of r.obj ha (fun z => nomatch z))]; exact r.obj, by rw [upd_ne (ne_of r.row ha (fun z => nomatch z))]; exact r.row, by rw [upd_ne (ne_of r.pl ha (fun z => nomatch z))]; exact r.pl⟩
theorem TabRA.mono {d : Addr} {tv : TV} {A B : Addr → Prop} (h : TabRA H d tv A) (s : ∀ a, B a → A a) : TabRA H d tv B := by
  obtain ⟨tb, e, ⟨hd, n1⟩, hi⟩ := h
  exact ⟨tb, e, ⟨hd, fun z => n1 (s _ z)⟩, fun t ht => ⟨(hi t ht).1, fun z => (hi t ht).2 (s _ z)⟩⟩
theorem TabRA.updK {d a : Addr} {tv : TV} {A : Addr → Prop} {o : HO} (h : TabRA H d tv A) (ha : A a) : TabRA (upd H a o) d tv A := by
  obtain ⟨tb, e, ⟨hd, n1⟩, hi⟩ := h
  have rd : ∀ (x : Addr) (kv : List (Key × V)), Rd H x (.dK kv) → ¬ A x → Rd (upd H a o) x (.dK kv) := fun x kv r no => by
    have ne : x ≠ a := fun z => no (by rw [z]; exact ha)
    rcases r with r | ⟨o, r⟩
    · exact .inl (by rw [upd_ne ne]; exact r)
    · exact .inr ⟨o, by rw [upd_ne ne]; exact r⟩
  exact ⟨tb, e, ⟨rd _ _ hd n1, n1⟩, fun t ht => ⟨rd _ _ (hi t ht).1 (hi t ht).2, (hi t ht).2⟩⟩
theorem LR.putE (h : LR K H n C put turned time) {e : PEnt} (ha : H e.a = some (.tup [.ref e.f, .int e.exp])) (hf : FlR H e.f e.fl) : LR K (upd H C.PU (.dK (puK (put ++ [e])))) n C (put ++ [e]) turned time := by
  have lo := h.lo
  have tp : ∀ (a : Addr) (xs : List V), H a = some (.tup xs) → upd H C.PU (.dK (puK (put ++ [e]))) a = some (.tup xs) := fun a xs ho => by
    rw [upd_ne (ne_of ho lo.pu (fun z => nomatch z))]
    exact ho
  refine ⟨h.net.updK lo.pu (h.wap.mono fun a z => .inr z), ⟨by rw [upd_ne lo.mp]; exact lo.md, ?_, upd_same, fun x hx => ?_, by rw [upd_ne (ne_of lo.tu lo.pu (fun z => nomatch z))]; exact lo.tu, fun t ht => ⟨tp _ _ (lo.tus t ht).1, tp _ _ (lo.tus t ht).2⟩, lo.mp⟩, h.wap.updK (.inr rfl), h.noTU⟩
  · obtain ⟨tb, e1, hd, ne, hi⟩ := lo.tab
    exact ⟨tb, e1, by rw [upd_ne ne.2]; exact hd, ne, fun t ht => ⟨by rw [upd_ne (hi t ht).2.2]; exact (hi t ht).1, (hi t ht).2⟩⟩
  · have fl : ∀ (p : Addr) (f : Fl), FlR H p f → FlR (upd H C.PU (.dK (puK (put ++ [e])))) p f := fun p f ⟨d, a, b⟩ => ⟨d, tp _ _ a, tp _ _ b⟩
    rcases List.mem_append.mp hx with z | z
    · exact ⟨tp _ _ (lo.ents x z).1, fl _ _ (lo.ents x z).2⟩
    · have : x = e := by simpa using z
      rw [this]
      exact ⟨tp _ _ ha, fl _ _ hf⟩
theorem LR.tick (h : LR K H n C put turned time) (t : Int) : LR K (upd H C.m (.dK (mK C t))) n C put turned t := by
  have lo := h.lo
  have tp : ∀ (a : Addr) (xs : List V), H a = some (.tup xs) → upd H C.m (.dK (mK C t)) a = some (.tup xs) := fun a xs ho => by
    rw [upd_ne (ne_of ho lo.md (fun z => nomatch z))]
    exact ho
  refine ⟨h.net.updK lo.md (h.wap.mono fun a z => .inl z), ⟨upd_same, ?_, by rw [upd_ne lo.mp.symm]; exact lo.pu, fun x hx => ?_, by rw [upd_ne (ne_of lo.tu lo.md (fun z => nomatch z))]; exact lo.tu, fun t ht => ⟨tp _ _ (lo.tus t ht).1, tp _ _ (lo.tus t ht).2⟩, lo.mp⟩, h.wap.updK (.inl rfl), h.noTU⟩
  · obtain ⟨tb, e1, hd, ne, hi⟩ := lo.tab
    exact ⟨tb, e1, by rw [upd_ne ne.1]; exact hd, ne, fun t ht => ⟨by rw [upd_ne (hi t ht).2.1]; exact (hi t ht).1, (hi t ht).2⟩⟩
  · obtain ⟨d, a, b⟩ := (lo.ents x hx).2
    exact ⟨tp _ _ (lo.ents x hx).1, d, tp _ _ a, tp _ _ b⟩
theorem ThI.moreP {k : Int × Int} {t : Th} (h : ThI C put turned time k t) (e : PEnt) : ThI C (put ++ [e]) turned time k t := ⟨h.life, h.years, by
  obtain ⟨x, hx, z⟩ := h.ent
  exact ⟨x, List.mem_append_left _ hx, z⟩, h.trn⟩
theorem Inv.fresh (h : Inv n C put turned time b) (hb : b ≤ 61) {nm : Int} (e : nm = ((put.length : Int) * 40009 + C.off) % 65536) : valV (puK put) (Sum.inl nm) = none := by
  unfold puK
  rw [valV_map (fun e : PEnt => e.fl.name) (fun e => V.ref e.a)]
  cases hf : put.find? fun x => decide (x.fl.name = nm) with
  | none => rfl
  | some x =>
    exfalso
    have hx := List.mem_of_find?_eq_some hf
    have en : x.fl.name = nm := by simpa using List.find?_some hf
    obtain ⟨i, hi⟩ := List.getElem?_of_mem hx
    have hil := (List.getElem?_eq_some_iff.mp hi).1
    have := h.names i x hi
    have := h.few.1
    omega
theorem LO.tabR (h : LO H C put turned time) : TabR H C.d C.tv := let ⟨tb, e, hd, _, hi⟩ := h.tab; ⟨tb, e, .inl hd, fun t ht => .inl (hi t ht).1⟩
end
theorem at_st {t : TS} {D : Ends} {σ σ' : L2.St} {H : Hp} (e : σ = σ') (h : t D σ' H) : t D σ H := by rw [e]; exact h
theorem gn_st {i : Nat} {v : V} {σ σ' : L2.St} {H : Hp} {Q : L2.St → Hp → Prop} (e : σ.set i (some v) = σ') (h : Q σ' H) : gName i v σ H Q := by subst e; exact h
section
variable {P : Program} {w : World} {K : PySem.W.Frag} {mg : Str → Option Value} {base : Heap}
theorem cal_law_put (T : TX K mg) (c_Net_put : MCal P w K mg base "Net" "put" 4 (sp_Net_put K)) (c_Net_things : MCal P w K mg base "Net" "things" 8 (sp_Net_things K)) (c_law_next : Cal P w K mg base "_law_next" 1 (sp_law_next K)) (c_Packet_init : NCal P w K mg base "Packet" 3 (sp_Packet_init K)) (c_law_fields : Cal P w K mg base "_law_fields" 1 (sp_law_fields K)) : Cal P w K mg base "_law_put" 9 (sp_law_put K) := by
  obtain ⟨fd, F⟩ := T.df_law_put
  have hb : Binds K fd ["_law_net", "_law_m", "_law_state_here"] [] := F.bindsN fun _ _ _ _ _ _ us hl => match us, hl with | [_, _, _], _ => rfl
  refine Cal.mk2 T.g_law_put F.kp hb (F.ok (CX := CX0) (k := 8) sc_law_put (fun vs H Q E h => ?_) (fun cdv A outer s H vs Q E hr h => ?_))
  · obtain ⟨_, _, _, _, _, _, _, rfl, _⟩ := h
    rfl
  · obtain ⟨n, C, put, turned, time, b, S, rfl, hL, hI, hb, hS, q⟩ := h
    refine ⟨_, PSs.nox (pss_cons (ps_set (i := 3) sc_law_put.nd rfl (.inl rfl) (pe_callTy (call_list_dK rfl) (by rfl) T.f_list bt_list (pa_cons (pe_dget (hu_of hr) (pv 1) pe_str (fun _ _ => rfl)) pa_nil)))
    (pss_cons (ps_set (i := 4) sc_law_put.nd rfl (.inl rfl) (pe_ix ix_list (pv 3) (pe_cal c_law_next (hr.mono (by decide)) (pa_cons (pv 2) (pa_cons (pe_callB call_len_seq (by rfl) T.f_len bt_len (pa_cons (pv 3) pa_nil)) pa_nil))) (fun _ _ => rfl)))
    (pss_cons (ps_set (i := 5) sc_law_put.nd rfl (.inl rfl) (pe_ix ix_list (pv 3) (pe_cal c_law_next (hr.mono (by decide)) (pa_cons (pv 2) (pa_cons (pe_callB call_len_seq (by rfl) T.f_len bt_len (pa_cons (pv 3) pa_nil)) pa_nil))) (fun _ _ => rfl)))
    (pss_cons (ps_set (i := 6) sc_law_put.nd rfl (.inl rfl) (pe_op op_add pe_int (pe_cal c_law_next (hr.mono (by decide)) (pa_cons (pv 2) (pa_cons pe_int pa_nil)))))
    (pss_cons (ps_set (i := 7) sc_law_put.nd rfl (.inl rfl) (pe_op op_mod (pe_op op_add (pe_op op_mul (pe_callB call_lenR (by rfl) T.f_len bt_len (pa_cons (pe_dget (hu_of hr) (pv 1) pe_str (fun _ _ => rfl)) pa_nil)) pe_int) (pe_dget (hu_of hr) (pv 1) pe_str (fun _ _ => rfl))) pe_int))
    (pss_cons (ps_set (i := 8) sc_law_put.nd rfl (.inl rfl) (pe_callTy call_tuple_of (by rfl) T.f_tuple bt_tuple (pa_cons (pe_lc (own := [("_law_k", 15)]) rfl sc_law_put.nd (pi_range1 rfl T.f_range (pa_cons (pe_cal c_law_next (hr.mono (by decide)) (pa_cons (pv 2) (pa_cons pe_int pa_nil))) pa_nil)) (blkOk_by (own := [("_law_k", 15)]) (N := sn_law_put) (sc := defScope s_law_put) (by decide +kernel)) (fun _ _ _ _ _ => pg_name (i := 15) sc_law_put.nd rfl (.inl rfl)) (fun _ _ _ _ _ => pts_nil) (fun _ _ _ _ _ => (pe_cal c_law_next (hr.mono (by decide)) (pa_cons (pv 2) (pa_cons pe_int pa_nil))))) pa_nil)))
    (pss_cons (ps_set (i := 9) sc_law_put.nd rfl (.inl rfl) (pe_tup (pa_cons (pe_cal c_law_next (hr.mono (by decide)) (pa_cons (pv 2) (pa_cons pe_int pa_nil))) (pa_cons (pv 5) (pa_cons (pe_cal c_law_next (hr.mono (by decide)) (pa_cons (pv 2) (pa_cons pe_int pa_nil))) (pa_cons (pv 6) (pa_cons (pv 7) (pa_cons pe_int (pa_cons pe_bl (pa_cons (pv 8) pa_nil))))))))))
    (pss_cons (ps_asg (pv 9) (pg_tup rfl (pgs_cons (pg_name (i := 10) sc_law_put.nd rfl (.inl rfl)) (pgs_cons (pg_name (i := 5) sc_law_put.nd rfl (.inl rfl)) (pgs_cons (pg_name (i := 11) sc_law_put.nd rfl (.inl rfl)) (pgs_cons (pg_name (i := 6) sc_law_put.nd rfl (.inl rfl)) (pgs_cons (pg_name (i := 7) sc_law_put.nd rfl (.inl rfl)) (pgs_cons (pg_name (i := 12) sc_law_put.nd rfl (.inl rfl)) (pgs_cons (pg_name (i := 13) sc_law_put.nd rfl (.inl rfl)) (pgs_cons (pg_name (i := 8) sc_law_put.nd rfl (.inl rfl)) pgs_nil))))))))))
    (pss_cons (ps_expr (pe_calM c_Net_put (hr.mono (by decide)) (pv 0) (pa_cons (pv 4) (pa_cons (pe_calN c_Packet_init (hr.mono (by decide)) (pa_cons (pv 10) (pa_cons (pv 5) (pa_cons (pv 11) (pa_cons (pv 6) (pa_cons (pv 7) (pa_cons (pv 12) (pa_cons (pv 13) (pa_cons (pv 8) pa_nil))))))))) pa_nil))))
    (pss_cons (ps_dput (hu_of hr) (pe_dget (hu_of hr) (pv 1) pe_str (fun _ _ => rfl)) (pv 7) (pe_tup (pa_cons (pv 9) (pa_cons (pe_op op_add (pe_dget (hu_of hr) (pv 1) pe_str (fun _ _ => rfl)) (pe_op op_mul (pv 6) (pe_op op_add (pe_dget (hu_of hr) (pv 1) pe_str (fun _ _ => rfl)) pe_int))) pa_nil))) rfl)
    (pss_cons (ps_if (pt_cmp (pc_dnotin (hu_of hr) (pv 5) (pe_dget (hu_of hr) (pe_dget (hu_of hr) (pv 1) pe_str (fun _ _ => rfl)) (pv 4) (fun _ _ => rfl)))) (pss_one (ps_ret pe_bl)) pss_nil)
    (pss_cons (ps_set (i := 14) sc_law_put.nd rfl (.inl rfl) (pe_calM c_Net_things hr (pv 0) (pa_cons (pv 4) (pa_cons (pe_dget (hu_of hr) (pe_dget (hu_of hr) (pe_dget (hu_of hr) (pv 1) pe_str (fun _ _ => rfl)) (pv 4) (fun _ _ => rfl)) (pv 5) (fun _ _ => rfl)) pa_nil))))
    (pss_one (ps_ret (pe_and (pe_cmpR (op_neNil hr.units0) (pv 14) (pe_lst pa_nil) (nomark _)) (pe_and (pe_cmpR op_eq (pe_ix ix_tup (pe_ix ix_list (pv 14) (pe_un un_neg pe_int) (fun _ _ => rfl)) pe_int (fun _ _ => rfl)) pe_int (nomark _)) (pe_one (pe_cmpR (op_eqD hr.units) (pe_cal c_law_fields (hr.mono (by decide)) (pa_cons (pe_ix ix_tup (pe_ix ix_list (pv 14) (pe_un un_neg pe_int) (fun _ _ => rfl)) pe_int (fun _ _ => rfl)) pa_nil)) (pv 9) (nomark _))))))))))))))))))), ?_⟩
    have few := hI.few
    obtain ⟨tb, etv, htd, _, _⟩ := hL.lo.tab
    have okt : TvOk C.tv := by rw [← hI.tvE]; exact hI.ok.tv
    have l6 := okt.le
    have l1 := okt.pos
    have pll : (ivs (plcs C.tv)).length = C.tv.length := by rw [ivs_len, plcs_len]
    refine ⟨_, rfl, C.m, _, rfl, K54.mg hL.lo.md mv_table, C.d, _, rfl, htd, fun pl hpl => ?_⟩
    rw [tout_keys, etv]
    have e1 := Ex.new (o := .lst (ivs (plcs C.tv))) hpl
    have s1 := StS.of_ex e1 hS.st
    have plS : pl ≠ S := fun z => by obtain ⟨a, b, c, h⟩ := hS.st; rw [← z, hpl] at h; cases h
    refine ⟨_, rfl, _, rfl, _, rfl, pl, _, rfl, .inl (SqL.of upd_same), S, _, rfl, s1.2, by rw [pll]; omega, by rw [pll]; omega, fun r2 H2 r20 r21 s2 => ?_⟩
    obtain ⟨r2, rfl⟩ := Int.eq_ofNat_of_zero_le r20
    rw [pll] at r21
    obtain ⟨place, hplace⟩ : ∃ y, (plcs C.tv)[r2]? = some y := ⟨_, List.getElem?_eq_getElem (by rw [plcs_len]; omega)⟩
    have hpl2 := s2.1 _ _ upd_same plS
    refine ⟨_, _, _, _, rfl, rfl, SqL.of hpl2, atI_nat (ivs_get' hplace), ?_⟩
    refine ⟨_, rfl, _, rfl, _, rfl, pl, _, rfl, .inl (SqL.of hpl2), S, _, rfl, s2.2, by rw [pll]; omega, by rw [pll]; omega, fun r3 H3 r30 r31 s3 => ?_⟩
    obtain ⟨r3, rfl⟩ := Int.eq_ofNat_of_zero_le r30
    rw [pll] at r31
    obtain ⟨tgt, htgt⟩ : ∃ y, (plcs C.tv)[r3]? = some y := ⟨_, List.getElem?_eq_getElem (by rw [plcs_len]; omega)⟩
    have hpl3 := s3.1 _ _ hpl2 plS
    refine ⟨_, _, _, _, rfl, rfl, SqL.of hpl3, atI_nat (ivs_get' htgt), ?_⟩
    have hplm := List.mem_of_getElem? hplace
    have htgm := List.mem_of_getElem? htgt
    have s13 := (s1.trans s2).trans s3
    refine ⟨_, rfl, S, 9, rfl, s3.2, by decide, by decide, fun r4 H4 r40 r41 s4 => ⟨_, _, rfl, rfl, ?_⟩⟩
    have s14 := s13.trans s4
    have lo4 := (hL.st hS s14).lo
    have pul : (puK put).length = put.length := by simp [puK]
    refine ⟨_, rfl, C.m, _, rfl, K54.mg lo4.md mv_put, C.PU, _, rfl, .inl lo4.pu, _, _, rfl, rfl, .inr ⟨by decide, by decide⟩, _, rfl, C.m, _, rfl, K54.mg lo4.md mv_off, _, _, rfl, rfl, _, _, rfl, rfl, (by show (0 : Int) < 65536; decide), ?_⟩
    rw [pul]
    have nm0 : 0 ≤ (((put.length : Nat) : Int) * 40009 + C.off) % 65536 ∧ (((put.length : Nat) : Int) * 40009 + C.off) % 65536 ≤ 65535 := by omega
    refine gn_st (σ' := [some (.ref n.p), some (.ref C.m), some (.ref S), some (.ref pl), some (.int place), some (.int tgt), some (.int (1 + r4)), some (.int ((((put.length : Nat) : Int) * 40009 + C.off) % 65536)), none, none, none, none, none, none, none, none]) rfl ?_
    refine ⟨_, rfl, S, 4, rfl, s4.2, by decide, by decide, fun r5 H5 r50 r51 s5 => ⟨_, rfl, by omega, by omega, fun D hD => ?_⟩⟩
    have s15 := s14.trans s5
    have DS : D ≠ S := fun z => by obtain ⟨a, b, c, h⟩ := s5.2; rw [← z, hD] at h; cases h
    refine lc_range (lo := 0) (n := r5.toNat) (fun j H' => ∃ ds : List Int, StS S H5 H' ∧ H' D = some (.lst (ivs ds)) ∧ ds.length = j ∧ ∀ x ∈ ds, IsB x) ⟨[], StS.of_ex (Ex.new hD) s5.2, upd_same, rfl, fun x hx => nomatch hx⟩ (fun j H' hj hh => ?_) (fun H' hh => ?_)
    · obtain ⟨ds, g1, g2, g3, g4⟩ := hh
      refine ⟨rfl, _, rfl, S, 256, rfl, g1.2, by decide, by decide, fun r H6 r0 r1 s6 => ⟨_, s6.1 _ _ g2 DS, by rw [ivs_len]; exact szlt (by omega), ds ++ [r], ?_, ?_, by simp [g3], fun x hx => ?_⟩⟩
      · have g := g1.trans s6
        refine ⟨fun a o ha ne => by rw [upd_ne (ne_of_none ha hD)]; exact g.1 a o ha ne, ?_⟩
        obtain ⟨x, y, z, h⟩ := g.2
        exact ⟨x, y, z, by rw [upd_ne DS.symm]; exact h⟩
      · rw [upd_same]
        simp [ivs]
      · rcases List.mem_append.mp hx with z | z
        · exact g4 x z
        · have : x = r := by simpa using z
          rw [this]
          exact ⟨r0, by omega⟩
    · obtain ⟨ds, g1, g2, g3, g4⟩ := hh
      have s16 := s15.trans g1
      refine ⟨D, _, rfl, .inl ⟨SqL.of g2, fun dt hdt => ?_⟩⟩
      have s17 := s16.ex (Ex.new (o := .tup (ivs ds)) hdt)
      refine gn_st (σ' := [some (.ref n.p), some (.ref C.m), some (.ref S), some (.ref pl), some (.int place), some (.int tgt), some (.int (1 + r4)), some (.int ((((put.length : Nat) : Int) * 40009 + C.off) % 65536)), some (.ref dt), none, none, none, none, none, none, none]) rfl ?_
      refine ⟨_, rfl, S, 256, rfl, s17.2, by decide, by decide, fun r8 H8 r80 r81 s8 => ⟨_, rfl, _, rfl, S, 256, rfl, s8.2, by decide, by decide, fun r9 H9 r90 r91 s9 => ⟨_, rfl, _, rfl, _, rfl, sz_8, fun ft hft => ?_⟩⟩⟩
      have s19 := (s17.trans s8).trans s9
      have hdt9 : H9 dt = some (.tup (ivs ds)) := s9.1 _ _ (s8.1 _ _ upd_same (s17.2.nok upd_same trivial)) (s8.2.nok (s8.1 _ _ upd_same (s17.2.nok upd_same trivial)) trivial)
      have e10 := Ex.new (o := .tup [.int r8, .int tgt, .int r9, .int (1 + r4), .int ((((put.length : Nat) : Int) * 40009 + C.off) % 65536), .int 0, .bl false, .ref dt]) hft
      have s20 := s19.ex e10
      refine gn_st (σ' := [some (.ref n.p), some (.ref C.m), some (.ref S), some (.ref pl), some (.int place), some (.int tgt), some (.int (1 + r4)), some (.int ((((put.length : Nat) : Int) * 40009 + C.off) % 65536)), some (.ref dt), some (.ref ft), none, none, none, none, none, none]) rfl ?_
      refine ⟨_, rfl, ft, _, rfl, SqT.of upd_same, rfl, _, _, rfl, _, _, rfl, _, _, rfl, _, _, rfl, _, _, rfl, _, _, rfl, _, _, rfl, _, _, rfl, rfl, ?_⟩
      refine at_st (σ' := [some (.ref n.p), some (.ref C.m), some (.ref S), some (.ref pl), some (.int place), some (.int tgt), some (.int (1 + r4)), some (.int ((((put.length : Nat) : Int) * 40009 + C.off) % 65536)), some (.ref dt), some (.ref ft), some (.int r8), some (.int r9), some (.int 0), some (.bl false), none, none]) rfl ?_
      have okf : FlOk ⟨r8, tgt, r9, 1 + r4, (((put.length : Nat) : Int) * 40009 + C.off) % 65536, 0, false, ds⟩ := ⟨⟨r80, by show r8 ≤ 255; omega⟩, okt.byt _ htgm, ⟨r90, by show r9 ≤ 255; omega⟩, ⟨by show 0 ≤ 1 + r4; omega, by show 1 + r4 ≤ 255; omega⟩, nm0.1, nm0.2, rfl, rfl, g4, by show ds.length ≤ 3; omega⟩
      have hL20 := hL.st hS s20
      have hS20 := hS.st' s20
      have hdt20 := e10 _ _ hdt9
      have hft20 : (upd H9 ft (.tup [.int r8, .int tgt, .int r9, .int (1 + r4), .int ((((put.length : Nat) : Int) * 40009 + C.off) % 65536), .int 0, .bl false, .ref dt])) ft = some (.tup [.int r8, .int tgt, .int r9, .int (1 + r4), .int ((((put.length : Nat) : Int) * 40009 + C.off) % 65536), .int 0, .bl false, .ref dt]) := upd_same
      refine ⟨_, rfl, n.p, n.dx, _, rfl, hL20.net.obj, ntl_m nSt nSt nSt nSt, _, rfl, _, rfl, _, rfl, _, rfl, _, rfl, _, rfl, _, rfl, _, rfl, _, rfl, fun x dx nx ndx ne => ⟨x, dx, dt, ⟨r8, tgt, r9, 1 + r4, (((put.length : Nat) : Int) * 40009 + C.off) % 65536, 0, false, ds⟩, rfl, upd_same, ?_, okf, fun H11 k11 hx => ⟨rfl, ?_⟩⟩⟩
      · rw [upd_ne (ne_of_none hdt20 nx), upd_ne (ne_of_none hdt20 ndx)]
        exact hdt20
      have e11 := made_ex nx ndx k11
      have hL11 := hL20.ex e11
      refine ⟨n, place, x, ⟨r8, tgt, r9, 1 + r4, (((put.length : Nat) : Int) * 40009 + C.off) % 65536, 0, false, ds⟩, rfl, hL11.net, hI.ok, by rw [hI.tvE]; exact hplm, ⟨dx, dt, hx, e11 _ _ hdt20⟩, okf, by omega, fun H12 n' hput hn12 ok12 hs => ?_⟩
      obtain ⟨p1, p2, p3, p4, p5⟩ := hput.same
      have hL12 := hL11.mv hs hn12 p2 p3
      have hS12 := (hS20.ex e11).mv hs
      have nupos := hL11.net
      have hft12 := hs.keep (e11 _ _ hft20) (nupos.no_tup (e11 _ _ hft20))
      have hdt12 := hs.keep (e11 _ _ hdt20) (nupos.no_tup (e11 _ _ hdt20))
      have hfl12 : FlR H12 ft ⟨r8, tgt, r9, 1 + r4, (((put.length : Nat) : Int) * 40009 + C.off) % 65536, 0, false, ds⟩ := ⟨dt, hft12, hdt12⟩
      have lo12 := hL12.lo
      have st12 : Stp (LF C S n) H (LF C S n') H12 := ((LF.st s20).trans (Stp.of_ex e11)).trans (LF.mv hs)
      generalize hfe : (⟨r8, tgt, r9, 1 + r4, (((put.length : Nat) : Int) * 40009 + C.off) % 65536, 0, false, ds⟩ : Fl) = f at hput okf hfl12
      have fnm : f.name = (((put.length : Nat) : Int) * 40009 + C.off) % 65536 := by rw [← hfe]
      have ftgt : f.tgt = tgt := by rw [← hfe]
      have flife : f.life = 1 + r4 := by rw [← hfe]
      refine ⟨_, rfl, _, rfl, C.m, _, rfl, K54.mg lo12.md mv_time, _, rfl, _, rfl, C.m, _, rfl, K54.mg lo12.md mv_oldest, _, _, rfl, rfl, _, _, rfl, rfl, .inl ⟨by omega, by omega⟩, _, _, rfl, rfl, sz_2, fun et het => ?_⟩
      have e13 := Ex.new (o := .tup [.ref ft, .int (time + (1 + r4) * (C.oldest + 1))]) het
      have hL13 := hL12.ex e13
      have lo13 := hL13.lo
      have hfresh := hI.fresh hb fnm
      have pk : putK (puK put) (Sum.inl f.name) (.ref et) = puK (put ++ [⟨f, time + (1 + r4) * (C.oldest + 1), et, ft⟩]) := by
        rw [putK_new _ hfresh]
        simp [puK]
      have hdp := DPut.k (k := Sum.inl f.name) (v := .ref et) lo13.pu (by rw [pul]; exact szlt (by omega))
      rw [pk] at hdp
      have hdp2 : DPut (upd H12 et (.tup [.ref ft, .int (time + (1 + r4) * (C.oldest + 1))])) C.PU (.int ((((put.length : Nat) : Int) * 40009 + C.off) % 65536)) (.ref et) (upd (upd H12 et (.tup [.ref ft, .int (time + (1 + r4) * (C.oldest + 1))])) C.PU (.dK (puK (put ++ [⟨f, time + (1 + r4) * (C.oldest + 1), et, ft⟩])))) := by
        rw [← fnm]
        exact hdp
      have hL14 := hL13.putE (e := ⟨f, time + (1 + r4) * (C.oldest + 1), et, ft⟩) upd_same (hfl12.ex e13)
      have hS13 := hS12.ex e13
      have hS14 : SOk (upd (upd H12 et (.tup [.ref ft, .int (time + (1 + r4) * (C.oldest + 1))])) C.PU (.dK (puK (put ++ [⟨f, time + (1 + r4) * (C.oldest + 1), et, ft⟩])))) n' C S := by
        obtain ⟨⟨x, y, z, h⟩, o1, o2⟩ := hS13
        exact ⟨⟨x, y, z, by rw [upd_ne (ne_of h lo13.pu (fun z => nomatch z))]; exact h⟩, o1, o2⟩
      have st14 := (st12.trans (Stp.of_ex (F := LF C S n') e13)).trans (Stp.up (F := LF C S n') (o := .dK (puK (put ++ [⟨f, time + (1 + r4) * (C.oldest + 1), et, ft⟩]))) (.inr (.inr (.inl rfl))))
      have hf14 : FlR (upd (upd H12 et (.tup [.ref ft, .int (time + (1 + r4) * (C.oldest + 1))])) C.PU (.dK (puK (put ++ [⟨f, time + (1 + r4) * (C.oldest + 1), et, ft⟩])))) ft f := (hL14.lo.ents ⟨f, time + (1 + r4) * (C.oldest + 1), et, ft⟩ (List.mem_append_right _ (List.mem_singleton.mpr rfl))).2
      have htot := hput.tot hI.ok
      have hI14 : Inv n' C (put ++ [⟨f, time + (1 + r4) * (C.oldest + 1), et, ft⟩]) turned time (b + 1) := by
        refine ⟨ok12, p3.trans hI.tvE, p4.trans hI.oldE, hI.old3, fun i e hi => ?_, fun e he => ?_, fun k hk t ht => ?_, ⟨by rw [List.length_append, List.length_singleton]; omega, by omega, by omega⟩, fun e he => ?_⟩
        · by_cases z : i < put.length
          · rw [List.getElem?_append_left z] at hi
            exact hI.names i e hi
          · rw [List.getElem?_append_right (by omega)] at hi
            have : i - put.length = 0 := by
              have := (List.getElem?_eq_some_iff.mp hi).1
              simp at this
              omega
            rw [this] at hi
            have e2 : e = ⟨f, time + (1 + r4) * (C.oldest + 1), et, ft⟩ := (Option.some.inj hi).symm
            have : i = put.length := by omega
            rw [e2, this]
            exact fnm
        · rcases List.mem_append.mp he with z | z
          · exact hI.fok e z
          · have : e = ⟨f, time + (1 + r4) * (C.oldest + 1), et, ft⟩ := by simpa using z
            rw [this]
            exact okf
        · rw [p5] at hk
          rcases hput with ⟨hlf, y, u, hy, hu1, hu2, hu3, rfl⟩ | ⟨_, rfl⟩
          · by_cases e : k = (place, y)
            · rw [e, setT_same] at ht
              rw [e] at hk ⊢
              rcases List.mem_append.mp ht with z | z
              · exact (hI.th _ hk t z).moreP _
              · have : t = u := by simpa using z
                rw [this]
                have h0 := hI.ok.old
                rw [hI.oldE] at h0
                refine ⟨by rw [hu1, flife]; omega, by rw [hu2]; exact h0, ⟨_, List.mem_append_right _ (List.mem_singleton.mpr rfl), ?_, ?_⟩, fun z => absurd hu3 z⟩
                · rw [hu1]
                  exact ⟨rfl, by rw [flife]; omega, Int.le_refl _⟩
                · rw [hu1, hu2, flife]
                  show time - 0 + (1 + r4) * (C.oldest + 1) ≤ time + (1 + r4) * (C.oldest + 1)
                  omega
            · rw [setT_ne e] at ht
              exact (hI.th k hk t ht).moreP _
          · exact (hI.th k hk t ht).moreP _
        · rcases List.mem_append.mp he with z | z
          · exact hI.exps e z
          · have : e = ⟨f, time + (1 + r4) * (C.oldest + 1), et, ft⟩ := by simpa using z
            rw [this]
            have h0 := hI.ok.old
            rw [hI.oldE] at h0
            have h3 := hI.old3
            have hm : (1 + r4) * (C.oldest + 1) ≤ 9 * (C.oldest + 1) := Int.mul_le_mul_of_nonneg_right (by omega) (by omega)
            show time + (1 + r4) * (C.oldest + 1) ≤ time + 36
            omega
      have lo14 := hL14.lo
      obtain ⟨ad, ws, g1, g2, g3, g4⟩ := lo14.tabR.get hplm
      have g3 := g3 tgt
      refine ⟨_, rfl, C.m, _, rfl, K54.mg lo13.md mv_put, _, rfl, C.PU, _, rfl, hdp2, ?_⟩
      cases hy : nxt C.tv place tgt with
      | none =>
        rw [hy] at g3
        exact ⟨_, rfl, _, rfl, C.m, _, rfl, K54.mg lo14.md mv_table, _, rfl, C.d, _, rfl, g1, ad, _, rfl, g3, _, rfl, iteT (q _ n' _ turned time p1 hL14 hI14 hS14 st14)⟩
      | some y =>
        rw [hy] at g3
        refine ⟨_, rfl, _, rfl, C.m, _, rfl, K54.mg lo14.md mv_table, _, rfl, C.d, _, rfl, g1, ad, _, rfl, g3, _, rfl, iteF ?_⟩
        have hy' : nxt n'.tv place tgt = some y := by rw [p3, hI.tvE]; exact hy
        have hk := ok12.knx _ _ _ hy'
        obtain ⟨u, hu, hu1, hu2, hu3⟩ : ∃ u, n'.T (place, y) = n.T (place, y) ++ [u] ∧ u.fl = f ∧ u.years = 0 ∧ u.places = [] := by
          rcases hput with ⟨hlf, y2, u, hy2, hu1, hu2, hu3, rfl⟩ | ⟨hz, _⟩
          · have : y2 = y := by
              rw [ftgt, hI.tvE, hy] at hy2
              exact (Option.some.inj hy2).symm
            subst this
            exact ⟨u, setT_same, hu1, hu2, hu3⟩
          · rcases hz with z | z
            · rw [flife] at z
              omega
            · rw [ftgt, hI.tvE, hy] at z
              cases z
        have hn14 := hL14.net
        have obj14 := hn14.obj
        rw [p1] at obj14
        refine ⟨_, rfl, n.p, n'.dx, _, rfl, obj14, ntl_m nSt nSt nSt nSt, _, rfl, _, rfl, C.m, _, rfl, K54.mg lo14.md mv_table, _, rfl, C.d, _, rfl, g1, _, rfl, ad, _, rfl, g3, n', (place, y), by rw [p1]; rfl, hn14, ok12, hk, by omega, fun l as H15 e15 nl hl hp2 => ?_⟩
        rw [hu] at hp2
        have hal : as.length = (n.T (place, y)).length + 1 := by
          have := (Paired.length hp2).symm
          rw [List.length_append, List.length_singleton] at this
          exact this
        obtain ⟨a, ha, bb, h1, h2⟩ := L2.paired_get hp2 (show (n.T (place, y) ++ [u])[(n.T (place, y)).length]? = some u by rw [List.getElem?_append_right (Nat.le_refl _), Nat.sub_self]; rfl)
        have hat : atI (as.map V.ref) (-1) = some (.ref a) := at_last (by rw [List.length_map]; omega) (by rw [List.length_map, List.getElem?_map, hal, Nat.add_sub_cancel, ha]; rfl)
        have hne : (as.map V.ref).isEmpty = false := by
          cases as with
          | nil => simp at hal
          | cons _ _ => rfl
        refine ⟨_, rfl, Nat.zero_le _, fun w1 hw1 => ⟨l, w1, _, rfl, rfl, SqL.of (Ex.new hw1 _ _ hl), SqL.of upd_same, ?_⟩⟩
        rw [hne]
        have e16 := Ex.new (o := .lst []) hw1
        have e0 : decide (V.int u.years = V.int 0) = true := decide_eq_true (by rw [hu2])
        refine ⟨true, rfl, iteT ⟨_, rfl, _, rfl, _, _, _, _, rfl, rfl, SqL.of (e16 _ _ hl), hat, _, _, _, _, rfl, rfl, SqT.of (e16 _ _ h1), rfl, rfl, ?_⟩⟩
        rw [e0]
        refine ⟨true, rfl, iteT ⟨_, rfl, _, rfl, _, _, _, _, rfl, rfl, SqL.of (e16 _ _ hl), hat, _, _, _, _, rfl, rfl, SqT.of (e16 _ _ h1), rfl, bb, bitsT u.fl u.places, 14 + u.fl.data.length, rfl, e16 _ _ h2, bitsT_len _ _, by omega, by rw [hu1]; have := okf.len; omega, fun fp H17 e17 hf => ?_⟩⟩
        rw [hu1, hu3, fields_T okf] at hf
        refine ⟨_, rfl, fD f, fD f, dp_fD hf, dp_fD (hf14.ex ((e15.trans e16).trans e17)), (gd_fD f).shaped, (gd_fD f).shaped, ?_⟩
        rw [(gd_fD f).refl]
        have eZ := (e15.trans e16).trans e17
        exact q _ n' _ turned time p1 (hL14.ex eZ) hI14 (hS14.ex eZ) (st14.trans (Stp.of_ex eZ))
end
end K54

set_option Elab.async false
set_option linter.all false
set_option maxRecDepth 100000
set_option maxHeartbeats 1000000
/-! The law's own defs: deed. -/
namespace K54
open PySem PySem.Spec PyProof.Rows L2 Evl
theorem sum_le {α : Type} {f g : α → Nat} : ∀ {l : List α}, (∀ x ∈ l, f x ≤ g x) → (l.map f).sum ≤ (l.map g).sum
  | [], _ => Nat.le_refl _
  | x :: r, h => by
    have h1 := h x (List.mem_cons_self ..)
    have h2 := sum_le (l := r) fun y hy => h y (List.mem_cons_of_mem _ hy)
    simp only [List.map_cons, List.sum_cons]
    omega
section
variable {K : PySem.W.Frag} {H : Hp} {n n' : NG} {C : LC} {put : List PEnt} {turned : List TEnt} {time : Int} {b : Nat} {S : Addr}
theorem AgeS.tot (h : AgeS n n') : tot n' ≤ tot n := by
  unfold K54.tot
  rw [h.keys]
  refine sum_le fun k hk => ?_
  rw [h.T k hk]
  exact Nat.le_trans (List.length_filter_le _ _) (by rw [List.length_map]; exact Nat.le_refl _)
theorem Inv.aged (h : Inv n C put turned time b) (hA : AgeS n n') (ok : NetOk n') : Inv n' C put turned (time + 1) b := by
  refine ⟨ok, hA.tv.trans h.tvE, hA.oldest.trans h.oldE, h.old3, h.names, h.fok, fun k hk t ht => ?_, ⟨h.few.1, h.few.2.1, Nat.le_trans hA.tot h.few.2.2⟩, fun e he => by have := h.exps e he; omega⟩
  rw [hA.keys] at hk
  rw [hA.T k hk] at ht
  obtain ⟨hm, hy⟩ := List.mem_filter.mp ht
  obtain ⟨t0, ht0, rfl⟩ := List.mem_map.mp hm
  have hy := of_decide_eq_true hy
  have g := h.th k hk t0 ht0
  refine ⟨g.life, by rw [← h.oldE]; exact hy, ?_, g.trn⟩
  obtain ⟨e, he, l, x⟩ := g.ent
  exact ⟨e, he, l, by show time + 1 - (t0.years + 1) + t0.fl.life * (C.oldest + 1) ≤ e.exp; omega⟩
theorem SOk.upK (h : SOk H n C S) {a : Addr} {kvs kvs' : List (Key × V)} (ha : H a = some (.dK kvs)) : SOk (upd H a (.dK kvs')) n C S := by
  obtain ⟨⟨x, y, z, hs⟩, o1, o2⟩ := h
  exact ⟨⟨x, y, z, by rw [upd_ne (ne_of hs ha (fun z => nomatch z))]; exact hs⟩, o1, o2⟩
theorem tick_put (h : H C.m = some (.dK (mK C time))) : DPut H C.m (.str "time") (.int (time + 1)) (upd H C.m (.dK (mK C (time + 1)))) := by
  have := DPut.k (k := Sum.inr "time") (v := .int (time + 1)) h (by show 6 < sizeLine; decide)
  rw [mp_time] at this
  exact this
end
section
variable {P : Program} {w : World} {K : PySem.W.Frag} {mg : Str → Option Value} {base : Heap}
theorem cal_law_deed (T : TX K mg) (c_law_next : Cal P w K mg base "_law_next" 1 (sp_law_next K)) (c_law_thing : Cal P w K mg base "_law_thing" 9 (sp_law_thing K)) (c_law_put : Cal P w K mg base "_law_put" 9 (sp_law_put K)) (c_Net_age : MCal P w K mg base "Net" "age" 1 (sp_Net_age K)) (c_Net_lose : MCal P w K mg base "Net" "lose" 4 (sp_Net_lose K)) (c_Net_double : MCal P w K mg base "Net" "double" 4 (sp_Net_double K)) (c_law_turned : Cal P w K mg base "_law_turned" 9 (sp_law_turned K)) (c_law_brought : Cal P w K mg base "_law_brought" 10 (sp_law_brought K)) : Cal P w K mg base "_law_deed" 11 (sp_law_deed K) := by
  obtain ⟨fd, F⟩ := T.df_law_deed
  have hb : Binds K fd ["_law_net", "_law_m", "_law_state_here"] [] := F.bindsN fun _ _ _ _ _ _ us hl => match us, hl with | [_, _, _], _ => rfl
  refine Cal.mk2 T.g_law_deed F.kp hb (F.ok (CX := CX0) (k := 10) sc_law_deed (fun vs H Q E h => ?_) (fun cdv A outer s H vs Q E hr h => ?_))
  · obtain ⟨_, _, _, _, _, _, _, rfl, _⟩ := h
    rfl
  · obtain ⟨n, C, put, turned, time, b, S, rfl, hL, hI, hb, hS, q⟩ := h
    refine ⟨_, PSs.nox (pss_cons (ps_set (i := 3) sc_law_deed.nd rfl (.inl rfl) (pe_cal c_law_next (hr.mono (by decide)) (pa_cons (pv 2) (pa_cons pe_int pa_nil))))
    (pss_cons (ps_if (pt_cmpR op_lt (pv 3) pe_int (nomark _)) (pss_one (ps_ret (pe_cal c_law_put (hr.mono (by decide)) (pa_cons (pv 0) (pa_cons (pv 1) (pa_cons (pv 2) pa_nil)))))) pss_nil)
    (pss_cons (ps_if (pt_cmpR op_eq (pv 3) pe_int (nomark _)) (pss_cons (ps_expr (pe_calM0 c_Net_age (hr.mono (by decide)) (pv 0)))
    (pss_cons (ps_dput (hu_of hr) (pv 1) pe_str (pe_op op_add (pe_dget (hu_of hr) (pv 1) pe_str (fun _ _ => rfl)) pe_int) rfl)
    (pss_one (ps_ret pe_bl)))) pss_nil)
    (pss_cons (ps_set (i := 4) sc_law_deed.nd rfl (.inl rfl) (pe_cal c_law_thing (hr.mono (by decide)) (pa_cons (pv 0) (pa_cons (pv 2) pa_nil))))
    (pss_cons (ps_if (pt_cmpR op_isN (pv 4) pe_non (nomark _)) (pss_one (ps_ret pe_bl)) pss_nil)
    (pss_cons (ps_if (pt_cmpR op_eq (pv 3) pe_int (nomark _)) (pss_one (ps_expr (pe_calM c_Net_lose (hr.mono (by decide)) (pv 0) (pa_cons (pe_ix ix_tup (pv 4) pe_int (fun _ _ => rfl)) (pa_cons (pe_ix ix_tup (pv 4) pe_int (fun _ _ => rfl)) (pa_cons (pe_ix ix_tup (pv 4) pe_int (fun _ _ => rfl)) pa_nil)))))) (pss_one (ps_if (pt_cmpR op_eq (pv 3) pe_int (nomark _)) (pss_one (ps_expr (pe_calM c_Net_double (hr.mono (by decide)) (pv 0) (pa_cons (pe_ix ix_tup (pv 4) pe_int (fun _ _ => rfl)) (pa_cons (pe_ix ix_tup (pv 4) pe_int (fun _ _ => rfl)) (pa_cons (pe_ix ix_tup (pv 4) pe_int (fun _ _ => rfl)) pa_nil)))))) (pss_one (ps_if (pt_cmpR op_eq (pv 3) pe_int (nomark _)) (pss_one (ps_expr (pe_cal c_law_turned (hr.mono (by decide)) (pa_cons (pv 0) (pa_cons (pv 1) (pa_cons (pv 2) (pa_cons (pv 4) pa_nil))))))) (pss_one (ps_ret (pe_cal c_law_brought hr (pa_cons (pv 0) (pa_cons (pv 1) (pa_cons (pv 4) pa_nil)))))))))))
    (pss_one (ps_ret pe_bl)))))))), ?_⟩
    have few := hI.few
    refine ⟨_, rfl, S, 12, rfl, hS.st, by decide, by decide, fun r H1 r0 r1 s1 => ?_⟩
    have hL1 := hL.st hS s1
    have hS1 := hS.st' s1
    have hn1 := hL1.net
    have f1 : Stp (LF C S n) H (LF C S n) H1 := LF.st s1
    refine ⟨_, rfl, _, _, rfl, rfl, _, rfl, ?_⟩
    by_cases h4 : r < 4
    · rw [decide_eq_true h4]
      exact iteT ⟨_, rfl, _, rfl, _, rfl, n, C, put, turned, time, b, S, rfl, hL1, hI, hb, hS1, fun H2 n' put' turned' time' e a1 a2 a3 a4 => q H2 n' put' turned' time' e a1 a2 a3 (f1.trans a4)⟩
    rw [decide_eq_false h4]
    refine iteF ⟨_, rfl, rfl, _, rfl, ?_⟩
    by_cases h5 : r = 4
    · have e0 : decide (V.int r = V.int 4) = true := decide_eq_true (by rw [h5])
      rw [e0]
      refine iteT ⟨_, rfl, n.p, n.dx, _, rfl, hn1.obj, ntl_m nSt nSt nSt nSt, n, rfl, hn1, hI.ok, by omega, fun H2 n' hA hn' ok' hs => ?_⟩
      have hL2 := hL1.mv hs hn' hA.W hA.tv
      have hS2 := hS1.mv hs
      have lo2 := hL2.lo
      refine ⟨_, rfl, C.m, _, rfl, K54.mg lo2.md mv_time, _, _, rfl, rfl, _, rfl, C.m, _, rfl, tick_put lo2.md, ?_⟩
      exact q _ n' put turned (time + 1) hA.p (hL2.tick _) (hI.aged hA ok').up (hS2.upK lo2.md) ((f1.trans (LF.mv hs)).trans (Stp.up (.inr (.inl rfl))))
    have e0 : decide (V.int r = V.int 4) = false := decide_eq_false fun z => h5 (by injection z)
    rw [e0]
    refine iteF ⟨_, rfl, _, rfl, n, S, rfl, hn1, hI.ok, by omega, hS1.st, hS1.own, fun hall H2 s2 => ?_, fun k i t hk hi p H2 s2 np hp => ?_⟩
    · exact ⟨_, rfl, rfl, _, rfl, iteT (q H2 n put turned time rfl (hL1.st hS1 s2) hI.up (hS1.st' s2) (f1.trans (LF.st s2)))⟩
    have hL2 := hL1.st hS1 s2
    have hS2 := hS1.st' s2
    have hn2 := hL2.net
    have f2 : Stp (LF C S n) H (LF C S n) H2 := f1.trans (LF.st s2)
    have hm := List.mem_of_getElem? hi
    have hlt := (List.getElem?_eq_some_iff.mp hi).1
    refine ⟨_, rfl, rfl, _, rfl, iteF ⟨_, rfl, rfl, _, rfl, ?_⟩⟩
    by_cases h6 : r = 5
    · have e1 : decide (V.int r = V.int 5) = true := decide_eq_true (by rw [h6])
      rw [e1]
      refine iteT ⟨_, rfl, n.p, n.dx, _, rfl, hn2.obj, ntl_m nSt nSt nSt nSt, _, rfl, _, _, _, _, rfl, rfl, SqT.of hp, rfl, _, rfl, _, _, _, _, rfl, rfl, SqT.of hp, rfl, _, rfl, _, _, _, _, rfl, rfl, SqT.of hp, rfl, n, k, i, t, rfl, hn2, hI.ok, hk, hi, by omega, fun H3 n' e hn' ok' hs => ?_⟩
      subst e
      have htot : tot (n.setT k ((n.T k).eraseIdx i)) ≤ b + 1 := by
        have := tot_set hI.ok.kd hk ((n.T k).eraseIdx i)
        rw [List.length_eraseIdx, if_pos hlt] at this
        omega
      refine q H3 (n.setT k ((n.T k).eraseIdx i)) put turned time rfl (hL2.mv hs hn' rfl rfl) (hI.up.mv ok' rfl rfl rfl (fun k' hk' t' ht' => ?_) htot) (hS2.mv hs) (f2.trans (LF.mv hs))
      by_cases e : k' = k
      · rw [e, setT_same] at ht'
        rw [e]
        exact hI.th k hk t' ((List.eraseIdx_sublist _ _).subset ht')
      · rw [setT_ne e] at ht'
        exact hI.th k' hk' t' ht'
    have e1 : decide (V.int r = V.int 5) = false := decide_eq_false fun z => h6 (by injection z)
    rw [e1]
    refine iteF ⟨_, rfl, rfl, _, rfl, ?_⟩
    by_cases h7 : r = 6
    · have e2 : decide (V.int r = V.int 6) = true := decide_eq_true (by rw [h7])
      rw [e2]
      refine iteT ⟨_, rfl, n.p, n.dx, _, rfl, hn2.obj, ntl_m nSt nSt nSt nSt, _, rfl, _, _, _, _, rfl, rfl, SqT.of hp, rfl, _, rfl, _, _, _, _, rfl, rfl, SqT.of hp, rfl, _, rfl, _, _, _, _, rfl, rfl, SqT.of hp, rfl, n, k, i, t, rfl, hn2, hI.ok, hk, hi, by omega, fun H3 n' t' z1 z2 z3 e hn' ok' hs => ?_⟩
      subst e
      have htot : tot (n.setT k (n.T k ++ [t'])) ≤ b + 1 := by
        have := tot_set hI.ok.kd hk (n.T k ++ [t'])
        rw [List.length_append, List.length_singleton] at this
        omega
      refine q H3 (n.setT k (n.T k ++ [t'])) put turned time rfl (hL2.mv hs hn' rfl rfl) (hI.up.mv ok' rfl rfl rfl (fun k' hk' x hx => ?_) htot) (hS2.mv hs) (f2.trans (LF.mv hs))
      by_cases e : k' = k
      · rw [e, setT_same] at hx
        rw [e]
        rcases List.mem_append.mp hx with y | y
        · exact hI.th k hk x y
        · have : x = t' := by simpa using y
          rw [this]
          have g := hI.th k hk t hm
          exact ⟨by rw [z1]; exact g.life, by rw [z2]; exact g.years, by rw [z1, z2]; exact g.ent, by rw [z3, z1]; exact g.trn⟩
      · rw [setT_ne e] at hx
        exact hI.th k' hk' x hx
    have e2 : decide (V.int r = V.int 6) = false := decide_eq_false fun z => h7 (by injection z)
    rw [e2]
    refine iteF ⟨_, rfl, rfl, _, rfl, ?_⟩
    by_cases h8 : r = 7
    · have e3 : decide (V.int r = V.int 7) = true := decide_eq_true (by rw [h8])
      rw [e3]
      exact iteT ⟨_, rfl, _, rfl, _, rfl, _, rfl, n, C, put, turned, time, b, S, p, k, i, t, rfl, hL2, hI, hb, hS2, hp, hk, hi, fun H3 n' put' turned' time' e a1 a2 a3 a4 => q H3 n' put' turned' time' e a1 a2 a3 (f2.trans a4)⟩
    have e3 : decide (V.int r = V.int 7) = false := decide_eq_false fun z => h8 (by injection z)
    rw [e3]
    exact iteF ⟨_, rfl, _, rfl, _, rfl, n, C, put, turned, time, b, p, k, i, t, rfl, hL2, hI, by omega, hp, hk, hi, fun H3 n' e a1 a2 a3 => q H3 n' put turned time e a1 a2.up (hS2.mv a3) (f2.trans (LF.mv a3))⟩
end
end K54

set_option Elab.async false
set_option linter.all false
set_option maxRecDepth 100000
set_option maxHeartbeats 1000000
/-! The law's own defs: emptied. -/
namespace K54
open PySem PySem.Spec PyProof.Rows L2 Evl
theorem puK_at {put : List PEnt} {i : Nat} {k : Key} {v : V} (h : (puK put)[i]? = some (k, v)) : ∃ e, put[i]? = some e ∧ k = Sum.inl e.fl.name ∧ v = .ref e.a := by
  unfold puK at h
  rw [List.getElem?_map] at h
  cases e : put[i]? with
  | none => rw [e] at h; cases h
  | some t =>
    rw [e] at h
    have := Option.some.inj h
    injection this with h1 h2
    exact ⟨t, rfl, h1.symm, h2.symm⟩
section
variable {P : Program} {w : World} {K : PySem.W.Frag} {mg : Str → Option Value} {base : Heap}
theorem cal_law_emptied (T : TX K mg) (c_Net_age : MCal P w K mg base "Net" "age" 1 (sp_Net_age K)) (c_Net_lying : MCal P w K mg base "Net" "lying" 1 (sp_Net_lying K)) (c_law_next : Cal P w K mg base "_law_next" 1 (sp_law_next K)) (c_law_thing : Cal P w K mg base "_law_thing" 9 (sp_law_thing K)) (c_law_lies_right : Cal P w K mg base "_law_lies_right" 9 (sp_law_lies_right K)) (c_law_brought : Cal P w K mg base "_law_brought" 10 (sp_law_brought K)) : Cal P w K mg base "_law_emptied" 11 (sp_law_emptied K) := by
  obtain ⟨fd, F⟩ := T.df_law_emptied
  have hb : Binds K fd ["_law_net", "_law_m", "_law_state_here"] [] := F.bindsN fun _ _ _ _ _ _ us hl => match us, hl with | [_, _, _], _ => rfl
  refine Cal.mk2 T.g_law_emptied F.kp hb (F.ok (CX := CX0) (k := 10) sc_law_emptied (fun vs H Q E h => ?_) (fun cdv A outer s H vs Q E hr h => ?_))
  · obtain ⟨_, _, _, _, _, _, _, rfl, _⟩ := h
    rfl
  · obtain ⟨n, C, put, turned, time, b, S, rfl, hL, hI, hb, hS, q⟩ := h
    refine ⟨_, PSs.nox (pss_cons (ps_for PassesOwn.never rfl (pi_range1 rfl T.f_range (pa_cons (pe_op op_sub (pe_callB (cr_max rfl) (by rfl) T.f_max bt_max (pa_cons (pe_op op_cat (pe_lst (pa_cons (pe_dget (hu_of hr) (pv 1) pe_str (fun _ _ => rfl)) pa_nil)) (pe_lock (pe_lc (own := [("_law_name", 6)]) rfl sc_law_emptied.nd (pi_keys (pe_dget (hu_of hr) (pv 1) pe_str (fun _ _ => rfl))) (blkOk_by (own := [("_law_name", 6)]) (N := sn_law_emptied) (sc := defScope s_law_emptied) (by decide +kernel)) (fun _ _ _ _ _ => pg_name (i := 6) sc_law_emptied.nd rfl (.inl rfl)) (fun _ _ _ _ _ => pts_nil) (fun _ _ _ _ _ => (pe_ix (ix_tupc K) (pe_dget (hu_of hr) (pe_dget (hu_of hr) (pv 1) pe_str (fun _ _ => rfl)) (pv 6) (fun _ _ => rfl)) pe_int (fun _ _ => rfl)))))) pa_nil)) (pe_dget (hu_of hr) (pv 1) pe_str (fun _ _ => rfl))) pa_nil)) (pg_name (i := 3) sc_law_emptied.nd rfl (.inl rfl)) (pss_cons (ps_for PassesOwn.never rfl (pi_range1 rfl T.f_range (pa_cons (pe_cal c_law_next (hr.mono (by decide)) (pa_cons (pv 2) (pa_cons pe_int pa_nil))) pa_nil)) (pg_name (i := 4) sc_law_emptied.nd rfl (.inl rfl)) (pss_cons (ps_set (i := 5) sc_law_emptied.nd rfl (.inl rfl) (pe_cal c_law_thing (hr.mono (by decide)) (pa_cons (pv 0) (pa_cons (pv 2) pa_nil))))
    (pss_one (ps_if (PW.pt (pw_and (pt_cmpR op_notN (pv 5) pe_non (nomark _)) (pw_and1 (pt_not (pt_val (pe_cal c_law_brought hr (pa_cons (pv 0) (pa_cons (pv 1) (pa_cons (pv 5) pa_nil))))))))) (pss_one (ps_ret pe_bl)) pss_nil))))
    (pss_cons (ps_expr (pe_calM0 c_Net_age (hr.mono (by decide)) (pv 0)))
    (pss_cons (ps_dput (hu_of hr) (pv 1) pe_str (pe_op op_add (pe_dget (hu_of hr) (pv 1) pe_str (fun _ _ => rfl)) pe_int) rfl)
    (pss_one (ps_if (pt_not (pt_val (pe_cal c_law_lies_right (hr.mono (by decide)) (pa_cons (pv 0) (pa_cons (pv 1) pa_nil))))) (pss_one (ps_ret pe_bl)) pss_nil))))))
    (pss_one (ps_ret (pe_cmpR (op_eqD hr.units) (pe_calM0 c_Net_lying (hr.mono (by decide)) (pv 0)) (pe_lst pa_nil) (nomark _))))), ?_⟩
    have lo := hL.lo
    have few := hI.few
    refine ⟨_, rfl, C.m, _, rfl, K54.mg lo.md mv_time, szl (n := 1) (by decide), fun l1 hl1 => ?_⟩
    have e1 := Ex.new (o := .lst [.int time]) hl1
    have lo1 := (hL.ex e1).lo
    refine ⟨C.PU, _, lo1.pu, trivial, fun od => ?_⟩
    have mdL : (upd (upd H l1 (.lst [.int time])) C.PU (.frz od (.dK (puK put)))) C.m = _ := (upd_ne lo1.mp).trans lo1.md
    have entL : ∀ e ∈ put, (upd (upd H l1 (.lst [.int time])) C.PU (.frz od (.dK (puK put)))) e.a = some (.tup [.ref e.f, .int e.exp]) := fun e he => by
      have := (lo1.ents e he).1
      rw [upd_ne (ne_of this lo1.pu (fun z => nomatch z))]
      exact this
    refine ⟨_, rfl, C.m, _, rfl, K54.mg mdL mv_put, C.PU, od, rfl, .inl ⟨_, upd_same, fun D hD => lc_keys (fun i H' => Ex (upd (upd H l1 (.lst [.int time])) C.PU (.frz od (.dK (puK put)))) H' ∧ H' D = some (.lst (ivs ((put.take i).map (·.exp))))) ⟨Ex.new hD, upd_same⟩ (fun i H' _ p => p.1 _ _ upd_same) (fun i k v H' hkv hh => ?_) (fun H' hh => ?_)⟩⟩
    · obtain ⟨e2, h2⟩ := hh
      obtain ⟨e, he, rfl, rfl⟩ := puK_at hkv
      have hem := List.mem_of_getElem? he
      have hilt := (List.getElem?_eq_some_iff.mp he).1
      have gp : DGet H' C.PU (.int e.fl.name) (some (.ref e.a)) := .inl ⟨puK put, Sum.inl e.fl.name, .inr ⟨od, e2 _ _ upd_same⟩, rfl, (puK_get (hI.nd hb) hem).symm⟩
      refine ⟨rfl, _, rfl, C.m, _, rfl, K54.mg (e2 _ _ mdL) mv_put, _, rfl, C.PU, _, rfl, gp, _, _, _, _, rfl, rfl, SqT.of (e2 _ _ (entL e hem)), rfl, _, h2, ?_, Ex.mut e2 hD, ?_⟩
      · rw [ivs_len, List.length_map, List.length_take]
        exact szlt (by omega)
      · rw [upd_same, take_succ' he]
        simp [ivs]
    · obtain ⟨e2, h2⟩ := hh
      have pl : (puK put).length = put.length := by simp [puK]
      rw [pl, List.take_length] at h2
      have hf := e2 _ _ upd_same
      have eU := e1.trans (ex_unlock lo1.pu e2)
      refine ⟨hf, l1, D, _, _, rfl, rfl, ex_unlock lo1.pu e2 _ _ upd_same, by rw [upd_ne (ne_of h2 hf (fun z => nomatch z))]; exact h2, by rw [ivs_len, List.length_map]; exact Nat.le_of_lt (szlt (by simp only [List.length_singleton]; omega)), fun p hp => ?_⟩
      have eP := eU.trans (Ex.new (o := .lst ([V.int time] ++ ivs (put.map (·.exp)))) hp)
      refine ⟨p, time :: put.map (·.exp), rfl, SqL.of upd_same, Nat.succ_pos _, fun mx hmem hle => ?_⟩
      have hL2 := hL.ex eP
      have hmx : time ≤ mx := hle time (List.mem_cons_self ..)
      have hmu : mx ≤ time + 36 := by
        rcases List.mem_cons.mp hmem with z | z
        · omega
        · obtain ⟨e, he, rfl⟩ := List.mem_map.mp z
          exact hI.exps e he
      refine ⟨_, rfl, C.m, _, rfl, K54.mg hL2.lo.md mv_time, _, _, rfl, rfl, _, rfl, by omega, by omega, ?_⟩
      refine for_range (lo := 0) (n := (mx - time).toNat) (fun c σ H' => ∃ n', LR K H' n' C put turned (time + c) ∧ Inv n' C put turned (time + c) b ∧ SOk H' n' C S ∧ ∃ v3 v4 v5 v6, σ = [some (.ref n'.p), some (.ref C.m), some (.ref S), v3, v4, v5, v6])
        ⟨n, by rw [show time + ((0 : Nat) : Int) = time by omega]; exact hL2, by rw [show time + ((0 : Nat) : Int) = time by omega]; exact hI, hS.ex eP, none, none, none, none, rfl⟩ ?_ ?_
      · rintro c σ H3 hc ⟨n1, hL3, hI3, hS3, v3, v4, v5, v6, rfl⟩
        refine ⟨_, rfl, S, 3, rfl, hS3.st, by decide, by decide, fun r H4 r0 r1 s4 => ⟨_, rfl, by omega, by omega, ?_⟩⟩
        refine for_range (lo := 0) (n := r.toNat) (fun _ σ H' => ∃ n', LR K H' n' C put turned (time + c) ∧ Inv n' C put turned (time + c) b ∧ SOk H' n' C S ∧ ∃ v3 v4 v5 v6, σ = [some (.ref n'.p), some (.ref C.m), some (.ref S), v3, v4, v5, v6])
          ⟨n1, hL3.st hS3 s4, hI3, hS3.st' s4, _, _, _, _, rfl⟩ ?_ ?_
        · rintro j σ H5 hj ⟨n2, hL5, hI5, hS5, v3, v4, v5, v6, rfl⟩
          have few5 := hI5.few
          refine ⟨_, rfl, _, rfl, n2, S, rfl, hL5.net, hI5.ok, by omega, hS5.st, hS5.own, fun hall H6 s6 => ?_, fun k i t hk hi p H6 s6 np hp => ?_⟩
          · exact ⟨_, rfl, rfl, _, rfl, iteF ⟨n2, hL5.st hS5 s6, hI5, hS5.st' s6, _, _, _, _, rfl⟩⟩
          · refine ⟨_, rfl, rfl, _, rfl, iteT ⟨_, rfl, _, rfl, _, rfl, n2, C, put, turned, time + c, b, p, k, i, t, rfl, hL5.st hS5 s6, hI5, hb, hp, hk, hi, fun H7 n3 e a1 a2 a3 => ⟨true, rfl, iteF ⟨n3, a1, a2, (hS5.st' s6).mv a3, _, _, _, _, by rw [e]; rfl⟩⟩⟩⟩
        · rintro σ H5 ⟨n2, hL5, hI5, hS5, v3, v4, v5, v6, rfl⟩
          have few5 := hI5.few
          refine ⟨_, rfl, n2.p, n2.dx, _, rfl, hL5.net.obj, ntl_m nSt nSt nSt nSt, n2, rfl, hL5.net, hI5.ok, by omega, fun H6 n3 hA hn6 ok6 hs => ?_⟩
          have hL6 := hL5.mv hs hn6 hA.W hA.tv
          have lo6 := hL6.lo
          refine ⟨_, rfl, C.m, _, rfl, K54.mg lo6.md mv_time, _, _, rfl, rfl, _, rfl, C.m, _, rfl, tick_put lo6.md, ?_⟩
          have hL7 := hL6.tick (time + c + 1)
          have hI7 := hI5.aged hA ok6
          have hS7 := (hS5.mv hs).upK lo6.md (kvs' := mK C (time + c + 1))
          have et : time + ((c : Nat) : Int) + 1 = time + ((c + 1 : Nat) : Int) := by omega
          refine ⟨_, rfl, _, rfl, n3, C, put, turned, time + c + 1, b, by rw [hA.p]; rfl, hL7, hI7, hb, fun H8 e8 => ⟨true, rfl, iteF ?_⟩⟩
          exact ⟨n3, by rw [← et]; exact hL7.ex e8, by rw [← et]; exact hI7, hS7.ex e8, _, _, _, _, by rw [hA.p]⟩
      · rintro σ H3 ⟨n1, hL3, hI3, hS3, v3, v4, v5, v6, rfl⟩
        have empty : ∀ k ∈ n1.keys, n1.T k = [] := fun k hk => Classical.byContradiction fun hne => by
          obtain ⟨t, ht⟩ := List.exists_mem_of_ne_nil _ hne
          have g := hI3.th k hk t ht
          obtain ⟨e, he, _, hx⟩ := g.ent
          have h0 := hI3.ok.old
          rw [hI3.oldE] at h0
          have hml : 1 * (C.oldest + 1) ≤ t.fl.life * (C.oldest + 1) := Int.mul_le_mul_of_nonneg_right g.life (by omega)
          have := hle e.exp (List.mem_cons_of_mem _ (List.mem_map_of_mem he))
          have := g.years
          omega
        refine ⟨_, rfl, n1.p, n1.dx, _, rfl, hL3.net.obj, ntl_m nSt nSt nSt nSt, n1, rfl, hL3.net, hI3.ok, fun l ks as H4 e4 nl hl hp2 hnd hks => ⟨Nat.zero_le _, fun u hu => ?_⟩⟩
        have e5 := Ex.new (o := .lst []) hu
        refine ⟨.list (ksD ks), .list [], .lst (SqL.of (e5 _ _ hl)) (dpAll_ks (L2.Paired.mapP hp2 fun k a h => e5 _ _ h)), .lst (SqL.of upd_same) .nil, (gd_ks ks).shaped, gd_l0.shaped, ?_⟩
        rw [eqv_l0]
        have : ks = [] := by
          cases ks with
          | nil => rfl
          | cons k r =>
            obtain ⟨a, b⟩ := (hks k).mp (List.mem_cons_self ..)
            exact absurd (empty k a) b
        rw [this]
        exact q _
end
end K54

set_option Elab.async false
set_option linter.all false
set_option maxRecDepth 100000
set_option maxHeartbeats 1000000
/-! The law's own defs: goes. -/
namespace K54
open PySem PySem.Spec PyProof.Rows L2 Evl
theorem isi_nl {K : PySem.W.Frag} : PySem.W.kitOne K (.type "NoneType") (.type "list") = some false := kit_ty (by decide +kernel)
theorem isi_tl {K : PySem.W.Frag} : PySem.W.kitOne K (.type "tuple") (.type "list") = some false := kit_ty (by decide +kernel)
def wD : WR → PyData
  | .non => .none
  | .lst l => .list (iD l)
  | .ring l => .tuple [.str "ring", .list (iD l)]
theorem gd_wD : ∀ r : WR, Gd 3 (wD r)
  | .non => gd_non 3
  | .lst l => gd_lst (gd_iD 2 _)
  | .ring l => gd_tup fun d hd => by
    simp only [List.mem_cons, List.not_mem_nil, or_false] at hd
    rcases hd with rfl | rfl
    · exact gd_str 2 (by decide +kernel)
    · exact gd_lst (gd_iD 1 _)
theorem dp_wD {K : PySem.W.Frag} {H : Hp} {v : V} : ∀ {r : WR}, WV H v r → Dp K H v (wD r)
  | .non, h => by rw [show v = .non from h]; exact .non
  | .lst l, h => by
    obtain ⟨a, rfl, ha⟩ := h
    exact dp_lI ha
  | .ring l, h => by
    obtain ⟨a, b, rfl, ha, hb⟩ := h
    exact .tup (SqT.of ha) (.cons (.str _) (.cons (dp_lI hb) .nil))
/-- a thing under way behind k steps -/
def AtA (n : NG) (nx : Int → Option Int) (t p : Int) (f : Fl) (L : Int) (k : Nat) : Prop :=
  ∃ (a y : Int) (u : Th), it nx t p k = some a ∧ it nx t p (k + 1) = some y ∧ (a, y) ∈ n.keys ∧ u.fl = { f with life := L - k } ∧ u.places = [] ∧ (k : Int) + 1 ≤ L ∧ n.T (a, y) = [u] ∧ ∀ k' ∈ n.keys, k' ≠ (a, y) → n.T k' = []
/-- none under way behind k steps -/
def AtB (n : NG) (nx : Int → Option Int) (t p : Int) (L : Int) (k : Nat) : Prop :=
  ∃ a : Int, it nx t p k = some a ∧ (a = t → k = 0) ∧ (L ≤ k ∨ nx a = none) ∧ (k : Int) ≤ L ∧ ∀ k' ∈ n.keys, n.T k' = []
theorem put_at {n n' : NG} {tv : TV} {t p : Int} {f : Fl} {L : Int} {k : Nat} {a : Int} (ok : NetOk n) (etv : n.tv = tv) (ht : f.tgt = t) (he : ∀ k' ∈ n.keys, n.T k' = []) (hi : it (fun x => nxt tv x t) t p k = some a) (h0 : a = t → k = 0) (hk : (k : Int) ≤ L) (h : PutS n a { f with life := L - k } n') :
    AtA n' (fun x => nxt tv x t) t p f L k ∨ AtB n' (fun x => nxt tv x t) t p L k := by
  rcases h with ⟨hl, y, u, hy, h1, h2, h3, rfl⟩ | ⟨hz, rfl⟩
  · left
    have hl : 0 < L - k := hl
    have hy : nxt n.tv a f.tgt = some y := hy
    have hkn := ok.knx _ _ _ hy
    rw [ht, etv] at hy
    have hat : a ≠ t := fun z => (nxt_in (by rw [← etv]; exact ok.tv) hy).2.2.1 z.symm
    refine ⟨a, y, u, hi, it_succ hi hat hy, hkn, h1, h3, by omega, ?_, fun k' hk' ne => ?_⟩
    · rw [setT_same, he _ hkn]
      rfl
    · rw [setT_ne ne]
      exact he k' hk'
  · right
    refine ⟨a, hi, h0, ?_, hk, he⟩
    rcases hz with z | z
    · left
      have z : L - k ≤ 0 := z
      omega
    · right
      have z : nxt n'.tv a f.tgt = none := z
      rw [ht, etv] at z
      exact z
theorem lying_A {n : NG} {nx : Int → Option Int} {t p : Int} {f : Fl} {L : Int} {k : Nat} {a y : Int} {u : Th} (hk : (a, y) ∈ n.keys) (hu : n.T (a, y) = [u]) (he : ∀ k' ∈ n.keys, k' ≠ (a, y) → n.T k' = []) {ks : List (Int × Int)} (hnd : ks.Nodup) (hks : ∀ k, k ∈ ks ↔ k ∈ n.keys ∧ n.T k ≠ []) : ks = [(a, y)] := by
  have h1 : (a, y) ∈ ks := (hks _).mpr ⟨hk, by rw [hu]; exact List.cons_ne_nil _ _⟩
  have h2 : ∀ x ∈ ks, x = (a, y) := fun x hx => Classical.byContradiction fun ne => by
    obtain ⟨q1, q2⟩ := (hks x).mp hx
    exact q2 (he x q1 ne)
  match ks, hnd, h1, h2 with
  | [], _, h1, _ => exact nomatch h1
  | [x], _, _, h2 => rw [h2 x (List.mem_cons_self ..)]
  | x :: z :: r, hnd, _, h2 =>
    have e1 := h2 x (List.mem_cons_self ..)
    have e2 := h2 z (List.mem_cons_of_mem _ (List.mem_cons_self ..))
    rw [e1, e2] at hnd
    exact absurd (List.mem_cons_self ..) (List.nodup_cons.mp hnd).1
theorem lying_B {n : NG} (he : ∀ k' ∈ n.keys, n.T k' = []) {ks : List (Int × Int)} (hks : ∀ k, k ∈ ks ↔ k ∈ n.keys ∧ n.T k ≠ []) : ks = [] := by
  cases ks with
  | nil => rfl
  | cons k r =>
    obtain ⟨a, b⟩ := (hks k).mp (List.mem_cons_self ..)
    exact absurd (he k a) b
theorem own_ivs {K : PySem.W.Frag} {H : Hp} {n : NG} (h : NetR K H n) {a : Addr} {l : List Int} (ha : H a = some (.lst (ivs l))) (hl : l ≠ []) : ¬ own n a := fun o => by
  rcases o with rfl | ⟨k, hk, rfl | ⟨t, ht, rfl⟩⟩
  · rw [h.dict] at ha; cases ha
  · rw [h.lst k hk] at ha
    injection ha with ha
    injection ha with ha
    cases l with
    | nil => exact hl rfl
    | cons x r =>
      cases hT : n.T k with
      | nil => rw [hT] at ha; cases ha
      | cons y z =>
        rw [hT] at ha
        injection ha with h1 _
        cases h1
  · rw [(h.th k hk t ht).obj] at ha; cases ha
/-- what was told, as far as it is still read -/
def TD (H : Hp) (g : Addr) (v : V) : WR → Prop
  | .non => v = .non
  | .lst l => ∃ a, v = .ref a ∧ a ≠ g ∧ H a = some (.lst (ivs l))
  | .ring _ => ∃ a xs, v = .ref a ∧ H a = some (.tup xs)
theorem TD.fr {H H2 : Hp} {g : Addr} {v : V} {r : WR} (h : TD H g v r) (f1 : ∀ (a : Addr) l, r = .lst l → a ≠ g → H a = some (.lst (ivs l)) → H2 a = some (.lst (ivs l))) (f2 : ∀ (a : Addr) xs, H a = some (.tup xs) → H2 a = some (.tup xs)) : TD H2 g v r := by
  cases r with
  | non => exact h
  | lst l => obtain ⟨a, h1, h2, h3⟩ := h; exact ⟨a, h1, h2, f1 a l rfl h2 h3⟩
  | ring l => obtain ⟨a, xs, h1, h2⟩ := h; exact ⟨a, xs, h1, f2 a xs h2⟩
theorem path_ne (nx : Int → Option Int) (t p : Int) (k : Nat) : path nx t p k ≠ [] := fun z => by
  have := path_len (nx := nx) (t := t) (p := p) k
  rw [z] at this
  simp at this
theorem Ways.ne {nx : Int → Option Int} {t p : Int} {r : WR} (w : Ways nx t p r) (l : List Int) (h : r = .lst l) : l ≠ [] := by
  cases w with
  | there m hm => injection h with h; rw [← h]; exact path_ne nx t p m
  | nowhere m x h1 h2 h3 => cases h
  | round l h1 => cases h
theorem TabZ.fr {H H2 : Hp} {d : Addr} {tv : TV} (h : TabZ H d tv) (f : ∀ a o, H a = some o → okK o → H2 a = some o) : TabZ H2 d tv := let ⟨tb, o, a, b, c⟩ := h; ⟨tb, o, a, f _ _ b trivial, fun t ht => f _ _ (c t ht) trivial⟩
/-- what stands while the packet goes -/
structure GI (K : PySem.W.Frag) (H0 H : Hp) (n : NG) (tv : TV) (g : Addr) (v : V) (r : WR) (t p : Int) (f : Fl) (L : Int) (k : Nat) : Prop where
  net : NetR K H n
  ok : NetOk n
  tvE : n.tv = tv
  few : tot n ≤ 10
  ex : Ex H0 H
  own : ∀ a, K54.own n a → H0 a = none
  gn : H0 g = none
  gone : H g = some (.lst (ivs (path (fun x => nxt tv x t) t p k)))
  told : TD H g v r
  at_ : AtA n (fun x => nxt tv x t) t p f L k ∨ AtB n (fun x => nxt tv x t) t p L k
theorem tot_AB {n : NG} {nx : Int → Option Int} {t p : Int} {f : Fl} {L : Int} {k : Nat} (h : NetOk n) (he : ∀ k' ∈ n.keys, n.T k' = []) : tot n = 0 := by
  unfold tot
  have : (n.keys.map fun k => (n.T k).length) = n.keys.map fun _ => 0 := List.map_congr_left fun k hk => by rw [he k hk]; rfl
  rw [this]
  induction n.keys with
  | nil => rfl
  | cons a r ih => simpa using ih
section
variable {K : PySem.W.Frag} {H0 H H2 : Hp} {n n' : NG} {tv : TV} {g : Addr} {v : V} {r : WR} {t p : Int} {f : Fl} {L : Int} {k : Nat}
theorem GI.grow (gi : GI K H0 H n tv g v r t p f L k) (e : Ex H H2) : GI K H0 H2 n tv g v r t p f L k :=
  ⟨gi.net.ex e, gi.ok, gi.tvE, gi.few, gi.ex.trans e, gi.own, gi.gn, e _ _ gi.gone, gi.told.fr (fun a l _ _ h => e _ _ h) (fun a xs h => e _ _ h), gi.at_⟩
theorem GI.keep (gi : GI K H0 H n tv g v r t p f L k) (wn : ∀ l, r = .lst l → l ≠ []) (s : Stp (K54.own n) H (K54.own n') H2) :
    Ex H0 H2 ∧ (∀ a, K54.own n' a → H0 a = none) ∧ H2 g = some (.lst (ivs (path (fun x => nxt tv x t) t p k))) ∧ TD H2 g v r := by
  refine ⟨fun a o ha => s.1 a o (gi.ex a o ha) (fun z => by rw [gi.own a z] at ha; cases ha), fun a o => ?_, s.1 _ _ gi.gone (own_ivs gi.net gi.gone (path_ne _ _ _ _)), gi.told.fr (fun a l hl _ h => s.1 _ _ h (own_ivs gi.net h (wn l hl))) (fun a xs h => s.1 _ _ h (gi.net.no_tup h))⟩
  rcases s.2 a o with z | z
  · exact gi.own a z
  · exact fresh_back gi.ex z
end
section
variable {P : Program} {w : World} {K : PySem.W.Frag} {mg : Str → Option Value} {base : Heap}
theorem cal_law_goes (T : TX K mg) (c_Net_init : NCal P w K mg base "Net" 5 (sp_Net_init K)) (c_Net_put : MCal P w K mg base "Net" "put" 4 (sp_Net_put K)) (c_way : Cal P w K mg base "way" 5 (sp_way K)) (c_Packet_init : NCal P w K mg base "Packet" 3 (sp_Packet_init K)) (c_Net_lying : MCal P w K mg base "Net" "lying" 1 (sp_Net_lying K)) (c_Net_bring : MCal P w K mg base "Net" "bring" 9 (sp_Net_bring K)) (c_law_way : Cal P w K mg base "_law_way" 2 (sp_law_way K)) (c_Packet_told : MCal P w K mg base "Packet" "told" 1 (sp_Packet_told K)) : Cal P w K mg base "_law_goes" 10 (sp_law_goes K) := by
  obtain ⟨fd, F⟩ := T.df_law_goes
  have hb : Binds K fd ["_law_table_here", "_law_place", "_law_target", "_law_life"] [] := F.bindsN fun _ _ _ _ _ _ us hl => match us, hl with | [_, _, _, _], _ => rfl
  refine Cal.mk2 T.g_law_goes F.kp hb (F.ok (CX := CX0) (k := 9) sc_law_goes (fun vs H Q E h => ?_) (fun cdv A outer s H vs Q E hr h => ?_))
  · obtain ⟨_, _, _, _, _, rfl, _⟩ := h
    rfl
  · obtain ⟨d, p, t, L, tv, rfl, hz, ok, hp, ht, hL1, hL9, q⟩ := h
    refine ⟨_, PSs.nox (pss_cons (ps_set (i := 4) sc_law_goes.nd rfl (.inl rfl) (pe_calN c_Net_init (hr.mono (by decide)) (pa_cons (pv 0) (pa_cons pe_int (pa_cons pe_int pa_nil)))))
    (pss_cons (ps_expr (pe_calM c_Net_put (hr.mono (by decide)) (pv 4) (pa_cons (pv 1) (pa_cons (pe_calN c_Packet_init (hr.mono (by decide)) (pa_cons pe_int (pa_cons (pv 2) (pa_cons pe_int (pa_cons (pv 3) (pa_cons pe_int (pa_cons pe_int (pa_cons pe_bl (pa_cons (pe_tup (pa_cons pe_int pa_nil)) pa_nil))))))))) pa_nil))))
    (pss_cons (ps_set (i := 5) sc_law_goes.nd rfl (.inl rfl) (pe_cal c_way (hr.mono (by decide)) (pa_cons (pv 0) (pa_cons (pv 1) (pa_cons (pv 2) pa_nil)))))
    (pss_cons (ps_set (i := 6) sc_law_goes.nd rfl (.inl rfl) (pe_lst (pa_cons (pv 1) pa_nil)))
    (pss_cons (ps_if (PW.pt (pw_or (pt_cmpR (op_neD hr.units) (pv 5) (pe_cal c_law_way (hr.mono (by decide)) (pa_cons (pv 0) (pa_cons (pv 1) (pa_cons (pv 2) pa_nil)))) (nomark _)) (pw_or1 (pt_cmpR op_ne (pe_cmpR (op_neD hr.units) (pe_calM0 c_Net_lying (hr.mono (by decide)) (pv 4)) (pe_lst pa_nil) (nomark _)) (pe_cmp (pc_din (hu_of hr) (pv 2) (pe_dget (hu_of hr) (pv 0) (pv 1) (fun _ _ => rfl)))) (nomark _))))) (pss_one (ps_ret pe_bl)) pss_nil)
    (pss_cons (ps_while PassesOwn.never (pt_cmpR (op_neD hr.units) (pe_calM0 c_Net_lying (hr.mono (by decide)) (pv 4)) (pe_lst pa_nil) (nomark _)) (pss_cons (ps_asg (pe_ix ix_list (pe_calM0 c_Net_lying (hr.mono (by decide)) (pv 4)) pe_int (fun _ _ => rfl)) (pg_tup rfl (pgs_cons (pg_name (i := 7) sc_law_goes.nd rfl (.inl rfl)) (pgs_cons (pg_name (i := 8) sc_law_goes.nd rfl (.inl rfl)) pgs_nil))))
    (pss_cons (ps_set (i := 9) sc_law_goes.nd rfl (.inl rfl) (pe_calM c_Net_bring hr (pv 4) (pa_cons (pv 7) (pa_cons (pv 8) (pa_cons pe_int pa_nil)))))
    (pss_cons (ps_if (PW.pt (pw_or (pt_cmpR op_ne (pv 7) (pe_ix ix_list (pv 6) (pe_un un_neg pe_int) (fun _ _ => rfl)) (nomark _)) (pw_or (pt_cmpR op_gt (pe_callB call_len_seq (by rfl) T.f_len bt_len (pa_cons (pv 6) pa_nil)) (pv 3) (nomark _)) (pw_or1 (PW.pt (pw_and (pt_cmpR op_notN (pv 9) pe_non (nomark _)) (pw_and1 (pt_cmpR op_ne (pv 8) (pv 2) (nomark _))))))))) (pss_one (ps_ret pe_bl)) pss_nil)
    (pss_cons (ps_expr (pe_bm PySem.F.plainAttrs_list PySem.F.slot_list_append PySem.F.type_list_append mt_append (pv 6) (pa_cons (pv 8) pa_nil)))
    (pss_one (ps_if (pt_cmpR op_notN (pv 9) pe_non (nomark _)) (pss_one (ps_ret (pe_and (pe_cmpR (op_eqD hr.units) (pv 6) (pv 5) (nomark _)) (pe_and (pe_cmpR op_eq (pe_ix ix_tup (pe_calM0 c_Packet_told (hr.mono (by decide)) (pv 9)) pe_int (fun _ _ => rfl)) (pe_op op_add (pe_op op_sub (pv 3) (pe_callB call_len_seq (by rfl) T.f_len bt_len (pa_cons (pv 6) pa_nil))) pe_int) (nomark _)) (pe_one (pe_cmpR (op_eqD hr.units) (pe_calM0 c_Net_lying (hr.mono (by decide)) (pv 4)) (pe_lst pa_nil) (nomark _))))))) pss_nil)))))))
    (pss_cons (ps_if (pt_val (pe_callB call_isi (by rfl) T.f_isinstance bt_isinstance (pa_cons (pv 5) (pa_cons (pe_bty T.f_list bt_list) pa_nil)))) (pss_one (ps_ret (pe_or (pe_cmpR op_eq (pv 1) (pv 2) (nomark _)) (pe_one (pe_cmpR op_gt (pe_op op_sub (pe_callB call_len_seq (by rfl) T.f_len bt_len (pa_cons (pv 5) pa_nil)) pe_int) (pv 3) (nomark _)))))) pss_nil)
    (pss_one (ps_ret (pe_or (pe_cmpR op_isN (pv 5) pe_non (nomark _)) (pe_one (pe_cmpR op_eq (pe_callB call_len_seq (by rfl) T.f_len bt_len (pa_cons (pv 6) pa_nil)) (pe_op op_add (pv 3) pe_int) (nomark _))))))))))))), ?_⟩
    refine ⟨_, rfl, fun x dx nx ndx ne => ?_⟩
    have nx' : (upd H dx (.own x)) x = none := by rw [upd_ne ne.symm]; exact nx
    have e0 : Ex H (upd (upd H dx (.own x)) x (.ins (He.ga K "Net") dx [])) := (Ex.new ndx).trans (Ex.new nx')
    refine ⟨x, dx, d, 0, tv, rfl, upd_same, hz.ex e0, ok, by decide, fun H2 n ep etv eo hT hn hok hown hwap fr => ⟨rfl, ?_⟩⟩
    subst ep
    have e2 : Ex H H2 := made_ex nx ndx fr
    have own2 : ∀ a, own n a → H a = none := fun a o => fresh_back e0 (hown a o)
    have wz : ∀ r : List Int, ([9] : List Int) = [9] := fun _ => rfl
    refine ⟨_, rfl, n.p, n.dx, _, rfl, hn.obj, ntl_m nSt nSt nSt nSt, _, rfl, _, rfl, _, rfl, szl (n := 1) (by decide), fun dt hdt => ?_⟩
    refine fun y dy ny ndy ney => ?_
    have hdt' : (upd (upd (upd H2 dt (.tup [.int 9])) dy (.own y)) y (.ins (He.ga K "Packet") dy [])) dt = some (.tup (ivs [9])) := by
      have h0 : (upd H2 dt (.tup [.int 9])) dt = some (.tup (ivs [9])) := upd_same
      rw [upd_ne (ne_of_none h0 ny), upd_ne (ne_of_none h0 ndy)]
      exact h0
    have okf : FlOk ⟨7, t, 4, L, 1, 0, false, [9]⟩ := ⟨⟨by show (0 : Int) ≤ 7; decide, by show (7 : Int) ≤ 255; decide⟩, ok.byt _ ht, ⟨by show (0 : Int) ≤ 4; decide, by show (4 : Int) ≤ 255; decide⟩, ⟨by show 0 ≤ L; omega, by show L ≤ 255; omega⟩, by show (0 : Int) ≤ 1; decide, by show (1 : Int) ≤ 65535; decide, rfl, rfl, fun b hb => by
      have : b = 9 := by simpa using hb
      rw [this]
      exact ⟨by decide, by decide⟩, by show 1 ≤ 3; decide⟩
    have hT0 : ∀ k ∈ n.keys, n.T k = [] := fun k _ => hT k
    have tot0 := tot_AB (nx := fun x => nxt tv x t) (t := t) (p := p) (f := ⟨7, t, 4, L, 1, 0, false, [9]⟩) (L := L) (k := 0) hok hT0
    refine ⟨y, dy, dt, ⟨7, t, 4, L, 1, 0, false, [9]⟩, rfl, upd_same, hdt', okf, fun H3 k3 hy => ⟨rfl, ?_⟩⟩
    have e3 : Ex H2 H3 := (Ex.new hdt).trans (made_ex ny ndy k3)
    have hn3 := hn.ex e3
    have hdt3 : H3 dt = some (.tup (ivs [9])) := made_ex ny ndy k3 _ _ upd_same
    refine ⟨n, p, y, ⟨7, t, 4, L, 1, 0, false, [9]⟩, rfl, hn3, hok, by rw [etv]; exact hp, ⟨dy, dt, hy, hdt3⟩, okf, by omega, fun H4 n1 hput hn4 ok4 hs => ?_⟩
    obtain ⟨p1, p2, p3, p4, p5⟩ := hput.same
    have tot1 := hput.tot hok
    have e4 : Ex H H4 := fun a o ha => hs.1 a o ((e2.trans e3) a o ha) fun z => by
      have := own2 a z
      rw [ha] at this
      cases this
    have own4 : ∀ a, own n1 a → H a = none := fun a o => by
      rcases hs.2 a o with z | z
      · exact own2 a z
      · exact fresh_back (e2.trans e3) z
    have at0 : AtA n1 (fun x => nxt tv x t) t p ⟨7, t, 4, L, 1, 0, false, [9]⟩ L 0 ∨ AtB n1 (fun x => nxt tv x t) t p L 0 :=
      put_at (f := ⟨7, t, 4, L, 1, 0, false, [9]⟩) (L := L) (k := 0) hok etv rfl hT0 rfl (fun _ => rfl) (by omega) (by rw [show ({ (⟨7, t, 4, L, 1, 0, false, [9]⟩ : Fl) with life := L - ((0 : Nat) : Int) } : Fl) = ⟨7, t, 4, L, 1, 0, false, [9]⟩ from by show (⟨7, t, 4, L - ((0 : Nat) : Int), 1, 0, false, [9]⟩ : Fl) = _; rw [show L - ((0 : Nat) : Int) = L by omega]]; exact hput)
    have z4 := hz.ex e4
    have okn1 : n1.tv = tv := p3.trans etv
    refine ⟨_, rfl, _, rfl, _, rfl, d, p, t, tv, rfl, z4, ok, hp, ht, fun v H5 e5 hv => ?_⟩
    have ways : Ways (fun x => nxt tv x t) t p (wayP tv p t) := ways_of (S := plcs tv) (by rw [plcs_len]; exact ok.le) (fun x y h => (nxt_in ok h).2.2.2.1) 8 0 p rfl rfl (by simp [path]) (fun z hz => by
      have : z = p := by simpa [path] using hz
      rw [this]; exact hp)
    refine ⟨_, rfl, szl (n := 1) (by decide), fun g hg => ?_⟩
    have e6 := Ex.new (o := .lst [.int p]) hg
    have eA := e5.trans e6
    refine ⟨_, rfl, _, rfl, _, rfl, _, rfl, d, p, t, tv, rfl, (z4.ex eA).r, ok, hp, ht, fun v2 H7 e7 hv2 => ?_⟩
    refine ⟨wD (wayP tv p t), wD (wayP tv p t), dp_wD ((hv.ex e6).ex e7), dp_wD hv2, (gd_wD _).shaped, (gd_wD _).shaped, _, rfl, ?_⟩
    rw [(gd_wD _).refl]
    have eB := eA.trans e7
    have hn7 := hn4.ex eB
    refine iteF ⟨_, rfl, n1.p, n1.dx, _, congrArg V.ref p1.symm, hn7.obj, ntl_m nSt nSt nSt nSt, n1, by rw [p1]; rfl, hn7, ok4, fun l ks as H8 e8 nl hl hp8 hnd hks => ⟨Nat.zero_le _, fun u hu => ?_⟩⟩
    have e9 := Ex.new (o := .lst []) hu
    refine ⟨.list (ksD ks), .list [], .lst (SqL.of (e9 _ _ hl)) (dpAll_ks (L2.Paired.mapP hp8 fun k a h => e9 _ _ h)), .lst (SqL.of upd_same) .nil, (gd_ks ks).shaped, gd_l0.shaped, ?_⟩
    have eC := eB.trans (e8.trans e9)
    have z9 := z4.ex eC
    obtain ⟨ad, ws, g1, g2, g3, g4⟩ := z9.r.get hp
    refine ⟨_, rfl, _, rfl, _, rfl, d, _, rfl, g1, ad, _, rfl, g3 t, rfl, _, rfl, ?_⟩
    have eqb : (!decide (V.bl (!PyData.eqv (.list (ksD ks)) (.list [])) = V.bl ((nxt tv p t).map V.int).isSome)) = false := by
      rw [eqv_l0]
      rcases at0 with ⟨a, y0, u0, h1, h2, h3, h4, h5, h6, h7, h8⟩ | ⟨a, h1, h2, h3, h4, h5⟩
      · have : ks = [(a, y0)] := lying_A (nx := fun x => nxt tv x t) (t := t) (p := p) (f := ⟨7, t, 4, L, 1, 0, false, [9]⟩) (L := L) (k := 0) h3 h7 h8 hnd hks
        have ha : a = p := (Option.some.inj h1).symm
        have hnx : nxt tv p t = some y0 := by
          have h2 : (some p).bind (fun x => if x = t then none else nxt tv x t) = some y0 := h2
          have h2 : (if p = t then none else nxt tv p t) = some y0 := h2
          split at h2
          · cases h2
          · exact h2
        rw [this, hnx]
        rfl
      · have : ks = [] := lying_B h5 hks
        have ha : a = p := (Option.some.inj h1).symm
        rcases h3 with z | z
        · have z : L ≤ ((0 : Nat) : Int) := z
          omega
        · have z : nxt tv a t = none := z
          rw [ha] at z
          rw [this, z]
          rfl
    rw [eqb]
    refine iteF ?_
    have gn : H g = none := fresh_back (e4.trans e5) hg
    have td : TD (upd H8 u (.lst [])) g v (wayP tv p t) := by
      have hv9 := (hv.ex ((e6.trans e7).trans (e8.trans e9)))
      generalize hr : wayP tv p t = r at hv hv9
      cases r with
      | non => exact hv9
      | lst l' =>
        obtain ⟨a, h1, h2⟩ := hv9
        obtain ⟨a', h1', h2'⟩ := hv
        have : a' = a := by rw [h1] at h1'; injection h1' with z; exact z.symm
        exact ⟨a, h1, (fun z => by rw [this, z, hg] at h2'; cases h2'), h2⟩
      | ring l' =>
        obtain ⟨a, b, h1, h2, h3⟩ := hv9
        exact ⟨a, _, h1, h2⟩
    have gi0 : GI K H (upd H8 u (.lst [])) n1 tv g v (wayP tv p t) t p ⟨7, t, 4, L, 1, 0, false, [9]⟩ L 0 := ⟨hn4.ex eC, ok4, okn1, by omega, e4.trans eC, own4, gn, (e7.trans (e8.trans e9)) _ _ upd_same, td, at0⟩
    generalize hfl : (⟨7, t, 4, L, 1, 0, false, [9]⟩ : Fl) = f at gi0
    have hft : f.tgt = t := by rw [← hfl]
    have wn : ∀ l, wayP tv p t = .lst l → l ≠ [] := fun l hl => ways.ne l hl
    clear hfl at0 eqb td
    refine while_by (fun σ H' => ∃ n' k, GI K H H' n' tv g v (wayP tv p t) t p f L k ∧ ∃ v7 v8 v9, σ = [some (.ref d), some (.int p), some (.int t), some (.int L), some (.ref n'.p), some v, some (.ref g), v7, v8, v9])
      (fun _ H' => match H' g with | some (.lst l) => 20 - l.length | _ => 0) ⟨n1, 0, gi0, none, none, none, by rw [p1]; rfl⟩ ?_ (fun σ H1 Q1 Q2 k1 k2 => ?_)
    · rintro σ H1 ⟨n', k, gi, v7, v8, v9, rfl⟩
      refine ⟨_, rfl, n'.p, n'.dx, _, rfl, gi.net.obj, ntl_m nSt nSt nSt nSt, n', rfl, gi.net, gi.ok, fun l ks as H2 e2 nl hl hp2 hnd hks => ⟨Nat.zero_le _, fun u hu => ?_⟩⟩
      have e3 := Ex.new (o := .lst []) hu
      refine ⟨.list (ksD ks), .list [], .lst (SqL.of (e3 _ _ hl)) (dpAll_ks (L2.Paired.mapP hp2 fun k a h => e3 _ _ h)), .lst (SqL.of upd_same) .nil, (gd_ks ks).shaped, gd_l0.shaped, _, rfl, ?_⟩
      rw [eqv_l0]
      have gi2 := gi.grow (e2.trans e3)
      have hg1 := gi.gone
      have hpl := path_len (nx := fun x => nxt tv x t) (t := t) (p := p) k
      rcases gi.at_ with ⟨a, y, th, h1, h2, h3, h4, h5, h6, h7, h8⟩ | ⟨a, h1, h2, h3, h4, h5⟩
      · rw [lying_A (nx := fun x => nxt tv x t) (t := t) (p := p) (f := f) (L := L) (k := k) h3 h7 h8 hnd hks]
        have gn2 := gi2.net
        refine iteT ⟨_, rfl, n'.p, n'.dx, _, rfl, gn2.obj, ntl_m nSt nSt nSt nSt, n', rfl, gn2, gi2.ok, fun l2 ks2 as2 H4 e4 nl4 hl4 hp4 hnd4 hks4 => ?_⟩
        have ek := lying_A (nx := fun x => nxt tv x t) (t := t) (p := p) (f := f) (L := L) (k := k) h3 h7 h8 hnd4 hks4
        subst ek
        have gi4 := gi2.grow e4
        cases hp4 with
        | @cons _ a3 _ as3 q1 q2 =>
        cases q2
        refine ⟨_, _, _, _, rfl, rfl, SqL.of hl4, rfl, a3, _, rfl, SqT.of q1, rfl, _, _, rfl, _, _, rfl, rfl, ?_⟩
        have gn4 := gi4.net
        have hlife : th.fl.life = L - k := by rw [h4]
        have htgt : th.fl.tgt = t := by rw [h4]; exact hft
        have tote : tot (n'.setT (a, y) ((n'.T (a, y)).eraseIdx 0)) = 0 := tot_AB (nx := fun x => nxt tv x t) (t := t) (p := p) (f := f) (L := L) (k := k) (gi4.ok.erase h3 0) fun k' hk' => by
          by_cases e : k' = (a, y)
          · rw [e, setT_same, h7]; rfl
          · rw [setT_ne e]; exact h8 k' hk' e
        have hE : ∀ k' ∈ n'.keys, (n'.setT (a, y) ((n'.T (a, y)).eraseIdx 0)).T k' = [] := fun k' hk' => by
          by_cases e : k' = (a, y)
          · rw [e, setT_same, h7]; rfl
          · rw [setT_ne e]; exact h8 k' hk' e
        have hpath : path (fun x => nxt tv x t) t p (k + 1) = path (fun x => nxt tv x t) t p k ++ [y] := by
          show path (fun x => nxt tv x t) t p k ++ [((it (fun x => nxt tv x t) t p (k + 1)).getD 0)] = _
          rw [h2]
          rfl
        have hlast := path_last h1
        have hpn := path_ne (fun x => nxt tv x t) t p k
        have fw := gi4.few
        have e0 : (!decide (V.int a = V.int (lastI (path (fun x => nxt tv x t) t p k)))) = false := by rw [hlast, decide_eq_true rfl]; rfl
        refine ⟨_, rfl, n'.p, n'.dx, _, rfl, gn4.obj, ntl_m nSt nSt nSt nSt, _, rfl, _, rfl, n', (a, y), 0, th, rfl, gn4, gi4.ok, h3, by rw [h7]; rfl, by omega, by omega, fun hz => absurd h5 hz, fun hz htg x H5 n4 e hx nx hn5 ok5 hs => ?_, fun hz htg H5 n4 hput hn5 ok5 hs => ?_⟩
        · subst e
          have hty : t = y := by rw [← htgt]; exact htg
          obtain ⟨j1, j2, j3, j4⟩ := gi4.keep wn hs
          have hpk := hx
          obtain ⟨pdx, dd, hpo, hpd⟩ := hx
          have e1 : (!decide (V.int y = V.int t)) = false := by rw [hty, decide_eq_true rfl]; rfl
          refine ⟨_, rfl, _, rfl, _, rfl, _, _, _, _, rfl, rfl, SqL.of j3, at_lastI hpn, rfl, _, rfl, ?_⟩
          rw [e0]
          refine iteF ⟨_, rfl, g, _, rfl, .inl (SqL.of j3), _, rfl, _, _, rfl, rfl, _, rfl, ?_⟩
          rw [ivs_len, hpl, decide_eq_false (by omega)]
          refine iteF ⟨_, rfl, rfl, _, rfl, iteT ⟨_, rfl, _, rfl, rfl, _, rfl, ?_⟩⟩
          rw [e1]
          refine iteF ⟨_, rfl, .inl ⟨rfl, _, SqL.of j3⟩, _, rfl, g, _, _, rfl, rfl, j3, by rw [ivs_len, hpl]; exact szlt (by omega), ?_⟩
          have ng5 := own_ivs hn5 j3 hpn
          have hn6 := hn5.updl (ys := ivs (path (fun x => nxt tv x t) t p k) ++ [.int y]) j3 ng5
          have hg6 : (upd H5 g (.lst (ivs (path (fun x => nxt tv x t) t p k) ++ [.int y]))) g = some (.lst (ivs (path (fun x => nxt tv x t) t p (k + 1)))) := by
            rw [upd_same, hpath]
            simp [ivs]
          have ex6 : Ex H (upd H5 g (.lst (ivs (path (fun x => nxt tv x t) t p k) ++ [.int y]))) := j1.mut gi4.gn
          have wr : wayP tv p t = .lst (path (fun x => nxt tv x t) t p (k + 1)) := ways.at_target (j := k + 1) (by rw [h2, hty])
          have j4' := j4
          rw [wr] at j4'
          obtain ⟨at5, ev, ag, hat5⟩ := j4'
          have hat6 : (upd H5 g (.lst (ivs (path (fun x => nxt tv x t) t p k) ++ [.int y]))) at5 = some (.lst (ivs (path (fun x => nxt tv x t) t p (k + 1)))) := by
            rw [upd_ne ag]
            exact hat5
          have hpo6 : (upd H5 g (.lst (ivs (path (fun x => nxt tv x t) t p k) ++ [.int y]))) x = _ := (upd_ne (ne_of hpo j3 (fun z => nomatch z))).trans hpo
          have hpd6 : (upd H5 g (.lst (ivs (path (fun x => nxt tv x t) t p k) ++ [.int y]))) dd = _ := (upd_ne (ne_of hpd j3 (fun z => nomatch z))).trans hpd
          have gdl : Gd 2 (.list (iD (path (fun x => nxt tv x t) t p (k + 1)))) := gd_lst (gd_iD 1 _)
          refine ⟨_, rfl, rfl, _, rfl, iteT ⟨_, rfl, _, rfl, .list (iD (path (fun x => nxt tv x t) t p (k + 1))), .list (iD (path (fun x => nxt tv x t) t p (k + 1))), dp_lI hg6, by rw [ev]; exact dp_lI hat6, gdl.shaped, gdl.shaped, ?_⟩⟩
          rw [gdl.refl]
          refine ⟨true, rfl, iteT ⟨_, rfl, x, pdx, _, rfl, hpo6, pkl_told, x, th.fl, rfl, ⟨pdx, dd, hpo6, hpd6⟩, fun fp H7 e7 hf => ?_⟩⟩
          obtain ⟨d7, hf1, hf2⟩ := hf
          refine ⟨_, _, _, _, rfl, rfl, SqT.of hf1, rfl, _, rfl, _, rfl, g, _, rfl, .inl (SqL.of (e7 _ _ hg6)), _, _, rfl, rfl, _, _, rfl, rfl, rfl, ?_⟩
          have e8 : decide (V.int th.fl.life = V.int (L - ((ivs (path (fun x => nxt tv x t) t p (k + 1))).length : Nat) + 2)) = true := decide_eq_true (by rw [hlife, ivs_len, path_len]; congr 1; omega)
          rw [e8]
          have hn7 := hn6.ex e7
          refine ⟨true, rfl, iteT ⟨_, rfl, n'.p, n'.dx, _, rfl, hn7.obj, ntl_m nSt nSt nSt nSt, n'.setT (a, y) ((n'.T (a, y)).eraseIdx 0), rfl, hn7, ok5, fun l9 ks9 as9 H9 e9 nl9 hl9 hp9 hnd9 hks9 => ⟨Nat.zero_le _, fun u9 hu9 => ?_⟩⟩⟩
          have e10 := Ex.new (o := .lst []) hu9
          refine ⟨.list (ksD ks9), .list [], .lst (SqL.of (e10 _ _ hl9)) (dpAll_ks (L2.Paired.mapP hp9 fun k a h => e10 _ _ h)), .lst (SqL.of upd_same) .nil, (gd_ks ks9).shaped, gd_l0.shaped, ?_⟩
          rw [eqv_l0, lying_B (n := n'.setT (a, y) ((n'.T (a, y)).eraseIdx 0)) hE hks9]
          exact q _ (ex6.trans (e7.trans (e9.trans e10)))
        · obtain ⟨p1, p2, p3, p4, p5⟩ := hput.same
          obtain ⟨j1, j2, j3, j4⟩ := gi4.keep wn hs
          have hty : t ≠ y := fun z => htg (by rw [htgt]; exact z)
          refine ⟨_, rfl, _, rfl, _, rfl, _, _, _, _, rfl, rfl, SqL.of j3, at_lastI hpn, rfl, _, rfl, ?_⟩
          rw [e0]
          refine iteF ⟨_, rfl, g, _, rfl, .inl (SqL.of j3), _, rfl, _, _, rfl, rfl, _, rfl, ?_⟩
          rw [ivs_len, hpl, decide_eq_false (by omega)]
          refine iteF ⟨_, rfl, rfl, _, rfl, iteF ?_⟩
          refine ⟨_, rfl, .inl ⟨rfl, _, SqL.of j3⟩, _, rfl, g, _, _, rfl, rfl, j3, by rw [ivs_len, hpl]; exact szlt (by omega), ?_⟩
          have ng5 := own_ivs hn5 j3 hpn
          have hn6 := hn5.updl (ys := ivs (path (fun x => nxt tv x t) t p k) ++ [.int y]) j3 ng5
          have hg6 : (upd H5 g (.lst (ivs (path (fun x => nxt tv x t) t p k) ++ [.int y]))) g = some (.lst (ivs (path (fun x => nxt tv x t) t p (k + 1)))) := by
            rw [upd_same, hpath]
            simp [ivs]
          have ex6 : Ex H (upd H5 g (.lst (ivs (path (fun x => nxt tv x t) t p k) ++ [.int y]))) := j1.mut gi4.gn
          have hfl : ({ th.fl with life := th.fl.life - 1 } : Fl) = { f with life := L - ((k + 1 : Nat) : Int) } := by
            rw [h4]
            show ({ f with life := L - k - 1 } : Fl) = _
            rw [show L - (k : Int) - 1 = L - ((k + 1 : Nat) : Int) by omega]
          rw [hfl] at hput
          have nat := put_at (gi4.ok.erase h3 0) gi4.tvE hft hE h2 (fun z => absurd z.symm hty) (by omega) hput
          have tn := hput.tot (gi4.ok.erase h3 0)
          refine ⟨_, rfl, rfl, _, rfl, iteF ⟨⟨n4, k + 1, ⟨hn6, ok5, p3.trans gi4.tvE, by omega, ex6, j2, gi4.gn, hg6, j4.fr (fun b l _ ne h => by rw [upd_ne ne]; exact h) (fun b xs h => by rw [upd_ne (ne_of h j3 (fun z => nomatch z))]; exact h), nat⟩, _, _, _, by rw [p1]; rfl⟩, ?_⟩⟩
          show (match (upd H5 g (.lst (ivs (path (fun x => nxt tv x t) t p k) ++ [.int y]))) g with | some (.lst l) => 20 - l.length | _ => 0) < (match H1 g with | some (.lst l) => 20 - l.length | _ => 0)
          rw [hg6, hg1]
          show 20 - (ivs _).length < 20 - (ivs _).length
          rw [ivs_len, ivs_len, path_len, path_len]
          omega
      · rw [lying_B h5 hks]
        refine iteF ?_
        have hgo := gi2.gone
        have htd := gi2.told
        have exq := gi2.ex
        have hmt : ∀ m, it (fun x => nxt tv x t) t p m = some t → p ≠ t → L < m := fun m hm hpt => by
          have hak : a ≠ t := fun z => by
            have := h2 z
            subst this
            exact hpt (by rw [← z]; exact Option.some.inj h1)
          have hkm : k < m := by
            rcases Nat.lt_trichotomy m k with z | z | z
            · exact absurd rfl (it_ne h1 z hm)
            · rw [z, h1] at hm
              exact absurd (Option.some.inj hm) hak
            · exact z
          rcases h3 with z | z
          · omega
          · exfalso
            have hn1 := it_none h1 (.inr z)
            obtain ⟨w1, hw1⟩ := it_le hm (show k + 1 ≤ m from hkm)
            rw [hn1] at hw1
            cases hw1
        generalize hr : wayP tv p t = r at ways htd
        cases ways with
        | nowhere m x w1 w2 w3 =>
          have ev : v = .non := htd
          subst ev
          exact ⟨_, rfl, _, _, _, _, false, rfl, .ty _, .base .non, isi_nl, _, rfl, iteF ⟨_, rfl, rfl, true, rfl, iteT (q _ exq)⟩⟩
        | there m hm =>
          obtain ⟨a5, ev, ag, hat⟩ := htd
          subst ev
          refine ⟨_, rfl, _, _, _, _, true, rfl, .ty _, .base (.lst hat), isi_ll, _, rfl, iteT ⟨_, rfl, _, rfl, rfl, ?_⟩⟩
          by_cases hpt : p = t
          · rw [decide_eq_true (show V.int p = V.int t by rw [hpt])]
            exact ⟨true, rfl, iteT (q _ exq)⟩
          · rw [decide_eq_false (show ¬ V.int p = V.int t from fun z => hpt (by injection z))]
            refine ⟨false, rfl, iteF ⟨_, rfl, a5, _, rfl, .inl (SqL.of hat), _, _, rfl, rfl, _, rfl, _, _, rfl, rfl, ?_⟩⟩
            rw [ivs_len, path_len]
            have eL : decide (L < ((m + 1 : Nat) : Int) - 1) = true := decide_eq_true (by have := hmt m hm hpt; omega)
            have fin := q _ exq
            rw [← eL] at fin
            exact fin
        | round l hall =>
          obtain ⟨a5, xs, ev, hat⟩ := htd
          subst ev
          refine ⟨_, rfl, _, _, _, _, false, rfl, .ty _, .base (.tup hat), isi_tl, _, rfl, iteF ⟨_, rfl, rfl, false, rfl, iteF ⟨_, rfl, g, _, rfl, .inl (SqL.of hgo), _, rfl, _, _, rfl, rfl, rfl, ?_⟩⟩⟩
          have hkL : L = k := by
            rcases h3 with z | z
            · omega
            · exfalso
              have hn1 := it_none h1 (.inr z)
              obtain ⟨w1, hw1, _⟩ := hall (k + 1)
              rw [hn1] at hw1
              cases hw1
          rw [decide_eq_true (show V.int (((ivs (path (fun x => nxt tv x t) t p k)).length : Nat) : Int) = V.int (L + 1) by rw [ivs_len, path_len]; congr 1; omega)]
          exact q _ exq
    · obtain ⟨x1, hv, x2, dx, fs, ev, ho, hlk, n, e1, hn, hok, k2⟩ := k2
      exact ⟨x1, hv, x2, dx, fs, ev, ho, hlk, n, e1, hn, hok, fun l ks as H2 z1 z2 z3 z4 z5 z6 => by
        obtain ⟨b0, k2⟩ := k2 l ks as H2 z1 z2 z3 z4 z5 z6
        exact ⟨b0, fun u hu => by
          obtain ⟨d1, d2, c1, c2, c3, c4, kb, ek, k2⟩ := k2 u hu
          exact ⟨d1, d2, c1, c2, c3, c4, kb, ek, k1 _ _ k2⟩⟩⟩
end
end K54

set_option Elab.async false
set_option linter.all false
set_option maxRecDepth 100000
set_option maxHeartbeats 1000000
/-! The law. -/
namespace K54
open PySem PySem.Spec PyProof.Rows L2 Evl
def sp_law (K : PySem.W.Frag) : Sp := fun vs H Q _ => ∃ (a : Addr) (ns : List Int), vs = [.ref a] ∧ SqL K H a (ns.map V.int) ∧ ns.length ≤ 63 ∧ ∀ H', Q (.bl true) H'
theorem for_enum {K : PySem.W.Frag} {a : Addr} {xs : List V} {g : TG} {tb : TS} {D : Ends} {σ : L2.St} {H : Hp} (Pv : Nat → L2.St → Hp → Prop) (h0 : Pv 0 σ H) (hl : ∀ i σ H, i ≤ xs.length → Pv i σ H → SqL K H a xs)
    (hs : ∀ i x (T : Addr) σ H, xs[i]? = some x → H T = none → Pv i σ H → g (.ref T) σ (upd H T (.tup [.int (i : Nat), x])) fun σ2 H2 => tb { D with nx := Pv (i + 1), ct := Pv (i + 1), bk := D.nx } σ2 H2) (hd : ∀ σ H, Pv xs.length σ H → D.nx σ H) :
    ∃ W : Nat → Nat → L2.St → Hp → Prop, (∃ m, W 0 m σ H) ∧ ∀ i m σ H, W i m σ H →
      ((Ite K a).stop i H ∧ D.nx σ H) ∨ ((Ite K a).go i H ∧ ∃ N : L2.St → Hp → Prop, (∀ σ' H', N σ' H' → ∃ m', m' < m ∧ W (i + 1) m' σ' H') ∧ ∀ x H', (Ite K a).yld i H x H' → g x σ H' fun σ2 H2 => tb { D with nx := N, ct := N, bk := D.nx } σ2 H2) := by
  refine ⟨fun i m σ H => m = xs.length - i ∧ i ≤ xs.length ∧ Pv i σ H, ⟨xs.length, by simp, Nat.zero_le _, h0⟩, ?_⟩
  rintro i m σ H ⟨rfl, hi, p⟩
  have q := hl i σ H hi p
  by_cases hlt : i < xs.length
  · refine .inr ⟨⟨xs, xs[i], q, List.getElem?_eq_getElem hlt⟩, Pv (i + 1), fun σ' H' p' => ⟨xs.length - (i + 1), by omega, rfl, hlt, p'⟩, fun x H' y => ?_⟩
    obtain ⟨T, z, e1, hT, e2, hx⟩ := y
    subst e1 e2
    exact hs i z T σ _ (hx xs q) hT p
  · have e : i = xs.length := by omega
    subst e
    exact .inl ⟨⟨xs, q, Nat.le_refl _⟩, hd σ H p⟩
theorem NetR.updF {K : PySem.W.Frag} {H : Hp} {n : NG} (h : NetR K H n) {a : Addr} {o : Obj} {u u' : HO} (ha : H a = some (.frz o u)) (w : TabRA H n.W n.tv (fun x => x = a)) : NetR K (upd H a u') n := by
  refine ⟨by rw [upd_ne (ne_of h.obj ha (fun z => nomatch z))]; exact h.obj, ?_, by rw [upd_ne (ne_of h.dict ha (fun z => nomatch z))]; exact h.dict, fun k hk => by rw [upd_ne (ne_of (h.lst k hk) ha (fun z => nomatch z))]; exact h.lst k hk, fun k hk t ht => ?_⟩
  · obtain ⟨tb, e, ⟨hd, n1⟩, hi⟩ := w
    have rd : ∀ (x : Addr) (kv : List (Key × V)), Rd H x (.dK kv) → x ≠ a → Rd (upd H a u') x (.dK kv) := fun x kv r ne => by
      rcases r with r | ⟨o, r⟩
      · exact .inl (by rw [upd_ne ne]; exact r)
      · exact .inr ⟨o, by rw [upd_ne ne]; exact r⟩
    exact ⟨tb, e, rd _ _ hd n1, fun t ht => rd _ _ (hi t ht).1 (hi t ht).2⟩
  · have r := h.th k hk t ht
    exact ⟨by rw [upd_ne (ne_of r.obj ha (fun z => nomatch z))]; exact r.obj, by rw [upd_ne (ne_of r.row ha (fun z => nomatch z))]; exact r.row, by rw [upd_ne (ne_of r.pl ha (fun z => nomatch z))]; exact r.pl⟩
theorem cut_ivs (ns : List Int) (h : ns.length ≤ 63) : ∃ cs : List Int, cutV (ns.map V.int) (some 1) (some 63) = ivs cs ∧ cs.length ≤ 62 := by
  refine ⟨(ns.drop (HT.sIx (ns.map V.int).length 0 (some 1))).take (HT.sIx (ns.map V.int).length (ns.map V.int).length (some 63) - HT.sIx (ns.map V.int).length 0 (some 1)), ?_, ?_⟩
  · unfold cutV ivs
    rw [List.map_take, List.map_drop]
  · rw [List.length_take, List.length_drop]
    have e1 : HT.sIx (ns.map V.int).length 0 (some 1) = min 1 (ns.map V.int).length := HT.sIx_nat _ _ 1
    rw [List.length_map] at e1
    rw [List.length_map, e1]
    omega
section
variable {P : Program} {w : World} {K : PySem.W.Frag} {mg : Str → Option Value} {base : Heap}
theorem ok_law (T : TX K mg) (c_law_state : Cal P w K mg base "_law_state" 1 (sp_law_state K)) (c_law_table : Cal P w K mg base "_law_table" 3 (sp_law_table K)) (c_law_next : Cal P w K mg base "_law_next" 1 (sp_law_next K)) (c_Net_init : NCal P w K mg base "Net" 5 (sp_Net_init K)) (c_law_emptied : Cal P w K mg base "_law_emptied" 11 (sp_law_emptied K)) (c_law_cell_at : Cal P w K mg base "_law_cell_at" 1 (sp_law_cell_at K)) (c_law_deed : Cal P w K mg base "_law_deed" 11 (sp_law_deed K)) (c_law_lies_right : Cal P w K mg base "_law_lies_right" 9 (sp_law_lies_right K)) (c_law_goes : Cal P w K mg base "_law_goes" 10 (sp_law_goes K)) {fd : FuncData} (F : FunD K "law" "law" (defArgs s_law) (defBody s_law) (defScope s_law) [] [] (He.fAd K ("law", none)) fd) : FnOk P w K mg base CX0 12 (He.fAd K ("law", none)) fd ["_law_script"] (sp_law K) := by
  refine F.ok (CX := CX0) (k := 11) sc_law (fun vs H Q E h => ?_) (fun cdv A outer s H vs Q E hr h => ?_)
  · obtain ⟨_, _, rfl, _⟩ := h
    rfl
  · obtain ⟨a, ns, rfl, ha, hn63, q⟩ := h
    refine ⟨_, PSs.nox (pss_cons (ps_set (i := 1) sc_law.nd rfl (.inl rfl) (pe_cal c_law_state (hr.mono (by decide)) (pa_cons (pe_cal c_law_cell_at (hr.mono (by decide)) (pa_cons (pv 0) (pa_cons pe_int pa_nil))) (pa_cons pe_int pa_nil))))
    (pss_cons (ps_set (i := 2) sc_law.nd rfl (.inl rfl) (pe_cal c_law_table (hr.mono (by decide)) (pa_cons (pv 1) (pa_cons pe_int pa_nil))))
    (pss_cons (ps_set (i := 3) sc_law.nd rfl (.inl rfl) (pe_disp (pps_cons pe_str (pv 2) (pps_cons pe_str (pe_cal c_law_next (hr.mono (by decide)) (pa_cons (pv 1) (pa_cons pe_int pa_nil))) (pps_cons pe_str pe_dnewK (pps_cons pe_str (pe_lst pa_nil) (pps_cons pe_str pe_int pps_nil))))) (by rfl) (by rfl) (fun z => by cases z) (by decide)))
    (pss_cons (ps_dput (hu_of hr) (pv 3) pe_str (pe_cal c_law_next (hr.mono (by decide)) (pa_cons (pv 1) (pa_cons pe_int pa_nil))) rfl)
    (pss_cons (ps_lock (ps_set (i := 4) sc_law.nd rfl (.inl rfl) (pe_calN c_Net_init (hr.mono (by decide)) (pa_cons (pv 2) (pa_cons pe_int (pa_cons (pe_dget (hu_of hr) (pv 3) pe_str (fun _ _ => rfl)) pa_nil))))))
    (pss_cons (ps_for PassesOwn.never rfl (pi_enum (by rfl) T.f_enumerate (pa_cons (pe_slice sl_list (pv 0) (po_some pe_int) (po_some pe_int)) pa_nil)) (pg_tup rfl (pgs_cons (pg_name (i := 5) sc_law.nd rfl (.inl rfl)) (pgs_cons (pg_name (i := 6) sc_law.nd rfl (.inl rfl)) pgs_nil))) (pss_one (ps_if (PW.pt (pw_or (pt_not (pt_val (pe_cal c_law_deed hr (pa_cons (pv 4) (pa_cons (pv 3) (pa_cons (pe_cal c_law_state (hr.mono (by decide)) (pa_cons (pv 6) (pa_cons (pe_op op_add (pv 5) pe_int) pa_nil))) pa_nil)))))) (pw_or1 (pt_not (pt_val (pe_cal c_law_lies_right (hr.mono (by decide)) (pa_cons (pv 4) (pa_cons (pv 3) pa_nil)))))))) (pss_one (ps_ret pe_bl)) pss_nil)))
    (pss_cons (ps_lock (ps_for PassesOwn.never rfl (pi_keys (pv 2)) (pg_name (i := 7) sc_law.nd rfl (.inl rfl)) (pss_one (ps_for PassesOwn.never rfl (pi_keys (pv 2)) (pg_name (i := 8) sc_law.nd rfl (.inl rfl)) (pss_one (ps_if (pt_not (pt_val (pe_cal c_law_goes (hr.mono (by decide)) (pa_cons (pv 2) (pa_cons (pv 7) (pa_cons (pv 8) (pa_cons (pe_op op_add pe_int (pe_cal c_law_next (hr.mono (by decide)) (pa_cons (pv 1) (pa_cons pe_int pa_nil)))) pa_nil))))))) (pss_one (ps_ret pe_bl)) pss_nil))))))
    (pss_one (ps_ret (pe_cal c_law_emptied hr (pa_cons (pv 4) (pa_cons (pv 3) (pa_cons (pv 1) pa_nil))))))))))))), ?_⟩
    refine ⟨_, rfl, a, ns, 0, rfl, ha, fun c0 => ⟨c0, 0, rfl, fun S H1 e1 nS hS1 => ?_⟩⟩
    refine ⟨_, rfl, S, rfl, hS1, fun d tv H2 s2 nd hP okt => ?_⟩
    obtain ⟨tb, etv, htd, hti⟩ := hP
    have nd' : H1 d = none := nd
    have Sd : d ≠ S := fun z => by obtain ⟨x, y, w, h⟩ := hS1; rw [z, h] at nd; cases nd
    refine fun m hm => ?_
    have e3 := Ex.new (o := .dK []) hm
    have mS : m ≠ S := fun z => by obtain ⟨x, y, w, h⟩ := s2.2; rw [z, h] at hm; cases hm
    refine ⟨_, rfl, _, rfl, S, 4, rfl, s2.2.ex e3, by decide, by decide, fun o H4 o0 o1 s4 => ?_⟩
    have hm4 := s4.1 _ _ upd_same mS
    refine fun PU hPU => ⟨Nat.zero_le _, fun TU hTU => ?_⟩
    have e5 := Ex.new (o := .dK []) hPU
    have e6 := Ex.new (o := .lst []) hTU
    have hm6 := (e5.trans e6) _ _ hm4
    refine ⟨hm6, [(Sum.inr "table", .ref d), (Sum.inr "oldest", .int o), (Sum.inr "put", .ref PU), (Sum.inr "turned", .ref TU), (Sum.inr "time", .int 0)], rfl, by show 5 ≤ 15; decide, ?_⟩
    have dS := Sd
    have PUm : PU ≠ m := fun z => by rw [z, hm4] at hPU; cases hPU
    have PUS : PU ≠ S := fun z => by obtain ⟨x, y, w, h⟩ := s4.2; rw [z, h] at hPU; cases hPU
    have TUm : TU ≠ m := fun z => by rw [z, e5 _ _ hm4] at hTU; cases hTU
    have TUS : TU ≠ S := fun z => by obtain ⟨x, y, w, h⟩ := s4.2; rw [z, e5 _ _ h] at hTU; cases hTU
    have TUPU : PU ≠ TU := fun z => by rw [← z, upd_same] at hTU; cases hTU
    have st7 : StR (upd (upd (upd H4 PU (.dK [])) TU (.lst [])) m (.dK (mergeK [] [(Sum.inr "table", .ref d), (Sum.inr "oldest", .int o), (Sum.inr "put", .ref PU), (Sum.inr "turned", .ref TU), (Sum.inr "time", .int 0)]))) S := by
      obtain ⟨x, y, w, h⟩ := s4.2
      exact ⟨x, y, w, by rw [upd_ne mS.symm]; exact (e5.trans e6) _ _ h⟩
    refine ⟨_, rfl, S, 65536, rfl, st7, by decide, by decide, fun off H8 f0 f1 s8 => ?_⟩
    have hm8 : H8 m = some (.dK (mergeK [] [(Sum.inr "table", .ref d), (Sum.inr "oldest", .int o), (Sum.inr "put", .ref PU), (Sum.inr "turned", .ref TU), (Sum.inr "time", .int 0)])) := s8.1 _ _ upd_same mS
    have hput : DPut H8 m (.str "off") (.int off) (upd H8 m (.dK (mK ⟨m, d, PU, TU, tv, o, off⟩ 0))) := DPut.k (k := Sum.inr "off") hm8 (by show 5 < sizeLine; decide)
    refine ⟨_, rfl, m, _, rfl, hput, ?_⟩
    generalize hC : (⟨m, d, PU, TU, tv, o, off⟩ : LC) = C
    have Cm : C.m = m := by rw [← hC]
    have Cd : C.d = d := by rw [← hC]
    have CPU : C.PU = PU := by rw [← hC]
    have CTU : C.TU = TU := by rw [← hC]
    have Ctv : C.tv = tv := by rw [← hC]
    have Co : C.oldest = o := by rw [← hC]
    have keep : ∀ b u, H2 b = some u → b ≠ S → (upd H8 m (.dK (mK C 0))) b = some u ∧ b ≠ m ∧ b ≠ PU ∧ b ≠ TU := fun b u hb bS => by
      have b1 : b ≠ m := ne_of_none hb hm
      have h4 := s4.1 _ _ (e3 _ _ hb) bS
      have b2 : b ≠ PU := ne_of_none h4 hPU
      have b3 : b ≠ TU := ne_of_none (e5 _ _ h4) hTU
      refine ⟨?_, b1, b2, b3⟩
      rw [upd_ne b1]
      refine s8.1 _ _ ?_ bS
      rw [upd_ne b1]
      exact (e5.trans e6) _ _ h4
    have hd9 := keep _ _ htd Sd
    have hi9 : ∀ t ∈ tb, _ := fun t ht => keep _ _ (hti t ht) (s2.2.nok (hti t ht) trivial)
    have hPU9 : (upd H8 m (.dK (mK C 0))) PU = some (.dK []) := by
      rw [upd_ne PUm]
      refine s8.1 _ _ ?_ PUS
      rw [upd_ne PUm]
      exact e6 _ _ upd_same
    have hTU9 : (upd H8 m (.dK (mK C 0))) TU = some (.lst []) := by
      rw [upd_ne TUm]
      refine s8.1 _ _ ?_ TUS
      rw [upd_ne TUm]
      exact upd_same
    have lo9 : LO (upd H8 m (.dK (mK C 0))) C [] [] 0 := by
      refine ⟨by rw [Cm, upd_same], ⟨tb, by rw [Ctv]; exact etv, by rw [Cd]; exact hd9.1, by rw [Cd, Cm, CPU]; exact ⟨hd9.2.1, hd9.2.2.1⟩, fun t ht => ⟨(hi9 t ht).1, by rw [Cm, CPU]; exact ⟨(hi9 t ht).2.1, (hi9 t ht).2.2.1⟩⟩⟩, by rw [CPU]; exact hPU9, (fun e he => nomatch he), by rw [CTU]; exact hTU9, (fun e he => nomatch he), by rw [Cm, CPU]; exact PUm.symm⟩
    have st9 : StR (upd H8 m (.dK (mK C 0))) S := by
      obtain ⟨x, y, w, h⟩ := s8.2
      exact ⟨x, y, w, by rw [upd_ne mS.symm]; exact h⟩
    have ha9 : SqL K (upd H8 m (.dK (mK C 0))) a (ns.map V.int) := by
      have k9 : ∀ u, H a = some u → (upd H8 m (.dK (mK C 0))) a = some u := fun u hu => by
        have aS : a ≠ S := ne_of_none hu nS
        exact (keep _ _ (s2.1 _ _ (e1 _ _ hu) aS) aS).1
      rcases ha with (h | ⟨o, h⟩) | h
      · exact .inl (.inl (k9 _ h))
      · exact .inl (.inr ⟨o, k9 _ h⟩)
      · exact .inr h
    clear hput hC
    generalize upd H8 m (.dK (mK C 0)) = H9 at *
    clear hm8 keep
    subst Cm Cd CPU CTU Ctv Co
    refine ⟨C.d, _, hd9.1, trivial, fun od => ?_⟩
    have dm := hd9.2.1
    have mdL : (upd H9 C.d (.frz od (.dK (tout tb)))) C.m = some (.dK (mK C 0)) := by
      rw [upd_ne dm.symm]
      exact lo9.md
    have puL : (upd H9 C.d (.frz od (.dK (tout tb)))) C.PU = some (.dK []) := by
      rw [upd_ne hd9.2.2.1.symm]
      exact hPU9
    have hdL : (upd H9 C.d (.frz od (.dK (tout tb)))) C.d = some (.frz od (.dK (tout tb))) := upd_same
    have hzL : TabZ (upd H9 C.d (.frz od (.dK (tout tb)))) C.d C.tv := tab_lock okt.pos etv hd9.1 (fun t ht => (hi9 t ht).1) od
    refine ⟨_, rfl, _, rfl, C.m, _, rfl, K54.mg mdL mv_oldest, fun x dx nx ndx ne => ?_⟩
    have nx' : (upd (upd H9 C.d (.frz od (.dK (tout tb)))) dx (.own x)) x = none := by rw [upd_ne ne.symm]; exact nx
    have e0 : Ex (upd H9 C.d (.frz od (.dK (tout tb)))) (upd (upd (upd H9 C.d (.frz od (.dK (tout tb)))) dx (.own x)) x (.ins (He.ga K "Net") dx [])) := (Ex.new ndx).trans (Ex.new nx')
    refine ⟨x, dx, C.d, C.oldest, C.tv, rfl, upd_same, hzL.ex e0, okt, o0, fun H10 n ep etv' eo hT hn hok hown hwap fr => ⟨rfl, ?_⟩⟩
    subst ep
    have eL : Ex (upd H9 C.d (.frz od (.dK (tout tb)))) H10 := made_ex nx ndx fr
    have hf10 := eL _ _ hdL
    refine ⟨hf10, ?_⟩
    have eU : Ex H9 (upd H10 C.d (.dK (tout tb))) := ex_unlock hd9.1 eL
    have own9 : ∀ b, own n b → H9 b = none := fun b o => by
      have z := fresh_back e0 (hown b o)
      by_cases y : b = C.d
      · rw [y, hdL] at z; cases z
      · rw [upd_ne y] at z; exact z
    have some0 : ∀ b u, (upd H9 C.d (.frz od (.dK (tout tb)))) b = some u → (upd (upd (upd H9 C.d (.frz od (.dK (tout tb)))) dx (.own n.p)) n.p (.ins (He.ga K "Net") dx [])) b ≠ none := fun b u hb z => by
      rw [e0 _ _ hb] at z
      cases z
    have tot0 : tot n = 0 := tot_AB (nx := fun x => nxt C.tv x 0) (t := 0) (p := 0) (f := ⟨0, 0, 0, 0, 0, 0, false, []⟩) (L := 0) (k := 0) hok fun k _ => hT k
    have hL11 : LR K (upd H10 C.d (.dK (tout tb))) n C [] [] 0 :=
      ⟨hn.updF hf10 (hwap.mono fun b z => by rw [z]; exact some0 _ _ hdL), lo9.frame (fun b u hb _ => eU _ _ hb) (fun u hu => eU _ _ hu),
        (hwap.updK (some0 _ _ hdL)).mono fun b z => by
          rcases z with z | z
          · rw [z]; exact some0 _ _ mdL
          · rw [z]; exact some0 _ _ puL, fun o => by rw [own9 _ o] at hTU9; cases hTU9⟩
    have hI11 : Inv n C [] [] 0 0 := ⟨hok, etv', eo, by omega, (fun i e hi => by simp at hi), (fun e he => nomatch he), (fun k hk t ht => by rw [hT k] at ht; cases ht), ⟨Nat.le_refl _, Nat.le_refl _, by omega⟩, (fun e he => nomatch he)⟩
    have hS11 : SOk (upd H10 C.d (.dK (tout tb))) n C S := by
      obtain ⟨x, y, w, h⟩ := st9
      exact ⟨⟨x, y, w, eU _ _ h⟩, (fun o => by rw [own9 _ o] at h; cases h), TUS.symm⟩
    have ha11 : SqL K (upd H10 C.d (.dK (tout tb))) a (ns.map V.int) := by
      rcases ha9 with (h | ⟨o, h⟩) | h
      · exact .inl (.inl (eU _ _ h))
      · exact .inl (.inr ⟨o, eU _ _ h⟩)
      · exact .inr h
    obtain ⟨cs, ecs, hcs⟩ := cut_ivs ns hn63
    refine ⟨_, rfl, _, rfl, _, rfl, a, _, rfl, ha11, fun sl hsl => ⟨sl, _, rfl, SqL.of upd_same, ?_⟩⟩
    rw [ecs]
    have e12 := Ex.new (o := .lst (ivs cs)) hsl
    have nsl : ¬ own n sl := fun o => by
      rcases hL11.net.kind o with ⟨_, z⟩ | ⟨_, z⟩ | ⟨_, _, z⟩ <;> rw [hsl] at z <;> cases z
    have slT : sl ≠ C.TU := fun z => by rw [z, hL11.lo.tu] at hsl; cases hsl
    have slS : sl ≠ S := fun z => by obtain ⟨x, y, w, h⟩ := hS11.st; rw [z, h] at hsl; cases hsl
    refine for_enum (K := K) (a := sl) (xs := ivs cs) (fun i σ H' => ∃ n' put turned time, LR K H' n' C put turned time ∧ Inv n' C put turned time i ∧ SOk H' n' C S ∧ H' sl = some (.lst (ivs cs)) ∧ ¬ own n' sl ∧ ∃ v5 v6 v7 v8, σ = [some (.ref a), some (.ref S), some (.ref C.d), some (.ref C.m), some (.ref n'.p), v5, v6, v7, v8])
      ⟨n, [], [], 0, hL11.ex e12, hI11, hS11.ex e12, upd_same, nsl, none, none, none, none, rfl⟩ (fun i σ H' _ hh => ?_) ?_ ?_
    · obtain ⟨n', put, turned, time, _, _, _, h4, _⟩ := hh
      exact SqL.of h4
    · rintro i z T' σ H13 hx hT' ⟨n', put, turned, time, hL13, hI13, hS13, hsl13, nsl13, v5, v6, v7, v8, rfl⟩
      obtain ⟨c, hc, rfl⟩ := ivs_get hx
      have hilt := (List.getElem?_eq_some_iff.mp hc).1
      have e14 := Ex.new (o := .tup [.int (i : Nat), .int c]) hT'
      refine ⟨T', _, rfl, SqT.of upd_same, rfl, _, _, rfl, _, _, rfl, rfl, ?_⟩
      refine ⟨_, rfl, _, rfl, _, rfl, _, rfl, _, _, rfl, rfl, c, _, rfl, fun Sd H15 e15 nSd hSd => ?_⟩
      have eA := e14.trans e15
      have hL15 := hL13.ex eA
      have few := hI13.few
      have nSd13 : H13 Sd = none := fresh_back e14 nSd
      have ownSd : ¬ own n' Sd := fun o => by
        rcases hL13.net.kind o with ⟨_, z⟩ | ⟨_, z⟩ | ⟨_, _, z⟩ <;> rw [nSd13] at z <;> cases z
      have SdT : Sd ≠ C.TU := fun z => by rw [z, hL13.lo.tu] at nSd13; cases nSd13
      have slSd : sl ≠ Sd := fun z => by rw [← z, hsl13] at nSd13; cases nSd13
      have SSd : S ≠ Sd := fun z => by obtain ⟨x, y, w, h⟩ := hS13.st; rw [← z, h] at nSd13; cases nSd13
      refine ⟨n', C, put, turned, time, i, Sd, rfl, hL15, hI13, by omega, ⟨hSd, ownSd, SdT⟩, fun H16 n2 put2 turned2 time2 e a1 a2 a3 a4 => ⟨true, rfl, iteF ?_⟩⟩
      refine ⟨_, rfl, _, rfl, n2, C, put2, turned2, time2, i + 1, by rw [e]; rfl, a1, a2, by omega, fun H17 e17 => ⟨true, rfl, iteF ?_⟩⟩
      have outL : ∀ b xs, H15 b = some (.lst xs) → ¬ own n' b → b ≠ C.TU → b ≠ Sd → ¬ LF C Sd n' b := fun b xs hb h1 h2 h3 z => by
        rcases z with z | z | z | z | z
        · exact h1 z
        · rw [z, hL15.lo.md] at hb; cases hb
        · rw [z, hL15.lo.pu] at hb; cases hb
        · exact h2 z
        · exact h3 z
      have hsl15 := eA _ _ hsl13
      have osl := outL _ _ hsl15 nsl13 slT slSd
      have hsl16 := a4.keep hsl15 osl
      have nsl16 : ¬ own n2 sl := fun o => a4.out hsl15 osl (.inl o)
      have hS16 : SOk H16 n2 C S := by
        obtain ⟨⟨x, y, w, h⟩, o1, o2⟩ := hS13.ex eA
        have oS := outL _ _ h o1 o2 SSd
        exact ⟨⟨x, y, w, a4.keep h oS⟩, fun o => a4.out h oS (.inl o), o2⟩
      exact ⟨n2, put2, turned2, time2, a1.ex e17, a2, hS16.ex e17, e17 _ _ hsl16, nsl16, _, _, _, _, by rw [e]; rfl⟩
    · rintro σ H13 ⟨n', put, turned, time, hL13, hI13, hS13, hsl13, nsl13, v5, v6, v7, v8, rfl⟩
      rw [ivs_len] at hI13
      have okt' : TvOk C.tv := okt
      obtain ⟨tb', etv2, hd13, ned, hi13⟩ := hL13.lo.tab
      refine ⟨C.d, _, hd13, trivial, fun od2 => ?_⟩
      have hdL2 : (upd H13 C.d (.frz od2 (.dK (tout tb')))) C.d = some (.frz od2 (.dK (tout tb'))) := upd_same
      have hzL2 : TabZ (upd H13 C.d (.frz od2 (.dK (tout tb')))) C.d C.tv := tab_lock okt.pos etv2 hd13 (fun t ht => (hi13 t ht).1) od2
      have dS2 : C.d ≠ S := hS13.st.nok hd13 trivial
      have stL2 : StR (upd H13 C.d (.frz od2 (.dK (tout tb')))) S := by
        obtain ⟨x, y, w, h⟩ := hS13.st
        exact ⟨x, y, w, by rw [upd_ne dS2.symm]; exact h⟩
      have plm : ∀ i k v, (tout tb')[i]? = some (k, v) → ∃ p : Int, k = Sum.inl p ∧ p ∈ plcs C.tv := fun i k v h => by
        obtain ⟨e, he, e1, e2⟩ := tout_get h
        refine ⟨e.1, e1, ?_⟩
        rw [← etv2, plcs_view]
        exact List.mem_map_of_mem (List.mem_of_getElem? he)
      have stay : ∀ H', StS S (upd H13 C.d (.frz od2 (.dK (tout tb')))) H' → H' C.d = some (.frz od2 (.dK (tout tb'))) := fun H' h => h.1 _ _ hdL2 dS2
      have tabs : ∀ H', StS S (upd H13 C.d (.frz od2 (.dK (tout tb')))) H' → TabZ H' C.d C.tv := fun H' h => hzL2.fr fun b o hb hk => h.1 _ _ hb (stL2.nok hb hk)
      refine ⟨_, rfl, C.d, od2, rfl, .inl ⟨_, upd_same, for_keys (fun i σ H' => StS S (upd H13 C.d (.frz od2 (.dK (tout tb')))) H' ∧ ∃ v5 v6 v7 v8, σ = [some (.ref a), some (.ref S), some (.ref C.d), some (.ref C.m), some (.ref n'.p), v5, v6, v7, v8]) ⟨StS.of_ex (Ex.refl _) stL2, _, _, _, _, rfl⟩ (fun i σ H' _ hh => stay _ hh.1) ?_ ?_⟩⟩
      · rintro i k v σ H14 hkv ⟨s14, v5, v6, v7, v8, rfl⟩
        obtain ⟨p, rfl, hp⟩ := plm i k v hkv
        refine ⟨_, rfl, C.d, od2, rfl, .inl ⟨_, stay _ s14, for_keys (fun i σ H' => StS S (upd H13 C.d (.frz od2 (.dK (tout tb')))) H' ∧ ∃ v5 v6 v8, σ = [some (.ref a), some (.ref S), some (.ref C.d), some (.ref C.m), some (.ref n'.p), v5, v6, some (.int p), v8]) ⟨s14, _, _, _, rfl⟩ (fun i σ H' _ hh => stay _ hh.1) ?_ ?_⟩⟩
        · rintro j k2 w2 σ H15 hkv2 ⟨s15, v5, v6, v8, rfl⟩
          obtain ⟨t, rfl, ht⟩ := plm j k2 w2 hkv2
          refine ⟨_, rfl, _, rfl, _, rfl, _, rfl, S, 9, rfl, s15.2, by decide, by decide, fun r H16 r0 r1 s16 => ⟨_, _, rfl, rfl, C.d, p, t, 1 + r, C.tv, rfl, tabs _ (s15.trans s16), okt', hp, ht, by omega, by omega, fun H17 e17 => ⟨true, rfl, iteF ⟨(s15.trans s16).ex e17, _, _, _, rfl⟩⟩⟩⟩
        · rintro σ H15 ⟨s15, v5, v6, v8, rfl⟩
          exact ⟨s15, _, _, _, _, rfl⟩
      · rintro σ H14 ⟨s14, v5, v6, v7, v8, rfl⟩
        refine ⟨stay _ s14, ?_⟩
        have sF : StS S H13 (upd H14 C.d (.dK (tout tb'))) := by
          refine ⟨fun b u hb hne => ?_, ?_⟩
          · by_cases y : b = C.d
            · rw [y, upd_same, ← hd13, ← y, hb]
            · rw [upd_ne y]
              exact s14.1 b u (by rw [upd_ne y]; exact hb) hne
          · obtain ⟨x, y, w, h⟩ := s14.2
            exact ⟨x, y, w, by rw [upd_ne dS2.symm]; exact h⟩
        exact ⟨_, rfl, _, rfl, _, rfl, n', C, put, turned, time, cs.length, S, rfl, hL13.st hS13 sF, hI13, hcs, hS13.st' sF, q⟩
end
end K54

set_option Elab.async false
set_option linter.all false
set_option maxRecDepth 100000
set_option maxHeartbeats 1000000
/-! All defs together. -/
namespace K54
open PySem PySem.Spec PyProof.Rows L2
section
variable {P : Program} {w : World} {K : PySem.W.Frag} {mg : Str → Option Value} {base : Heap}
theorem law_fn (T : TX K mg) {fd : FuncData} (F : FunD K "law" "law" (defArgs s_law) (defBody s_law) (defScope s_law) [] [] (He.fAd K ("law", none)) fd) : FnOk P w K mg base CX0 12 (He.fAd K ("law", none)) fd ["_law_script"] (sp_law K) := by
  have c_is_whole : Cal P w K mg base "is_whole" 1 (sp_is_whole K) := cal_is_whole T
  have c_is_bits : Cal P w K mg base "is_bits" 2 (sp_is_bits K) := cal_is_bits T c_is_whole
  have c_spread : Cal P w K mg base "spread" 1 (sp_spread K) := cal_spread T
  have c_gathered : Cal P w K mg base "gathered" 1 (sp_gathered K) := cal_gathered T
  have c_bits_by : Cal P w K mg base "bits_by" 2 (sp_bits_by K) := cal_bits_by T c_spread
  have c_number_of : Cal P w K mg base "number_of" 3 (sp_number_of K) := cal_number_of T c_gathered c_is_bits
  have c_need_code : Cal P w K mg base "need_code" 1 (sp_need_code K) := cal_need_code T
  have c_width : Cal P w K mg base "width" 2 (sp_width K) := cal_width T c_need_code
  have c_divided : Cal P w K mg base "divided" 1 (sp_divided K) := cal_divided T
  have c_number_by : Cal P w K mg base "number_by" 4 (sp_number_by K) := cal_number_by T c_number_of c_is_bits
  have c_coded : Cal P w K mg base "coded" 5 (sp_coded K) := cal_coded T c_need_code c_width c_bits_by c_divided c_number_by
  have c_is_right : Cal P w K mg base "is_right" 5 (sp_is_right K) := cal_is_right T c_need_code c_divided c_number_by
  have c_is_number_packets : Cal P w K mg base "is_number_packets" 1 (sp_is_number_packets K) := cal_is_number_packets T
  have c_are_bytes : Cal P w K mg base "are_bytes" 2 (sp_are_bytes K) := cal_are_bytes T c_is_number_packets
  have c_two : Cal P w K mg base "two" 1 (sp_two K) := cal_two T
  have c_of_two : Cal P w K mg base "of_two" 1 (sp_of_two K) := cal_of_two T
  have c_sum_of : Cal P w K mg base "sum_of" 2 (sp_sum_of K) := cal_sum_of T c_of_two
  have c_Packet_init : NCal P w K mg base "Packet" 3 (sp_Packet_init K) := cal_Packet_init T c_are_bytes c_is_number_packets
  have c_Packet_told : MCal P w K mg base "Packet" "told" 1 (sp_Packet_told K) := cal_Packet_told T
  have c_packet_bytes : Cal P w K mg base "packet_bytes" 3 (sp_packet_bytes K) := cal_packet_bytes T c_two c_sum_of
  have c_packet_by : Cal P w K mg base "packet_by" 5 (sp_packet_by K) := cal_packet_by T c_Packet_init c_of_two c_sum_of c_are_bytes
  have c_is_place : Cal P w K mg base "is_place" 1 (sp_is_place K) := cal_is_place T
  have c_is_other : Cal P w K mg base "is_other" 2 (sp_is_other K) := cal_is_other T c_is_place
  have c_are_ways : Cal P w K mg base "are_ways" 3 (sp_are_ways K) := cal_are_ways T c_is_other
  have c_need_table : Cal P w K mg base "need_table" 4 (sp_need_table K) := cal_need_table T c_are_ways c_is_place
  have c_led : Cal P w K mg base "led" 1 (sp_led K) := cal_led T
  have c_way : Cal P w K mg base "way" 5 (sp_way K) := cal_way T c_need_table c_led c_is_place
  have c_is_number_nets : Cal P w K mg base "is_number_nets" 1 (sp_is_number_nets K) := cal_is_number_nets T
  have c_coded_row : Cal P w K mg base "coded_row" 6 (sp_coded_row K) := cal_coded_row T c_coded c_bits_by
  have c_Thing_init : NCal P w K mg base "Thing" 1 (sp_Thing_init K) := cal_Thing_init T
  have c_Thing_row_bits : MCal P w K mg base "Thing" "row_bits" 7 (sp_Thing_row_bits K) := cal_Thing_row_bits T c_coded_row
  have c_Thing_how_many : MCal P w K mg base "Thing" "how_many" 3 (sp_Thing_how_many K) := cal_Thing_how_many T c_width
  have c_Thing_read_packet : MCal P w K mg base "Thing" "read_packet" 8 (sp_Thing_read_packet K) := cal_Thing_read_packet T c_Thing_row_bits c_packet_by c_is_right c_width
  have c_Net_init : NCal P w K mg base "Net" 5 (sp_Net_init K) := cal_Net_init T c_need_table c_width
  have c_Net_road : MCal P w K mg base "Net" "road" 2 (sp_Net_road K) := cal_Net_road T c_is_number_nets
  have c_Net_thing : MCal P w K mg base "Net" "thing" 3 (sp_Net_thing K) := cal_Net_thing T c_Net_road c_is_number_nets
  have c_Net_put : MCal P w K mg base "Net" "put" 4 (sp_Net_put K) := cal_Net_put T c_is_number_nets c_Thing_init c_packet_bytes
  have c_Net_bring : MCal P w K mg base "Net" "bring" 9 (sp_Net_bring K) := cal_Net_bring T c_Thing_read_packet c_Packet_told c_Net_put c_Net_thing c_Net_road c_Packet_init
  have c_Net_lose : MCal P w K mg base "Net" "lose" 4 (sp_Net_lose K) := cal_Net_lose T c_Net_thing c_Net_road
  have c_Net_double : MCal P w K mg base "Net" "double" 4 (sp_Net_double K) := cal_Net_double T c_Net_thing c_Thing_init c_Net_road
  have c_Net_turn : MCal P w K mg base "Net" "turn" 4 (sp_Net_turn K) := cal_Net_turn T c_Net_thing c_is_number_nets c_Thing_how_many
  have c_Net_age : MCal P w K mg base "Net" "age" 1 (sp_Net_age K) := cal_Net_age T
  have c_Net_lying : MCal P w K mg base "Net" "lying" 1 (sp_Net_lying K) := cal_Net_lying T
  have c_Net_things : MCal P w K mg base "Net" "things" 8 (sp_Net_things K) := cal_Net_things T c_Thing_row_bits c_Net_road
  have c_law_cell_at : Cal P w K mg base "_law_cell_at" 1 (sp_law_cell_at K) := cal_law_cell_at T
  have c_law_state : Cal P w K mg base "_law_state" 1 (sp_law_state K) := cal_law_state T
  have c_law_next : Cal P w K mg base "_law_next" 1 (sp_law_next K) := cal_law_next T
  have c_law_places : Cal P w K mg base "_law_places" 2 (sp_law_places K) := cal_law_places T c_law_next
  have c_law_table : Cal P w K mg base "_law_table" 3 (sp_law_table K) := cal_law_table T c_law_places c_law_next
  have c_law_walked : Cal P w K mg base "_law_walked" 1 (sp_law_walked K) := cal_law_walked T
  have c_law_way : Cal P w K mg base "_law_way" 2 (sp_law_way K) := cal_law_way T c_law_walked
  have c_law_fields : Cal P w K mg base "_law_fields" 1 (sp_law_fields K) := cal_law_fields T
  have c_law_put : Cal P w K mg base "_law_put" 9 (sp_law_put K) := cal_law_put T c_Net_put c_Net_things c_law_next c_Packet_init c_law_fields
  have c_law_thing : Cal P w K mg base "_law_thing" 9 (sp_law_thing K) := cal_law_thing T c_Net_lying c_law_next c_Net_things
  have c_law_like : Cal P w K mg base "_law_like" 1 (sp_law_like K) := cal_law_like T
  have c_law_brought : Cal P w K mg base "_law_brought" 10 (sp_law_brought K) := cal_law_brought T c_Net_bring c_Packet_told c_law_like
  have c_law_lies_right : Cal P w K mg base "_law_lies_right" 9 (sp_law_lies_right K) := cal_law_lies_right T c_Net_lying c_Net_things c_law_fields c_law_like
  have c_law_turned : Cal P w K mg base "_law_turned" 9 (sp_law_turned K) := cal_law_turned T c_Net_turn c_law_next c_Net_things
  have c_law_deed : Cal P w K mg base "_law_deed" 11 (sp_law_deed K) := cal_law_deed T c_law_next c_law_thing c_law_put c_Net_age c_Net_lose c_Net_double c_law_turned c_law_brought
  have c_law_emptied : Cal P w K mg base "_law_emptied" 11 (sp_law_emptied K) := cal_law_emptied T c_Net_age c_Net_lying c_law_next c_law_thing c_law_lies_right c_law_brought
  have c_law_goes : Cal P w K mg base "_law_goes" 10 (sp_law_goes K) := cal_law_goes T c_Net_init c_Net_put c_way c_Packet_init c_Net_lying c_Net_bring c_law_way c_Packet_told
  exact ok_law T c_law_state c_law_table c_law_next c_Net_init c_law_emptied c_law_cell_at c_law_deed c_law_lies_right c_law_goes F
end
end K54

set_option Elab.async false
set_option linter.all false
set_option maxRecDepth 100000
set_option maxHeartbeats 0
namespace K54
open PySem PySem.Spec PyProof.Rows L2
/-! ### the head: the top by one kernel run -/
abbrev RR : PySem.W.OpenRow := PySem.W.OpenLaw.row RW
abbrev hk : PySem.W.Hook := He.hookD 5 fa fn
def ob (s : PySem.W.SharedT) : He.AlD := He.obsDG 5 fa fn (HandSHeadRun.getT s)
theorem ob_eq (s : PySem.W.SharedT) : ob s = hk.obs s.abs := He.obsDG_eq (HandSHeadRun.getT_eq s)
def names0 : List Str := ["WireError", "NoBits", "NoNumber", "NoCode", "NoPacket", "NoTable", "NoPlace", "is_whole", "is_bits", "spread", "gathered", "bits_by", "number_of", "LEAST", "GREATEST", "need_code", "width", "divided"]
def names1 : List Str := ["number_by", "coded", "is_right", "MOST_BYTE_packets", "MOST_WORD", "MOST_TOGETHER", "HEAD", "MORE_AT", "NOUGHT_AT", "MANY_AT", "SUM_AT", "is_number", "is_number_packets", "are_bytes", "two", "of_two", "sum_of", "Packet"]
def names2 : List Str := ["packet_bytes", "packet_by", "MOST_PLACES", "MOST_BYTE_tables", "is_place", "is_other", "are_ways", "need_table", "led", "way", "BYTE", "MOST_TURNED", "is_number_nets", "coded_row", "row_by", "Thing", "Net", "_law_cell_at"]
def names3 : List Str := ["_law_state", "_law_next", "_law_places", "_law_table", "_law_walked", "_law_way", "_law_fields", "_law_put", "_law_thing", "_law_like", "_law_brought", "_law_lies_right", "_law_turned", "_law_deed", "_law_emptied", "_law_goes"]
def names : List Str := names0 ++ (names1 ++ (names2 ++ (names3)))
theorem run (w : World) : HandSHeadRun.RunEq RR (PySem.W.view RR.prog [78]) hk ob 12000 names w := by
  intro os
  kernel_rfl
end K54

set_option Elab.async false
set_option linter.all false
set_option maxRecDepth 100000
set_option maxHeartbeats 0
open PySem PySem.W PySem.Calls PyProof.Rows
theorem endT (HF : ∀ (P : Program) (w : World) (K : PySem.W.Frag) (mg : PySem.Str → Option Value) (base : Heap) (fd : FuncData), K54.TX K mg → L2.FunD K "law" "law" (L2.defArgs K54.s_law) (L2.defBody K54.s_law) (L2.defScope K54.s_law) [] [] (He.fAd K ("law", none)) fd →
    L2.FnOk P w K mg base L2.CX0 12 (He.fAd K ("law", none)) fd ["_law_script"] (K54.sp_law K)) : PySem.Challenge.rw_surewire_k54_whole_nothing_lies_longer.Holds := by
  w_on; o_law
  refine HandSHeadRun.head_any (r := K54.RR) (q := view K54.RR.prog [78]) (H := K54.hk) (ob := K54.ob) (M := 12000) (loose := K54.names) (d := HandSHeadRun.topDef K54.RR.prog 78) (kwd := []) K54.ob_eq
    (by kernel_rfl) (fun s => by kernel_rfl) K54.run (by kernel_rfl) (by kernel_rfl) (by kernel_rfl) (by rfl) (by first | assumption | decide +kernel) (by decide +kernel) ⟨rfl, rfl, rfl, rfl, rfl, by decide +kernel⟩ ?hw ?hc
  case hw => w_witness2
  case hc =>
    refine L2.walk_ofE (l := K54.RW) (n := 63) (k := 12) (x := "_law_script") (CX := L2.CX0) rfl (by decide) (by kernel_rfl) ⟨rfl, by decide, by decide⟩ ?F (fun _ _ _ _ z => z)
    intro w mg fa h Y G hmg0
    obtain ⟨K, KX, c⟩ := Y
    have hmg : mg ("law" : PySem.Str) = some (.ref fa) := by
      have e : (HandSHeadRun.topDef K54.RR.prog 78).name = ("law" : PySem.Str) := by kernel_rfl
      rw [← e]
      exact hmg0
    have T : K54.TX K mg := ⟨⟨h, KX, G⟩, c⟩
    obtain ⟨fd, F⟩ := T.df_law
    have e := hmg.symm.trans T.g_law
    cases e
    have b := L2.FunD.bindsA (ps := ["_law_script"]) F fun _ _ _ _ _ _ us hl => match us, hl with | [_], _ => rfl
    exact ⟨K, fd, K54.sp_law K, KX, fun s v => b s [v] rfl, fun H a ns hl _ hS => ⟨a, ns, rfl, hS, hl, fun _ => rfl⟩, fun base _ _ => HF _ _ _ _ _ _ T F⟩
theorem PySem.Challenge.cw_surewire_k54_whole_nothing_lies_longer_holds : PySem.Challenge.rw_surewire_k54_whole_nothing_lies_longer.Holds := by
  exact endT fun P w K mg base fd T F => K54.law_fn T F
