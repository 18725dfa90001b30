import PyProof.Rows.All
import Wide.All
import OpenK.AllK
import Wide.FinOn
import HandS.Base
import HandS.Call
import HandS.Words
import HandS.WordsExc
import HandS.Ends
import HandS.More
import PySem.Challenge.RW_eighthturns_k09_whole_idle_stretches
import HandS.Head0
import HandS.Head1
import HandS.Head2
import HandS.HeadEnd
import HandS.HeadHook1
import HandS.HeadHook2
import HandS.HeadHook3
import HandS.HeadHook4
import KE.KStateDown
import KE.KExcInit
import HandS.ForMost
import HandS.ForExc
import HandS.Evl
import HandS.Walk
import HandS.IsInst
import HandS.TupAny
import HandS.TupMul
import HandS.Style
import HandS.Deep
import HandS.NoneIn
import HandS.Conv
import HandS.Zip
import HandS.Flow
import KE.KDictKeyed
import HandS.SortInts
import HandS.TryOnly
import HandS.ExcOwn
set_option Elab.async false
set_option linter.all false
set_option maxRecDepth 100000
set_option maxHeartbeats 0
/-! TX: the text by places, the scopes. -/
namespace DD
open PySem PySem.Spec L2
open PyProof.Rows hiding St
def topS (i : Nat) : Stmt := PySem.Challenge.pw_eighthturns_k09_whole_idle_stretches.main.body.getD i (.Pass ⟨0, 0, 0, 0⟩)
abbrev s_tupled : Stmt := topS 6
abbrev s_is_number : Stmt := topS 7
abbrev s_is_count : Stmt := topS 8
abbrev s_is_below : Stmt := topS 9
abbrev s_is_tuple_of : Stmt := topS 10
abbrev s_put_at : Stmt := topS 11
abbrev s_shortened : Stmt := topS 13
abbrev s_times_root : Stmt := topS 14
abbrev s_ray_sum : Stmt := topS 15
abbrev s_turned_ray : Stmt := topS 16
abbrev s_over_root : Stmt := topS 17
abbrev s_sure_deeds : Stmt := topS 27
abbrev s_led_by : Stmt := topS 28
abbrev s_led_by_all : Stmt := topS 29
abbrev s_deeds_done : Stmt := topS 30
abbrev s_lone_state : Stmt := topS 31
abbrev s_lone_states : Stmt := topS 32
abbrev s_columns_by : Stmt := topS 33
abbrev s_bit_of : Stmt := topS 34
abbrev s_has_all : Stmt := topS 35
abbrev s_sure_gate : Stmt := topS 36
abbrev s_turns_by : Stmt := topS 37
abbrev s_pairs_by : Stmt := topS 38
abbrev s_deeds_of_gate : Stmt := topS 39
abbrev s_deeds_of_circuit : Stmt := topS 40
abbrev s_plain_deeds : Stmt := topS 41
abbrev s_columns_behind : Stmt := topS 42
abbrev s_first_idle : Stmt := topS 43
abbrev s_is_idle_stretch : Stmt := topS 44
abbrev s_without_idle : Stmt := topS 45
abbrev s_columns_of_both : Stmt := topS 46
abbrev s_parting_start : Stmt := topS 47
abbrev s_sure_wires : Stmt := topS 49
abbrev s_columns_told : Stmt := topS 50
abbrev s_circuits_alike : Stmt := topS 51
abbrev s_law_box : Stmt := topS 53
abbrev s_law_take : Stmt := topS 54
abbrev s_law_cells : Stmt := topS 55
abbrev s_law_of : Stmt := topS 56
abbrev s_law_pick : Stmt := topS 57
abbrev s_law_lists : Stmt := topS 58
abbrev s_law_same : Stmt := topS 59
abbrev s_law_put : Stmt := topS 60
abbrev s_law_ray : Stmt := topS 61
abbrev s_law_at : Stmt := topS 62
abbrev s_law_ray_sum : Stmt := topS 63
abbrev s_law_ray_minus : Stmt := topS 64
abbrev s_law_turned : Stmt := topS 65
abbrev s_law_place_state : Stmt := topS 66
abbrev s_law_deed_done : Stmt := topS 67
abbrev s_law_deeds_done : Stmt := topS 68
abbrev s_law_twos : Stmt := topS 69
abbrev s_law_deed : Stmt := topS 70
abbrev s_law_deeds : Stmt := topS 71
abbrev s_law_gate : Stmt := topS 72
abbrev s_law_circuit : Stmt := topS 73
abbrev s_law_state : Stmt := topS 74
abbrev s_law_rows : Stmt := topS 75
abbrev s_law_first : Stmt := topS 76
abbrev s_law_cut : Stmt := topS 77
abbrev s_law_still : Stmt := topS 78
abbrev s_law_drawn : Stmt := topS 79
abbrev s_law_heard : Stmt := topS 80
abbrev s_law_asked : Stmt := topS 81
abbrev s_law_stretches_right : Stmt := topS 82
abbrev s_law_left_right : Stmt := topS 83
abbrev s_law_across_right : Stmt := topS 84
abbrev s_law_by_hand_right : Stmt := topS 85
abbrev s_law_right : Stmt := topS 86
abbrev s_law : Stmt := topS 87
abbrev N_tupled : List Str := ["thing", "part"]
theorem sc_tupled : FnScope N_tupled ["thing"] (defScope s_tupled) := ⟨rfl, rfl, rfl, by decide +kernel, rfl, by decide +kernel, by decide +kernel⟩
abbrev N_is_number : List Str := ["thing"]
theorem sc_is_number : FnScope N_is_number ["thing"] (defScope s_is_number) := ⟨rfl, rfl, rfl, by decide +kernel, rfl, by decide +kernel, by decide +kernel⟩
abbrev N_is_count : List Str := ["thing"]
theorem sc_is_count : FnScope N_is_count ["thing"] (defScope s_is_count) := ⟨rfl, rfl, rfl, by decide +kernel, rfl, by decide +kernel, by decide +kernel⟩
abbrev N_is_below : List Str := ["thing", "many"]
theorem sc_is_below : FnScope N_is_below ["thing", "many"] (defScope s_is_below) := ⟨rfl, rfl, rfl, by decide +kernel, rfl, by decide +kernel, by decide +kernel⟩
abbrev N_is_tuple_of : List Str := ["thing", "size"]
theorem sc_is_tuple_of : FnScope N_is_tuple_of ["thing", "size"] (defScope s_is_tuple_of) := ⟨rfl, rfl, rfl, by decide +kernel, rfl, by decide +kernel, by decide +kernel⟩
abbrev N_put_at : List Str := ["row", "place", "bit"]
theorem sc_put_at : FnScope N_put_at ["row", "place", "bit"] (defScope s_put_at) := ⟨rfl, rfl, rfl, by decide +kernel, rfl, by decide +kernel, by decide +kernel⟩
abbrev N_shortened : List Str := ["numbers", "k", "a", "b", "c", "d"]
theorem sc_shortened : FnScope N_shortened ["numbers", "k"] (defScope s_shortened) := ⟨rfl, rfl, rfl, by decide +kernel, rfl, by decide +kernel, by decide +kernel⟩
abbrev N_times_root : List Str := ["numbers", "many", "a", "b", "c", "d", "twos", "_"]
theorem sc_times_root : FnScope N_times_root ["numbers", "many"] (defScope s_times_root) := ⟨rfl, rfl, rfl, by decide +kernel, rfl, by decide +kernel, by decide +kernel⟩
abbrev N_ray_sum : List Str := ["one", "other", "k", "near", "far"]
theorem sc_ray_sum : FnScope N_ray_sum ["one", "other"] (defScope s_ray_sum) := ⟨rfl, rfl, rfl, by decide +kernel, rfl, by decide +kernel, by decide +kernel⟩
abbrev N_turned_ray : List Str := ["ray", "many", "numbers", "_"]
theorem sc_turned_ray : FnScope N_turned_ray ["ray", "many"] (defScope s_turned_ray) := ⟨rfl, rfl, rfl, by decide +kernel, rfl, by decide +kernel, by decide +kernel⟩
abbrev N_over_root : List Str := ["ray", "many", "k"]
theorem sc_over_root : FnScope N_over_root ["ray", "many"] (defScope s_over_root) := ⟨rfl, rfl, rfl, by decide +kernel, rfl, by decide +kernel, by decide +kernel⟩
abbrev N_sure_deeds : List Str := ["many", "deeds", "own", "deed", "number"]
theorem sc_sure_deeds : FnScope N_sure_deeds ["many", "deeds"] (defScope s_sure_deeds) := ⟨rfl, rfl, rfl, by decide +kernel, rfl, by decide +kernel, by decide +kernel⟩
abbrev N_led_by : List Str := ["row", "deed", "near", "far", "more", "less"]
theorem sc_led_by : FnScope N_led_by ["row", "deed"] (defScope s_led_by) := ⟨rfl, rfl, rfl, by decide +kernel, rfl, by decide +kernel, by decide +kernel⟩
abbrev N_led_by_all : List Str := ["row", "deeds", "deed"]
theorem sc_led_by_all : FnScope N_led_by_all ["row", "deeds"] (defScope s_led_by_all) := ⟨rfl, rfl, rfl, by decide +kernel, rfl, by decide +kernel, by decide +kernel⟩
abbrev N_deeds_done : List Str := ["state", "deeds"]
theorem sc_deeds_done : FnScope N_deeds_done ["state", "deeds"] (defScope s_deeds_done) := ⟨rfl, rfl, rfl, by decide +kernel, rfl, by decide +kernel, by decide +kernel⟩
abbrev N_lone_state : List Str := ["many", "place"]
theorem sc_lone_state : FnScope N_lone_state ["many", "place"] (defScope s_lone_state) := ⟨rfl, rfl, rfl, by decide +kernel, rfl, by decide +kernel, by decide +kernel⟩
abbrev N_lone_states : List Str := ["many", "place"]
theorem sc_lone_states : FnScope N_lone_states ["many"] (defScope s_lone_states) := ⟨rfl, rfl, rfl, by decide +kernel, rfl, by decide +kernel, by decide +kernel⟩
abbrev N_columns_by : List Str := ["many", "deeds", "state"]
theorem sc_columns_by : FnScope N_columns_by ["many", "deeds"] (defScope s_columns_by) := ⟨rfl, rfl, rfl, by decide +kernel, rfl, by decide +kernel, by decide +kernel⟩
abbrev N_bit_of : List Str := ["n", "wire"]
theorem sc_bit_of : FnScope N_bit_of ["n", "wire"] (defScope s_bit_of) := ⟨rfl, rfl, rfl, by decide +kernel, rfl, by decide +kernel, by decide +kernel⟩
abbrev N_has_all : List Str := ["n", "place", "wires", "wire"]
theorem sc_has_all : FnScope N_has_all ["n", "place", "wires"] (defScope s_has_all) := ⟨rfl, rfl, rfl, by decide +kernel, rfl, by decide +kernel, by decide +kernel⟩
abbrev N_sure_gate : List Str := ["n", "gate", "own", "number"]
theorem sc_sure_gate : FnScope N_sure_gate ["n", "gate"] (defScope s_sure_gate) := ⟨rfl, rfl, rfl, by decide +kernel, rfl, by decide +kernel, by decide +kernel⟩
abbrev N_turns_by : List Str := ["n", "wires", "many", "found", "place"]
theorem sc_turns_by : FnScope N_turns_by ["n", "wires", "many"] (defScope s_turns_by) := ⟨rfl, rfl, rfl, by decide +kernel, rfl, by decide +kernel, by decide +kernel⟩
abbrev N_pairs_by : List Str := ["n", "word", "wires", "goal", "step", "places", "place"]
theorem sc_pairs_by : FnScope N_pairs_by ["n", "word", "wires", "goal"] (defScope s_pairs_by) := ⟨rfl, rfl, rfl, by decide +kernel, rfl, by decide +kernel, by decide +kernel⟩
abbrev N_deeds_of_gate : List Str := ["n", "gate", "own"]
theorem sc_deeds_of_gate : FnScope N_deeds_of_gate ["n", "gate"] (defScope s_deeds_of_gate) := ⟨rfl, rfl, rfl, by decide +kernel, rfl, by decide +kernel, by decide +kernel⟩
abbrev N_deeds_of_circuit : List Str := ["circuit", "n", "gates", "found", "gate"]
theorem sc_deeds_of_circuit : FnScope N_deeds_of_circuit ["circuit"] (defScope s_deeds_of_circuit) := ⟨rfl, rfl, rfl, by decide +kernel, rfl, by decide +kernel, by decide +kernel⟩
abbrev N_plain_deeds : List Str := ["deeds", "found", "deed", "many", "own"]
theorem sc_plain_deeds : FnScope N_plain_deeds ["deeds"] (defScope s_plain_deeds) := ⟨rfl, rfl, rfl, by decide +kernel, rfl, by decide +kernel, by decide +kernel⟩
abbrev N_columns_behind : List Str := ["many", "deeds", "found", "deed", "column"]
theorem sc_columns_behind : FnScope N_columns_behind ["many", "deeds"] (defScope s_columns_behind) := ⟨rfl, rfl, rfl, by decide +kernel, rfl, by decide +kernel, by decide +kernel⟩
abbrev N_first_idle : List Str := ["many", "deeds", "rows", "later", "found", "place"]
theorem sc_first_idle : FnScope N_first_idle ["many", "deeds"] (defScope s_first_idle) := ⟨rfl, rfl, rfl, by decide +kernel, rfl, by decide +kernel, by decide +kernel⟩
abbrev N_is_idle_stretch : List Str := ["many", "deeds", "thing", "rows", "place"]
theorem sc_is_idle_stretch : FnScope N_is_idle_stretch ["many", "deeds", "thing"] (defScope s_is_idle_stretch) := ⟨rfl, rfl, rfl, by decide +kernel, rfl, by decide +kernel, by decide +kernel⟩
abbrev N_without_idle : List Str := ["many", "deeds", "own", "rows", "last", "found", "place", "number", "row"]
theorem sc_without_idle : FnScope N_without_idle ["many", "deeds"] (defScope s_without_idle) := ⟨rfl, rfl, rfl, by decide +kernel, rfl, by decide +kernel, by decide +kernel⟩
abbrev N_columns_of_both : List Str := ["many", "one", "other", "near", "far"]
theorem sc_columns_of_both : FnScope N_columns_of_both ["many", "one", "other"] (defScope s_columns_of_both) := ⟨rfl, rfl, rfl, by decide +kernel, rfl, by decide +kernel, by decide +kernel⟩
abbrev N_parting_start : List Str := ["many", "one", "other", "near", "far", "place"]
theorem sc_parting_start : FnScope N_parting_start ["many", "one", "other"] (defScope s_parting_start) := ⟨rfl, rfl, rfl, by decide +kernel, rfl, by decide +kernel, by decide +kernel⟩
abbrev N_sure_wires : List Str := ["one", "other", "near", "far"]
theorem sc_sure_wires : FnScope N_sure_wires ["one", "other"] (defScope s_sure_wires) := ⟨rfl, rfl, rfl, by decide +kernel, rfl, by decide +kernel, by decide +kernel⟩
abbrev N_columns_told : List Str := ["circuit"]
theorem sc_columns_told : FnScope N_columns_told ["circuit"] (defScope s_columns_told) := ⟨rfl, rfl, rfl, by decide +kernel, rfl, by decide +kernel, by decide +kernel⟩
abbrev N_circuits_alike : List Str := ["one", "other", "near", "far"]
theorem sc_circuits_alike : FnScope N_circuits_alike ["one", "other"] (defScope s_circuits_alike) := ⟨rfl, rfl, rfl, by decide +kernel, rfl, by decide +kernel, by decide +kernel⟩
abbrev N_law_box : List Str := ["_law_script", "_law_k", "_law_cell_so"]
theorem sc_law_box : FnScope N_law_box ["_law_script", "_law_k"] (defScope s_law_box) := ⟨rfl, rfl, rfl, by decide +kernel, rfl, by decide +kernel, by decide +kernel⟩
abbrev N_law_take : List Str := ["_law_tin", "_law_below_so", "_law_drawn_here", "_law_once_so", "_law_wide_so", "_law_twice_so"]
theorem sc_law_take : FnScope N_law_take ["_law_tin", "_law_below_so"] (defScope s_law_take) := ⟨rfl, rfl, rfl, by decide +kernel, rfl, by decide +kernel, by decide +kernel⟩
abbrev N_law_cells : List Str := ["_law_script", "_law_most_so", "_law_cells_so", "_law_k", "_law_cell_so", "_law_at_so"]
theorem sc_law_cells : FnScope N_law_cells ["_law_script", "_law_most_so"] (defScope s_law_cells) := ⟨rfl, rfl, rfl, by decide +kernel, rfl, by decide +kernel, by decide +kernel⟩
abbrev N_law_of : List Str := ["_law_tin", "_law_goods_so"]
theorem sc_law_of : FnScope N_law_of ["_law_tin", "_law_goods_so"] (defScope s_law_of) := ⟨rfl, rfl, rfl, by decide +kernel, rfl, by decide +kernel, by decide +kernel⟩
abbrev N_law_pick : List Str := ["_law_tin", "_law_goods_so", "_law_count_so", "_law_pool_so", "_law_found", "_law_lap"]
theorem sc_law_pick : FnScope N_law_pick ["_law_tin", "_law_goods_so", "_law_count_so"] (defScope s_law_pick) := ⟨rfl, rfl, rfl, by decide +kernel, rfl, by decide +kernel, by decide +kernel⟩
abbrev N_law_lists : List Str := ["_law_matter", "_law_bit"]
theorem sc_law_lists : FnScope N_law_lists ["_law_matter"] (defScope s_law_lists) := ⟨rfl, rfl, rfl, by decide +kernel, rfl, by decide +kernel, by decide +kernel⟩
abbrev N_law_same : List Str := ["_law_got", "_law_due", "_law_mine", "_law_its"]
theorem sc_law_same : FnScope N_law_same ["_law_got", "_law_due"] (defScope s_law_same) := ⟨rfl, rfl, rfl, by decide +kernel, rfl, by decide +kernel, by decide +kernel⟩
abbrev N_law_put : List Str := ["_law_row_so", "_law_place_so", "_law_bit_so"]
theorem sc_law_put : FnScope N_law_put ["_law_row_so", "_law_place_so", "_law_bit_so"] (defScope s_law_put) := ⟨rfl, rfl, rfl, by decide +kernel, rfl, by decide +kernel, by decide +kernel⟩
abbrev N_law_ray : List Str := ["_law_a_so", "_law_b_so", "_law_c_so", "_law_d_so", "_law_k_so", "_law_near_so", "_law_next_so", "_law_then_so", "_law_last_so"]
theorem sc_law_ray : FnScope N_law_ray ["_law_a_so", "_law_b_so", "_law_c_so", "_law_d_so", "_law_k_so"] (defScope s_law_ray) := ⟨rfl, rfl, rfl, by decide +kernel, rfl, by decide +kernel, by decide +kernel⟩
abbrev N_law_at : List Str := ["_law_ray_so", "_law_k_so", "_law_a_so", "_law_b_so", "_law_c_so", "_law_d_so", "_law_lap", "_law_near_so", "_law_next_so"]
theorem sc_law_at : FnScope N_law_at ["_law_ray_so", "_law_k_so"] (defScope s_law_at) := ⟨rfl, rfl, rfl, by decide +kernel, rfl, by decide +kernel, by decide +kernel⟩
abbrev N_law_ray_sum : List Str := ["_law_one_so", "_law_other_so", "_law_k_so", "_law_near_so", "_law_far_so", "_law_own", "_law_j"]
theorem sc_law_ray_sum : FnScope N_law_ray_sum ["_law_one_so", "_law_other_so"] (defScope s_law_ray_sum) := ⟨rfl, rfl, rfl, by decide +kernel, rfl, by decide +kernel, by decide +kernel⟩
abbrev N_law_ray_minus : List Str := ["_law_one_so"]
theorem sc_law_ray_minus : FnScope N_law_ray_minus ["_law_one_so"] (defScope s_law_ray_minus) := ⟨rfl, rfl, rfl, by decide +kernel, rfl, by decide +kernel, by decide +kernel⟩
abbrev N_law_turned : List Str := ["_law_one_so", "_law_many_so", "_law_a_so", "_law_b_so", "_law_c_so", "_law_d_so", "_law_lap"]
theorem sc_law_turned : FnScope N_law_turned ["_law_one_so", "_law_many_so"] (defScope s_law_turned) := ⟨rfl, rfl, rfl, by decide +kernel, rfl, by decide +kernel, by decide +kernel⟩
abbrev N_law_place_state : List Str := ["_law_size_so", "_law_place_so", "_law_k"]
theorem sc_law_place_state : FnScope N_law_place_state ["_law_size_so", "_law_place_so"] (defScope s_law_place_state) := ⟨rfl, rfl, rfl, by decide +kernel, rfl, by decide +kernel, by decide +kernel⟩
abbrev N_law_deed_done : List Str := ["_law_state_so", "_law_deed_so", "_law_near_so", "_law_far_so", "_law_both_so", "_law_less_so", "_law_halves_so", "_law_own"]
theorem sc_law_deed_done : FnScope N_law_deed_done ["_law_state_so", "_law_deed_so"] (defScope s_law_deed_done) := ⟨rfl, rfl, rfl, by decide +kernel, rfl, by decide +kernel, by decide +kernel⟩
abbrev N_law_deeds_done : List Str := ["_law_state_so", "_law_deeds_so", "_law_deed_so"]
theorem sc_law_deeds_done : FnScope N_law_deeds_done ["_law_state_so", "_law_deeds_so"] (defScope s_law_deeds_done) := ⟨rfl, rfl, rfl, by decide +kernel, rfl, by decide +kernel, by decide +kernel⟩
abbrev N_law_twos : List Str := ["_law_many_so", "_law_found", "_law_lap"]
theorem sc_law_twos : FnScope N_law_twos ["_law_many_so"] (defScope s_law_twos) := ⟨rfl, rfl, rfl, by decide +kernel, rfl, by decide +kernel, by decide +kernel⟩
abbrev N_law_deed : List Str := ["_law_tin", "_law_size_so", "_law_word", "_law_places_so"]
theorem sc_law_deed : FnScope N_law_deed ["_law_tin", "_law_size_so"] (defScope s_law_deed) := ⟨rfl, rfl, rfl, by decide +kernel, rfl, by decide +kernel, by decide +kernel⟩
abbrev N_law_deeds : List Str := ["_law_tin", "_law_size_so", "_law_many_so", "_law_lap"]
theorem sc_law_deeds : FnScope N_law_deeds ["_law_tin", "_law_size_so", "_law_many_so"] (defScope s_law_deeds) := ⟨rfl, rfl, rfl, by decide +kernel, rfl, by decide +kernel, by decide +kernel⟩
abbrev N_law_gate : List Str := ["_law_tin", "_law_n_so", "_law_words_so", "_law_word", "_law_many_so"]
theorem sc_law_gate : FnScope N_law_gate ["_law_tin", "_law_n_so"] (defScope s_law_gate) := ⟨rfl, rfl, rfl, by decide +kernel, rfl, by decide +kernel, by decide +kernel⟩
abbrev N_law_circuit : List Str := ["_law_tin", "_law_n_so", "_law_many_so", "_law_lap"]
theorem sc_law_circuit : FnScope N_law_circuit ["_law_tin", "_law_n_so", "_law_many_so"] (defScope s_law_circuit) := ⟨rfl, rfl, rfl, by decide +kernel, rfl, by decide +kernel, by decide +kernel⟩
abbrev N_law_state : List Str := ["_law_tin", "_law_size_so", "_law_many_so"]
theorem sc_law_state : FnScope N_law_state ["_law_tin", "_law_size_so", "_law_many_so"] (defScope s_law_state) := ⟨rfl, rfl, rfl, by decide +kernel, rfl, by decide +kernel, by decide +kernel⟩
abbrev N_law_rows : List Str := ["_law_size", "_law_deeds_here", "_law_found", "_law_k", "_law_deed_here", "_law_column"]
theorem sc_law_rows : FnScope N_law_rows ["_law_size", "_law_deeds_here"] (defScope s_law_rows) := ⟨rfl, rfl, rfl, by decide +kernel, rfl, by decide +kernel, by decide +kernel⟩
abbrev N_law_first : List Str := ["_law_rows_here", "_law_first_here", "_law_behind"]
theorem sc_law_first : FnScope N_law_first ["_law_rows_here"] (defScope s_law_first) := ⟨rfl, rfl, rfl, by decide +kernel, rfl, by decide +kernel, by decide +kernel⟩
abbrev N_law_cut : List Str := ["_law_size", "_law_deeds_here", "_law_rows_here", "_law_first_here", "_law_behind"]
theorem sc_law_cut : FnScope N_law_cut ["_law_size", "_law_deeds_here"] (defScope s_law_cut) := ⟨rfl, rfl, rfl, by decide +kernel, rfl, by decide +kernel, by decide +kernel⟩
abbrev N_law_still : List Str := ["_law_tin", "_law_size", "_law_p", "_law_q", "_law_turn", "_law_far", "_law_swap", "_law_mix", "_law_goods"]
theorem sc_law_still : FnScope N_law_still ["_law_tin", "_law_size"] (defScope s_law_still) := ⟨rfl, rfl, rfl, by decide +kernel, rfl, by decide +kernel, by decide +kernel⟩
abbrev N_law_drawn : List Str := ["_law_tin", "_law_size", "_law_deeds_here", "_law_lap", "_law_k", "_law_own"]
theorem sc_law_drawn : FnScope N_law_drawn ["_law_tin", "_law_size"] (defScope s_law_drawn) := ⟨rfl, rfl, rfl, by decide +kernel, rfl, by decide +kernel, by decide +kernel⟩
abbrev N_law_heard : List Str := ["_law_size", "_law_one", "_law_other", "_law_told", "_law_caught"]
theorem sc_law_heard : FnScope N_law_heard ["_law_size", "_law_one", "_law_other"] (defScope s_law_heard) := ⟨rfl, rfl, rfl, by decide +kernel, rfl, by decide +kernel, by decide +kernel⟩
abbrev N_law_asked : List Str := ["_law_size", "_law_deeds_here", "_law_thing", "_law_told", "_law_caught", "flaw"]
theorem sc_law_asked : FnScope N_law_asked ["_law_size", "_law_deeds_here", "_law_thing"] (defScope s_law_asked) := ⟨rfl, rfl, rfl, by decide +kernel, rfl, by decide +kernel, by decide +kernel⟩
abbrev N_law_stretches_right : List Str := ["_law_tin", "_law_size", "_law_deeds_here", "_law_rows_here", "_law_many", "_law_due", "_law_got", "_law_pairs", "_law_p", "_law_q", "_law_asks", "_law_goal", "_law_own", "_law_bad"]
theorem sc_law_stretches_right : FnScope N_law_stretches_right ["_law_tin", "_law_size", "_law_deeds_here"] (defScope s_law_stretches_right) := ⟨rfl, rfl, rfl, by decide +kernel, rfl, by decide +kernel, by decide +kernel⟩
abbrev N_law_left_right : List Str := ["_law_tin", "_law_size", "_law_deeds_here", "_law_due", "_law_got", "_law_state_here"]
theorem sc_law_left_right : FnScope N_law_left_right ["_law_tin", "_law_size", "_law_deeds_here"] (defScope s_law_left_right) := ⟨rfl, rfl, rfl, by decide +kernel, rfl, by decide +kernel, by decide +kernel⟩
abbrev N_law_across_right : List Str := ["_law_tin", "_law_one", "_law_both", "_law_acts"]
theorem sc_law_across_right : FnScope N_law_across_right ["_law_tin"] (defScope s_law_across_right) := ⟨rfl, rfl, rfl, by decide +kernel, rfl, by decide +kernel, by decide +kernel⟩
abbrev N_law_by_hand_right : List Str := ["_law_turn", "_law_swap", "_law_mix", "_law_far", "_law_twist", "_law_got", "_law_due", "_law_own"]
theorem sc_law_by_hand_right : FnScope N_law_by_hand_right [] (defScope s_law_by_hand_right) := ⟨rfl, rfl, rfl, by decide +kernel, rfl, by decide +kernel, by decide +kernel⟩
abbrev N_law_right : List Str := ["_law_tin", "_law_size", "_law_deeds_here"]
theorem sc_law_right : FnScope N_law_right ["_law_tin"] (defScope s_law_right) := ⟨rfl, rfl, rfl, by decide +kernel, rfl, by decide +kernel, by decide +kernel⟩
abbrev N_law : List Str := ["_law_script", "_law_cells_here", "_law_k"]
theorem sc_law : FnScope N_law ["_law_script"] (defScope s_law) := ⟨rfl, rfl, rfl, by decide +kernel, rfl, by decide +kernel, by decide +kernel⟩
end DD
/-! TY: the text of NoPlace's __init__ -/
namespace DD
open PySem
def cBody : Stmt → List Stmt
  | .ClassDef _ _ _ b _ _ _ _ _ _ _ => b
  | _ => []
abbrev s_np : Stmt := (cBody (topS 1)).getD 0 (.Pass ⟨0, 0, 0, 0⟩)
end DD
namespace PySem
namespace NPX
def leBase : List Value := [.type "LookupError", .type "Exception", .type "BaseException", .type "object"]
end NPX
end PySem
/-! HX: the head, printed by gen_head2.py -/
namespace DD
open PySem PySem.Spec L2
open PyProof.Rows hiding St
open He (Dv Fa DefD ga ma fAd ba eqO eqO_ok)
def d_tupled : DefD := ⟨("tupled", none), "tupled", "tupled", defArgs s_tupled, defBody s_tupled, defScope s_tupled, [], []⟩
def d_is_number : DefD := ⟨("is_number", none), "is_number", "is_number", defArgs s_is_number, defBody s_is_number, defScope s_is_number, [], []⟩
def d_is_count : DefD := ⟨("is_count", none), "is_count", "is_count", defArgs s_is_count, defBody s_is_count, defScope s_is_count, [], []⟩
def d_is_below : DefD := ⟨("is_below", none), "is_below", "is_below", defArgs s_is_below, defBody s_is_below, defScope s_is_below, [], []⟩
def d_is_tuple_of : DefD := ⟨("is_tuple_of", none), "is_tuple_of", "is_tuple_of", defArgs s_is_tuple_of, defBody s_is_tuple_of, defScope s_is_tuple_of, [], []⟩
def d_put_at : DefD := ⟨("put_at", none), "put_at", "put_at", defArgs s_put_at, defBody s_put_at, defScope s_put_at, [], []⟩
def d_shortened : DefD := ⟨("shortened", none), "shortened", "shortened", defArgs s_shortened, defBody s_shortened, defScope s_shortened, [], []⟩
def d_times_root : DefD := ⟨("times_root", none), "times_root", "times_root", defArgs s_times_root, defBody s_times_root, defScope s_times_root, [], []⟩
def d_ray_sum : DefD := ⟨("ray_sum", none), "ray_sum", "ray_sum", defArgs s_ray_sum, defBody s_ray_sum, defScope s_ray_sum, [], []⟩
def d_turned_ray : DefD := ⟨("turned_ray", none), "turned_ray", "turned_ray", defArgs s_turned_ray, defBody s_turned_ray, defScope s_turned_ray, [], []⟩
def d_over_root : DefD := ⟨("over_root", none), "over_root", "over_root", defArgs s_over_root, defBody s_over_root, defScope s_over_root, [], []⟩
def d_sure_deeds : DefD := ⟨("sure_deeds", none), "sure_deeds", "sure_deeds", defArgs s_sure_deeds, defBody s_sure_deeds, defScope s_sure_deeds, [], []⟩
def d_led_by : DefD := ⟨("led_by", none), "led_by", "led_by", defArgs s_led_by, defBody s_led_by, defScope s_led_by, [], []⟩
def d_led_by_all : DefD := ⟨("led_by_all", none), "led_by_all", "led_by_all", defArgs s_led_by_all, defBody s_led_by_all, defScope s_led_by_all, [], []⟩
def d_deeds_done : DefD := ⟨("deeds_done", none), "deeds_done", "deeds_done", defArgs s_deeds_done, defBody s_deeds_done, defScope s_deeds_done, [], []⟩
def d_lone_state : DefD := ⟨("lone_state", none), "lone_state", "lone_state", defArgs s_lone_state, defBody s_lone_state, defScope s_lone_state, [], []⟩
def d_lone_states : DefD := ⟨("lone_states", none), "lone_states", "lone_states", defArgs s_lone_states, defBody s_lone_states, defScope s_lone_states, [], []⟩
def d_columns_by : DefD := ⟨("columns_by", none), "columns_by", "columns_by", defArgs s_columns_by, defBody s_columns_by, defScope s_columns_by, [], []⟩
def d_bit_of : DefD := ⟨("bit_of", none), "bit_of", "bit_of", defArgs s_bit_of, defBody s_bit_of, defScope s_bit_of, [], []⟩
def d_has_all : DefD := ⟨("has_all", none), "has_all", "has_all", defArgs s_has_all, defBody s_has_all, defScope s_has_all, [], []⟩
def d_sure_gate : DefD := ⟨("sure_gate", none), "sure_gate", "sure_gate", defArgs s_sure_gate, defBody s_sure_gate, defScope s_sure_gate, [], []⟩
def d_turns_by : DefD := ⟨("turns_by", none), "turns_by", "turns_by", defArgs s_turns_by, defBody s_turns_by, defScope s_turns_by, [], []⟩
def d_pairs_by : DefD := ⟨("pairs_by", none), "pairs_by", "pairs_by", defArgs s_pairs_by, defBody s_pairs_by, defScope s_pairs_by, [], []⟩
def d_deeds_of_gate : DefD := ⟨("deeds_of_gate", none), "deeds_of_gate", "deeds_of_gate", defArgs s_deeds_of_gate, defBody s_deeds_of_gate, defScope s_deeds_of_gate, [], []⟩
def d_deeds_of_circuit : DefD := ⟨("deeds_of_circuit", none), "deeds_of_circuit", "deeds_of_circuit", defArgs s_deeds_of_circuit, defBody s_deeds_of_circuit, defScope s_deeds_of_circuit, [], []⟩
def d_plain_deeds : DefD := ⟨("plain_deeds", none), "plain_deeds", "plain_deeds", defArgs s_plain_deeds, defBody s_plain_deeds, defScope s_plain_deeds, [], []⟩
def d_columns_behind : DefD := ⟨("columns_behind", none), "columns_behind", "columns_behind", defArgs s_columns_behind, defBody s_columns_behind, defScope s_columns_behind, [], []⟩
def d_first_idle : DefD := ⟨("first_idle", none), "first_idle", "first_idle", defArgs s_first_idle, defBody s_first_idle, defScope s_first_idle, [], []⟩
def d_is_idle_stretch : DefD := ⟨("is_idle_stretch", none), "is_idle_stretch", "is_idle_stretch", defArgs s_is_idle_stretch, defBody s_is_idle_stretch, defScope s_is_idle_stretch, [], []⟩
def d_without_idle : DefD := ⟨("without_idle", none), "without_idle", "without_idle", defArgs s_without_idle, defBody s_without_idle, defScope s_without_idle, [], []⟩
def d_columns_of_both : DefD := ⟨("columns_of_both", none), "columns_of_both", "columns_of_both", defArgs s_columns_of_both, defBody s_columns_of_both, defScope s_columns_of_both, [], []⟩
def d_parting_start : DefD := ⟨("parting_start", none), "parting_start", "parting_start", defArgs s_parting_start, defBody s_parting_start, defScope s_parting_start, [], []⟩
def d_sure_wires : DefD := ⟨("sure_wires", none), "sure_wires", "sure_wires", defArgs s_sure_wires, defBody s_sure_wires, defScope s_sure_wires, [], []⟩
def d_columns_told : DefD := ⟨("columns_told", none), "columns_told", "columns_told", defArgs s_columns_told, defBody s_columns_told, defScope s_columns_told, [], []⟩
def d_circuits_alike : DefD := ⟨("circuits_alike", none), "circuits_alike", "circuits_alike", defArgs s_circuits_alike, defBody s_circuits_alike, defScope s_circuits_alike, [], []⟩
def d_law_box : DefD := ⟨("_law_box", none), "_law_box", "_law_box", defArgs s_law_box, defBody s_law_box, defScope s_law_box, [], []⟩
def d_law_take : DefD := ⟨("_law_take", none), "_law_take", "_law_take", defArgs s_law_take, defBody s_law_take, defScope s_law_take, [], []⟩
def d_law_cells : DefD := ⟨("_law_cells", none), "_law_cells", "_law_cells", defArgs s_law_cells, defBody s_law_cells, defScope s_law_cells, [], []⟩
def d_law_of : DefD := ⟨("_law_of", none), "_law_of", "_law_of", defArgs s_law_of, defBody s_law_of, defScope s_law_of, [], []⟩
def d_law_pick : DefD := ⟨("_law_pick", none), "_law_pick", "_law_pick", defArgs s_law_pick, defBody s_law_pick, defScope s_law_pick, [], []⟩
def d_law_lists : DefD := ⟨("_law_lists", none), "_law_lists", "_law_lists", defArgs s_law_lists, defBody s_law_lists, defScope s_law_lists, [], []⟩
def d_law_same : DefD := ⟨("_law_same", none), "_law_same", "_law_same", defArgs s_law_same, defBody s_law_same, defScope s_law_same, [], []⟩
def d_law_put : DefD := ⟨("_law_put", none), "_law_put", "_law_put", defArgs s_law_put, defBody s_law_put, defScope s_law_put, [], []⟩
def d_law_ray : DefD := ⟨("_law_ray", none), "_law_ray", "_law_ray", defArgs s_law_ray, defBody s_law_ray, defScope s_law_ray, [], []⟩
def d_law_at : DefD := ⟨("_law_at", none), "_law_at", "_law_at", defArgs s_law_at, defBody s_law_at, defScope s_law_at, [], []⟩
def d_law_ray_sum : DefD := ⟨("_law_ray_sum", none), "_law_ray_sum", "_law_ray_sum", defArgs s_law_ray_sum, defBody s_law_ray_sum, defScope s_law_ray_sum, [], []⟩
def d_law_ray_minus : DefD := ⟨("_law_ray_minus", none), "_law_ray_minus", "_law_ray_minus", defArgs s_law_ray_minus, defBody s_law_ray_minus, defScope s_law_ray_minus, [], []⟩
def d_law_turned : DefD := ⟨("_law_turned", none), "_law_turned", "_law_turned", defArgs s_law_turned, defBody s_law_turned, defScope s_law_turned, [], []⟩
def d_law_place_state : DefD := ⟨("_law_place_state", none), "_law_place_state", "_law_place_state", defArgs s_law_place_state, defBody s_law_place_state, defScope s_law_place_state, [], []⟩
def d_law_deed_done : DefD := ⟨("_law_deed_done", none), "_law_deed_done", "_law_deed_done", defArgs s_law_deed_done, defBody s_law_deed_done, defScope s_law_deed_done, [], []⟩
def d_law_deeds_done : DefD := ⟨("_law_deeds_done", none), "_law_deeds_done", "_law_deeds_done", defArgs s_law_deeds_done, defBody s_law_deeds_done, defScope s_law_deeds_done, [], []⟩
def d_law_twos : DefD := ⟨("_law_twos", none), "_law_twos", "_law_twos", defArgs s_law_twos, defBody s_law_twos, defScope s_law_twos, [], []⟩
def d_law_deed : DefD := ⟨("_law_deed", none), "_law_deed", "_law_deed", defArgs s_law_deed, defBody s_law_deed, defScope s_law_deed, [], []⟩
def d_law_deeds : DefD := ⟨("_law_deeds", none), "_law_deeds", "_law_deeds", defArgs s_law_deeds, defBody s_law_deeds, defScope s_law_deeds, [], []⟩
def d_law_gate : DefD := ⟨("_law_gate", none), "_law_gate", "_law_gate", defArgs s_law_gate, defBody s_law_gate, defScope s_law_gate, [], []⟩
def d_law_circuit : DefD := ⟨("_law_circuit", none), "_law_circuit", "_law_circuit", defArgs s_law_circuit, defBody s_law_circuit, defScope s_law_circuit, [], []⟩
def d_law_state : DefD := ⟨("_law_state", none), "_law_state", "_law_state", defArgs s_law_state, defBody s_law_state, defScope s_law_state, [], []⟩
def d_law_rows : DefD := ⟨("_law_rows", none), "_law_rows", "_law_rows", defArgs s_law_rows, defBody s_law_rows, defScope s_law_rows, [], []⟩
def d_law_first : DefD := ⟨("_law_first", none), "_law_first", "_law_first", defArgs s_law_first, defBody s_law_first, defScope s_law_first, [], []⟩
def d_law_cut : DefD := ⟨("_law_cut", none), "_law_cut", "_law_cut", defArgs s_law_cut, defBody s_law_cut, defScope s_law_cut, [], []⟩
def d_law_still : DefD := ⟨("_law_still", none), "_law_still", "_law_still", defArgs s_law_still, defBody s_law_still, defScope s_law_still, [], []⟩
def d_law_drawn : DefD := ⟨("_law_drawn", none), "_law_drawn", "_law_drawn", defArgs s_law_drawn, defBody s_law_drawn, defScope s_law_drawn, [], []⟩
def d_law_heard : DefD := ⟨("_law_heard", none), "_law_heard", "_law_heard", defArgs s_law_heard, defBody s_law_heard, defScope s_law_heard, [], []⟩
def d_law_asked : DefD := ⟨("_law_asked", none), "_law_asked", "_law_asked", defArgs s_law_asked, defBody s_law_asked, defScope s_law_asked, [], []⟩
def d_law_stretches_right : DefD := ⟨("_law_stretches_right", none), "_law_stretches_right", "_law_stretches_right", defArgs s_law_stretches_right, defBody s_law_stretches_right, defScope s_law_stretches_right, [], []⟩
def d_law_left_right : DefD := ⟨("_law_left_right", none), "_law_left_right", "_law_left_right", defArgs s_law_left_right, defBody s_law_left_right, defScope s_law_left_right, [], []⟩
def d_law_across_right : DefD := ⟨("_law_across_right", none), "_law_across_right", "_law_across_right", defArgs s_law_across_right, defBody s_law_across_right, defScope s_law_across_right, [], []⟩
def d_law_by_hand_right : DefD := ⟨("_law_by_hand_right", none), "_law_by_hand_right", "_law_by_hand_right", defArgs s_law_by_hand_right, defBody s_law_by_hand_right, defScope s_law_by_hand_right, [], []⟩
def d_law_right : DefD := ⟨("_law_right", none), "_law_right", "_law_right", defArgs s_law_right, defBody s_law_right, defScope s_law_right, [], []⟩
def d_law : DefD := ⟨("law", none), "law", "law", defArgs s_law, defBody s_law, defScope s_law, [], []⟩
def d_np_init : DefD := ⟨("NoPlace", some "__init__"), "__init__", "NoPlace.__init__", defArgs s_np, defBody s_np, defScope s_np, [], []⟩
def fn0 : List DefD := [d_tupled, d_is_number, d_is_count, d_is_below, d_is_tuple_of, d_put_at, d_shortened, d_times_root, d_ray_sum, d_turned_ray, d_over_root, d_sure_deeds, d_led_by, d_led_by_all, d_deeds_done, d_lone_state, d_lone_states, d_columns_by, d_bit_of, d_has_all]
def fn1 : List DefD := [d_sure_gate, d_turns_by, d_pairs_by, d_deeds_of_gate, d_deeds_of_circuit, d_plain_deeds, d_columns_behind, d_first_idle, d_is_idle_stretch, d_without_idle, d_columns_of_both, d_parting_start, d_sure_wires, d_columns_told, d_circuits_alike, d_law_box, d_law_take, d_law_cells, d_law_of, d_law_pick]
def fn2 : List DefD := [d_law_lists, d_law_same, d_law_put, d_law_ray, d_law_at, d_law_ray_sum, d_law_ray_minus, d_law_turned, d_law_place_state, d_law_deed_done, d_law_deeds_done, d_law_twos, d_law_deed, d_law_deeds, d_law_gate, d_law_circuit, d_law_state, d_law_rows, d_law_first, d_law_cut]
def fn3 : List DefD := [d_law_still, d_law_drawn, d_law_heard, d_law_asked, d_law_stretches_right, d_law_left_right, d_law_across_right, d_law_by_hand_right, d_law_right, d_law, d_np_init]
def fnAll : List DefD := fn0 ++ fn1 ++ fn2 ++ fn3
def nm0 : List Str := [("NoPlace" : Str), ("NoWire" : Str), ("Unfit" : Str), ("NoPaper" : Str), ("tupled" : Str), ("is_number" : Str), ("is_count" : Str), ("is_below" : Str), ("is_tuple_of" : Str), ("put_at" : Str), ("shortened" : Str), ("times_root" : Str), ("ray_sum" : Str), ("turned_ray" : Str), ("over_root" : Str), ("TURN" : Str), ("SWAP" : Str), ("MIX" : Str), ("HALF" : Str), ("FULL" : Str)]
def nm1 : List Str := [("ONE" : Str), ("NOUGHT" : Str), ("EIGHTHS" : Str), ("sure_deeds" : Str), ("led_by" : Str), ("led_by_all" : Str), ("deeds_done" : Str), ("lone_state" : Str), ("lone_states" : Str), ("columns_by" : Str), ("bit_of" : Str), ("has_all" : Str), ("sure_gate" : Str), ("turns_by" : Str), ("pairs_by" : Str), ("deeds_of_gate" : Str), ("deeds_of_circuit" : Str), ("plain_deeds" : Str), ("columns_behind" : Str), ("first_idle" : Str)]
def nm2 : List Str := [("is_idle_stretch" : Str), ("without_idle" : Str), ("columns_of_both" : Str), ("parting_start" : Str), ("sure_wires" : Str), ("columns_told" : Str), ("circuits_alike" : Str), ("_law_box" : Str), ("_law_take" : Str), ("_law_cells" : Str), ("_law_of" : Str), ("_law_pick" : Str), ("_law_lists" : Str), ("_law_same" : Str), ("_law_put" : Str), ("_law_ray" : Str), ("_law_at" : Str), ("_law_ray_sum" : Str), ("_law_ray_minus" : Str), ("_law_turned" : Str)]
def nm3 : List Str := [("_law_place_state" : Str), ("_law_deed_done" : Str), ("_law_deeds_done" : Str), ("_law_twos" : Str), ("_law_deed" : Str), ("_law_deeds" : Str), ("_law_gate" : Str), ("_law_circuit" : Str), ("_law_state" : Str), ("_law_rows" : Str), ("_law_first" : Str), ("_law_cut" : Str), ("_law_still" : Str), ("_law_drawn" : Str), ("_law_heard" : Str), ("_law_asked" : Str), ("_law_stretches_right" : Str), ("_law_left_right" : Str), ("_law_across_right" : Str), ("_law_by_hand_right" : Str)]
def nm4 : List Str := [("_law_right" : Str)]
def nms : List Str := nm0 ++ nm1 ++ nm2 ++ nm3 ++ nm4
def fg0 : List Fa := [.glo "tupled", .glo "is_number", .glo "is_count", .glo "is_below", .glo "is_tuple_of", .glo "put_at", .glo "shortened", .glo "times_root", .glo "ray_sum", .glo "turned_ray", .glo "over_root", .glo "sure_deeds", .glo "led_by", .glo "led_by_all", .glo "deeds_done", .glo "lone_state", .glo "lone_states", .glo "columns_by", .glo "bit_of", .glo "has_all"]
def fg1 : List Fa := [.glo "sure_gate", .glo "turns_by", .glo "pairs_by", .glo "deeds_of_gate", .glo "deeds_of_circuit", .glo "plain_deeds", .glo "columns_behind", .glo "first_idle", .glo "is_idle_stretch", .glo "without_idle", .glo "columns_of_both", .glo "parting_start", .glo "sure_wires", .glo "columns_told", .glo "circuits_alike", .glo "_law_box", .glo "_law_take", .glo "_law_cells", .glo "_law_of", .glo "_law_pick"]
def fg2 : List Fa := [.glo "_law_lists", .glo "_law_same", .glo "_law_put", .glo "_law_ray", .glo "_law_at", .glo "_law_ray_sum", .glo "_law_ray_minus", .glo "_law_turned", .glo "_law_place_state", .glo "_law_deed_done", .glo "_law_deeds_done", .glo "_law_twos", .glo "_law_deed", .glo "_law_deeds", .glo "_law_gate", .glo "_law_circuit", .glo "_law_state", .glo "_law_rows", .glo "_law_first", .glo "_law_cut"]
def fg3 : List Fa := [.glo "_law_still", .glo "_law_drawn", .glo "_law_heard", .glo "_law_asked", .glo "_law_stretches_right", .glo "_law_left_right", .glo "_law_across_right", .glo "_law_by_hand_right", .glo "_law_right", .glo "law", .glo "NoPlace", .glo "NoPaper", .glo "ONE", .glo "NOUGHT", .glo "EIGHTHS"]
def fr0 : List Fa := [.free "len", .free "isinstance", .free "tuple", .free "list", .free "int", .free "bool", .free "str", .free "range", .free "max", .free "min", .free "all", .free "abs", .free "enumerate", .free "zip", .free "sorted"]
def fr1 : List Fa := [.str "TURN" "turn", .str "SWAP" "swap", .str "MIX" "mix", .int "HALF" 4, .int "FULL" 8, .exc "NoPaper", .exm "NoPaper" "NoPaper" true, .exm "NoPlace" "NoPlace" true, .keep "NoPlace", .noat "NoPlace" "number", .meth "NoPlace" "__init__"]
def faAll : List Fa := fg0 ++ fg1 ++ fg2 ++ fg3 ++ fr0 ++ fr1
def eiKs : List Str := ["T", "S", "Z", "CZ", "W"]
def tabs : List He.Tab := [(fun K => ga K "EIGHTHS", eiKs)]
def exB (K : PySem.W.Frag) : Bool := He.tupB K "ONE" [.int 1, .int 0, .int 0, .int 0, .int 0] && (He.tupB K "NOUGHT" [.int 0, .int 0, .int 0, .int 0, .int 0] && (He.valsB K (ga K "EIGHTHS") [("T", .int 1), ("S", .int 2), ("Z", .int 4), ("CZ", .int 4), ("W", .int 1)] &&
  (eqO (PySem.W.nsIn K (ga K "EIGHTHS") "H") (some none) && (eqO (PySem.W.nsIn K (ga K "EIGHTHS") "X") (some none) && (eqO (PySem.W.nsIn K (ga K "EIGHTHS") "CX") (some none) &&
  (PySem.W.excInitIn K (ga K "NoPlace") PySem.NPX.leBase "LookupError.__new__" && (PySem.W.excOver K (ga K "NoPlace") PySem.NPX.leBase && (PySem.W.hasDictIn K (ga K "NoPlace") &&
  (eqO (PySem.W.findIn K (.ref (ga K "NoPlace")) "__setattr__") (some (some (.builtin "object.__setattr__"))) && (eqO (PySem.W.findIn K (.ref (ga K "NoPlace")) "__getattribute__") (some (some (.builtin "BaseException.__getattribute__"))) &&
  (eqO (PySem.W.findIn K (.ref (ga K "NoPlace")) "__getattr__") (some none) && (decide (PySem.W.typeIn K (.ref (ma K (ga K "NoPlace") "__init__")) = some (.type "function")) &&
  (decide (PySem.W.subIn K (.ref (ga K "NoPlace")) (.type "BaseException") = some true) && decide (PySem.W.typeIn K (.ref (ga K "NoPlace")) = some (.type "type")))))))))))))))
abbrev RR : PySem.W.OpenRow := PySem.W.OpenLaw.row PySem.Challenge.rw_eighthturns_k09_whole_idle_stretches
abbrev hk : PySem.W.Hook := He.hookX 5 faAll fnAll tabs [] exB
def ob (s : PySem.W.SharedT) : He.AlX := He.obsX 5 faAll fnAll tabs [] exB (HandSHeadRun.getT s)
theorem ob_eq (s : PySem.W.SharedT) : ob s = hk.obs s.abs := He.obsX_eq (HandSHeadRun.getT_eq s)
end DD
namespace DD
open PySem PySem.Spec L2
open PyProof.Rows hiding St
open He (Dv Fa DefD ga ma fAd ba eqO eqO_ok)
theorem run0 (w : World) : HandSHeadRun.RunEq RR (PySem.W.view RR.prog [87]) hk ob 6000 nms (w.withFollow "special-get-raises" false) := by
  intro os
  kernel_rfl
theorem run1 (w : World) : HandSHeadRun.RunEq RR (PySem.W.view RR.prog [87]) hk ob 6000 nms (w.withFollow "special-get-raises" true) := by
  intro os
  kernel_rfl
theorem run (w : World) : HandSHeadRun.RunEq RR (PySem.W.view RR.prog [87]) hk ob 6000 nms w :=
  PySem.W.byRow2 "special-get-raises" (P := fun w => HandSHeadRun.RunEq RR (PySem.W.view RR.prog [87]) hk ob 6000 nms w) run0 run1 w
end DD
/-! DD1: data over the hand layer: what a value stands for, the states of a body, the judgements. -/
namespace DD
open PySem PySem.Spec L2
open PyProof.Rows hiding St
open Evl (Ex ex_rd ex_l ex_t fresh_back)

/-! ### values and data -/
mutual
inductive Rp (K : PySem.W.Frag) (B : Hp) : V → PyData → Prop
  | non : Rp K B .non .none
  | bl (b : Bool) : Rp K B (.bl b) (.bool b)
  | int (i : Int) : Rp K B (.int i) (.int i)
  | str (x : Str) : Rp K B (.str x) (.str x)
  | lst {a : Addr} {xs : List V} {ds : List PyData} : B a = some (.lst xs) → RpL K B xs ds → Rp K B (.ref a) (.list ds)
  | tup {a : Addr} {xs : List V} {ds : List PyData} : SqT K B a xs → RpL K B xs ds → Rp K B (.ref a) (.tuple ds)
inductive RpL (K : PySem.W.Frag) (B : Hp) : List V → List PyData → Prop
  | nil : RpL K B [] []
  | cons {v : V} {vs : List V} {d : PyData} {ds : List PyData} : Rp K B v d → RpL K B vs ds → RpL K B (v :: vs) (d :: ds)
end
section
variable {K : PySem.W.Frag} {B B' : Hp}
mutual
theorem Rp.mono (e : Ex B B') : ∀ {d : PyData} {v : V}, Rp K B v d → Rp K B' v d
  | _, _, .non => .non
  | _, _, .bl b => .bl b
  | _, _, .int i => .int i
  | _, _, .str x => .str x
  | _, _, .lst h r => .lst (e _ _ h) (RpL.mono e r)
  | _, _, .tup h r => .tup (ex_t e h) (RpL.mono e r)
theorem RpL.mono (e : Ex B B') : ∀ {ds : List PyData} {vs : List V}, RpL K B vs ds → RpL K B' vs ds
  | _, _, .nil => .nil
  | _, _, .cons h r => .cons (Rp.mono e h) (RpL.mono e r)
end
mutual
theorem Rp.dp : ∀ {d : PyData} {v : V}, Rp K B v d → Dp K B v d
  | _, _, .non => .non
  | _, _, .bl b => .bl b
  | _, _, .int i => .int i
  | _, _, .str x => .str x
  | _, _, .lst h r => .lst (.inl (.inl h)) (RpL.dp r)
  | _, _, .tup h r => .tup h (RpL.dp r)
theorem RpL.dp : ∀ {ds : List PyData} {vs : List V}, RpL K B vs ds → DpAll K B vs ds
  | _, _, .nil => .nil
  | _, _, .cons h r => .cons (Rp.dp h) (RpL.dp r)
end
theorem RpL.length : ∀ {vs : List V} {ds : List PyData}, RpL K B vs ds → vs.length = ds.length
  | _, _, .nil => rfl
  | _, _, .cons _ r => congrArg (· + 1) (RpL.length r)
theorem RpL.get : ∀ {vs : List V} {ds : List PyData} {i : Nat} {d : PyData}, RpL K B vs ds → ds[i]? = some d → ∃ v, vs[i]? = some v ∧ Rp K B v d
  | _, _, _, _, .nil, e => by simp at e
  | _, _, 0, _, .cons h _, e => by simp at e; subst e; exact ⟨_, rfl, h⟩
  | _, _, i + 1, d, .cons _ t, e => by
    obtain ⟨u, h1, h2⟩ := RpL.get (i := i) (d := d) t (by simpa using e)
    exact ⟨u, by simpa using h1, h2⟩
theorem RpL.getV : ∀ {vs : List V} {ds : List PyData} {i : Nat} {v : V}, RpL K B vs ds → vs[i]? = some v → ∃ d, ds[i]? = some d ∧ Rp K B v d
  | _, _, _, _, .nil, e => by simp at e
  | _, _, 0, _, .cons h _, e => by simp at e; subst e; exact ⟨_, rfl, h⟩
  | _, _, i + 1, v, .cons _ t, e => by
    obtain ⟨u, h1, h2⟩ := RpL.getV (i := i) (v := v) t (by simpa using e)
    exact ⟨u, by simpa using h1, h2⟩
theorem RpL.append : ∀ {vs ws : List V} {ds es : List PyData}, RpL K B vs ds → RpL K B ws es → RpL K B (vs ++ ws) (ds ++ es)
  | _, _, _, _, .nil, s => s
  | _, _, _, _, .cons r t, s => .cons r (RpL.append t s)
theorem RpL.take : ∀ {vs : List V} {ds : List PyData} (n : Nat), RpL K B vs ds → RpL K B (vs.take n) (ds.take n)
  | _, _, 0, _ => .nil
  | _, _, _ + 1, .nil => .nil
  | _, _, n + 1, .cons r t => .cons r (RpL.take n t)
theorem RpL.drop : ∀ {vs : List V} {ds : List PyData} (n : Nat), RpL K B vs ds → RpL K B (vs.drop n) (ds.drop n)
  | _, _, 0, r => r
  | _, _, _ + 1, .nil => .nil
  | _, _, n + 1, .cons _ t => RpL.drop n t
theorem RpL.set {v : V} {d : PyData} (h : Rp K B v d) : ∀ {vs : List V} {ds : List PyData} (i : Nat), RpL K B vs ds → RpL K B (vs.set i v) (ds.set i d)
  | _, _, _, .nil => .nil
  | _, _, 0, .cons _ t => .cons h t
  | _, _, i + 1, .cons q t => .cons q (RpL.set h i t)
theorem RpL.erase : ∀ {vs : List V} {ds : List PyData} (i : Nat), RpL K B vs ds → RpL K B (vs.eraseIdx i) (ds.eraseIdx i)
  | _, _, _, .nil => .nil
  | _, _, 0, .cons _ t => t
  | _, _, i + 1, .cons q t => .cons q (RpL.erase i t)
theorem RpL.rep {vs : List V} {ds : List PyData} (h : RpL K B vs ds) : ∀ n : Nat, RpL K B (List.replicate n vs).flatten (List.replicate n ds).flatten
  | 0 => .nil
  | n + 1 => by
    rw [List.replicate_succ, List.replicate_succ, List.flatten_cons, List.flatten_cons]
    exact h.append (RpL.rep h n)
theorem RpL.nil_iff {vs : List V} {ds : List PyData} (h : RpL K B vs ds) : vs = [] ↔ ds = [] := by
  cases h with
  | nil => simp
  | cons _ _ => simp
theorem RpL.ints : ∀ {ns : List Int} {vs : List V}, RpL K B vs (ns.map PyData.int) → vs = ns.map V.int
  | [], _, .nil => rfl
  | n :: ns, _, .cons h t => by
    cases h
    rw [List.map_cons, RpL.ints t]
theorem RpL.of_ints : ∀ (ns : List Int), RpL K B (ns.map V.int) (ns.map PyData.int)
  | [] => .nil
  | n :: ns => .cons (.int n) (RpL.of_ints ns)
theorem RpL.bls : ∀ {ns : List Bool} {vs : List V}, RpL K B vs (ns.map PyData.bool) → vs = ns.map V.bl
  | [], _, .nil => rfl
  | n :: ns, _, .cons h t => by
    cases h
    rw [List.map_cons, RpL.bls t]
end

/-- a piece of a list, as cutV -/
def cutD (xs : List PyData) (lo hi : Option Int) : List PyData := (xs.drop (HT.sIx xs.length 0 lo)).take (HT.sIx xs.length xs.length hi - HT.sIx xs.length 0 lo)
theorem RpL.cut {K : PySem.W.Frag} {B : Hp} {vs : List V} {ds : List PyData} (h : RpL K B vs ds) (lo hi : Option Int) : RpL K B (cutV vs lo hi) (cutD ds lo hi) := by
  unfold cutV cutD
  rw [h.length]
  exact RpL.take _ (RpL.drop _ h)

/-! ### steps -/
structure Stp (B H B' H' : Hp) : Prop where
  b : Ex B B'
  bh : Ex B' H'
  h : Ex H H'
  f : ∀ p, B' p ≠ none → B p ≠ none ∨ H p = none
section
variable {B H B' H' B1 H1 B2 H2 : Hp}
theorem Stp.refl (e : Ex B H) : Stp B H B H := ⟨Ex.refl B, e, Ex.refl H, fun _ h => .inl h⟩
theorem Stp.trans (a : Stp B H B1 H1) (b : Stp B1 H1 B2 H2) : Stp B H B2 H2 :=
  ⟨a.b.trans b.b, b.bh, a.h.trans b.h, fun p h => by
    rcases b.f p h with q | q
    · exact a.f p q
    · exact .inr (fresh_back a.h q)⟩
theorem free_of (e : Ex B H) {p : Addr} (h : H p = none) : B p = none := fresh_back e h
theorem ex_upd (e : Ex B H) (p : Addr) (o : HO) : Ex (upd B p o) (upd H p o) := fun a u q => by
  by_cases hb : a = p
  · subst hb
    rw [upd_same] at q ⊢
    exact q
  · rw [upd_ne hb] at q ⊢
    exact e a u q
theorem Stp.new (e : Ex B H) {p : Addr} (o : HO) (h : H p = none) : Stp B H (upd B p o) (upd H p o) :=
  ⟨Ex.new (free_of e h), ex_upd e p o, Ex.new h, fun q hq => by
    by_cases hb : q = p
    · subst hb; exact .inr h
    · rw [upd_ne hb] at hq; exact .inl hq⟩
/-- the heap grows, what is leant on stays -/
theorem Stp.grow (e : Ex B H) (h : Ex H H') : Stp B H B H' := ⟨Ex.refl B, e.trans h, h, fun _ q => .inl q⟩
end

/-! ### the slots of a body -/
structure Wd where
  B0 : Hp
  H0 : Hp
  ta : Option Addr
/-- what is known of a slot: nothing | data | a list that is the body's own | the source of draws | a dict of one's own by rows -/
inductive Sl where
  | no | d (x : PyData) | own (xs : List PyData) | tin (n : Nat) | dict (kvs : List (PyData × Int)) | seq (xs : List PyData)
def Sl.owned : Sl → Bool
  | .own _ => true
  | .dict _ => true
  | _ => false
def TinOk (H : Hp) (a : Addr) (n : Nat) : Prop := ∃ x y k : Int, H a = some (.lst [.int x, .int y, .int k]) ∧ 0 ≤ x ∧ 0 ≤ y ∧ y < 2 ^ 62 ∧ 0 ≤ k ∧ k ≤ (n : Int)
/-- the program, the world, the written part -/
structure Pr where
  P : Program
  w : World
  K : PySem.W.Frag
abbrev _root_.L2.Cx.pr (X : Cx) : Pr := ⟨X.prog, X.w, X.K⟩
/-- a dict object: its raw entries' keys (addresses), and values -/
def RawDict (p : Pr) (a : Addr) (es : List (NestedKey × Addr × Int)) : HO := .ext fun h => (a == sysModules) = false ∧ ∃ (o : Obj) (des : Array DictEntry) (ep : Nat), h.get? a = some o ∧ o.ExactDict ∧ o.data = .dict des ep ∧
  ∃ vs : List (NestedKey × Addr × Value), des.toList = vs.map (entryOfKey (nestedKind p.P p.w)) ∧ (vs.map (·.1)).Nodup ∧ Paired (fun (q : NestedKey × Addr × Int) (r : NestedKey × Addr × Value) => q.1 = r.1 ∧ q.2.1 = r.2.1 ∧ RelV (.int q.2.2) r.2.2) es vs
mutual
def nk : PyData → NestedKey
  | .none => .none
  | .bool b => .num (if b = true then 1 else 0)
  | .int i => .num i
  | .str x => .text x
  | .tuple ds => .tup (nks ds)
  | .list _ => .none
  | .dict _ => .none
def nks : List PyData → List NestedKey
  | [] => []
  | d :: ds => nk d :: nks ds
end
/-- the entries of a dict: each key's tuple stands for its row -/
def KeysOk (K : PySem.W.Frag) (B : Hp) (kvs : List (PyData × Int)) (es : List (NestedKey × Addr × Int)) : Prop :=
  Paired (fun (q : PyData × Int) (r : NestedKey × Addr × Int) => r.1 = nk q.1 ∧ r.2.2 = q.2 ∧ Rp K B (.ref r.2.1) q.1) kvs es
def SlOk (p : Pr) (c : Wd) (B H : Hp) (x : Option (Option V)) : Sl → Prop
  | .no => True
  | .d d => ∃ v, x = some (some v) ∧ Rp p.K B v d
  | .own ds => ∃ a xs, x = some (some (.ref a)) ∧ B a = none ∧ c.H0 a = none ∧ H a = some (.lst xs) ∧ RpL p.K B xs ds
  | .seq ds => ∃ a xs, x = some (some (.ref a)) ∧ SqL p.K B a xs ∧ RpL p.K B xs ds
  | .tin n => ∃ a, x = some (some (.ref a)) ∧ c.ta = some a ∧ TinOk H a n
  | .dict kvs => ∃ a es, x = some (some (.ref a)) ∧ B a = none ∧ c.H0 a = none ∧ H a = some (RawDict p a es) ∧ KeysOk p.K B kvs es
structure Sx (p : Pr) (c : Wd) (ρ : List Sl) (σ : St) (B H : Hp) : Prop where
  b0 : Ex c.B0 B
  bh : Ex B H
  h0 : ∀ b o, c.ta ≠ some b → c.H0 b = some o → H b = some o
  fr : ∀ q, B q ≠ none → c.B0 q ≠ none ∨ c.H0 q = none
  tk : ∀ a, c.ta = some a → B a = none ∧ H a ≠ none ∧ c.H0 a ≠ none
  len : σ.length = ρ.length
  sl : ∀ (i : Nat) (s : Sl), ρ[i]? = some s → SlOk p c B H σ[i]? s
  sep : ∀ (i j : Nat) (a : Addr), i ≠ j → (ρ[i]?.map Sl.owned) = some true → (ρ[j]?.map Sl.owned) = some true → σ[i]? = some (some (.ref a)) → σ[j]? ≠ some (some (.ref a))
section
variable {p : Pr} {c : Wd} {ρ : List Sl} {σ : St} {B H B' H' : Hp}
theorem KeysOk.mono {K : PySem.W.Frag} (e : Ex B B') : ∀ {kvs : List (PyData × Int)} {es : List (NestedKey × Addr × Int)}, KeysOk K B kvs es → KeysOk K B' kvs es
  | _, _, .nil => .nil
  | _, _, .cons h t => .cons ⟨h.1, h.2.1, h.2.2.mono e⟩ (KeysOk.mono e t)
theorem SlOk.stp {x : Option (Option V)} {s : Sl} (h : SlOk p c B H x s) (st : Stp B H B' H') : SlOk p c B' H' x s := by
  cases s with
  | no => trivial
  | d d =>
    obtain ⟨v, e, r⟩ := h
    exact ⟨v, e, r.mono st.b⟩
  | own ds =>
    obtain ⟨a, xs, e, hb, h0, hh, r⟩ := h
    refine ⟨a, xs, e, ?_, h0, st.h _ _ hh, r.mono st.b⟩
    cases q : B' a with
    | none => rfl
    | some o =>
      rcases st.f a (by rw [q]; simp) with z | z
      · exact absurd hb z
      · rw [hh] at z; cases z
  | seq ds =>
    obtain ⟨a, xs, e, hs, r⟩ := h
    exact ⟨a, xs, e, Evl.ex_l st.b hs, r.mono st.b⟩
  | tin n =>
    obtain ⟨a, e, t, x, y, k, hh, r⟩ := h
    exact ⟨a, e, t, x, y, k, st.h _ _ hh, r⟩
  | dict kvs =>
    obtain ⟨a, es, e, hb, h0, hh, r⟩ := h
    refine ⟨a, es, e, ?_, h0, st.h _ _ hh, r.mono st.b⟩
    cases q : B' a with
    | none => rfl
    | some o =>
      rcases st.f a (by rw [q]; simp) with z | z
      · exact absurd hb z
      · rw [hh] at z; cases z
theorem Sx.h0n (S : Sx p c ρ σ B H) {q : Addr} (h : H q = none) : c.H0 q = none := by
  cases e : c.H0 q with
  | none => rfl
  | some o =>
    by_cases t : c.ta = some q
    · exact absurd h (S.tk q t).2.1
    · have := S.h0 q o t e
      rw [h] at this; cases this
theorem Sx.stp (S : Sx p c ρ σ B H) (st : Stp B H B' H') : Sx p c ρ σ B' H' where
  b0 := S.b0.trans st.b
  bh := st.bh
  h0 := fun b o t e => st.h _ _ (S.h0 b o t e)
  fr := fun q h => by
    rcases st.f q h with z | z
    · exact S.fr q z
    · exact .inr (S.h0n z)
  tk := fun a t => by
    obtain ⟨h1, h2, h3⟩ := S.tk a t
    refine ⟨?_, fun z => h2 (fresh_back st.h z), h3⟩
    cases q : B' a with
    | none => rfl
    | some o =>
      rcases st.f a (by rw [q]; simp) with z | z
      · exact absurd h1 z
      · exact absurd z h2
  len := S.len
  sl := fun i s e => (S.sl i s e).stp st
  sep := S.sep
/-- a slot takes a value -/
theorem Sx.put {i : Nat} {v : V} {s : Sl} (S : Sx p c ρ σ B H) (hs : SlOk p c B H (some (some v)) s)
    (new : s.owned = true → ∀ (j : Nat) (a : Addr), j ≠ i → (ρ[j]?.map Sl.owned) = some true → v = .ref a → σ[j]? ≠ some (some (.ref a))) : Sx p c (ρ.set i s) (σ.set i (some v)) B H where
  b0 := S.b0
  bh := S.bh
  h0 := S.h0
  fr := S.fr
  tk := S.tk
  len := by rw [List.length_set, List.length_set]; exact S.len
  sl := fun j t e => by
    by_cases h : i = j
    · subst h
      by_cases hi : i < ρ.length
      · rw [List.getElem?_set_self hi] at e
        cases e
        rw [List.getElem?_set_self (by rw [S.len]; exact hi)]
        exact hs
      · rw [List.getElem?_eq_none (by rw [List.length_set]; omega)] at e; cases e
    · rw [List.getElem?_set_ne h] at e ⊢
      exact S.sl j t e
  sep := fun j k a hjk h1 h2 h3 => by
    by_cases hj : i = j
    · subst hj
      by_cases hi : i < ρ.length
      · rw [List.getElem?_set_self hi] at h1
        rw [List.getElem?_set_self (by rw [S.len]; exact hi)] at h3
        rw [List.getElem?_set_ne hjk] at h2 ⊢
        simp only [Option.map_some, Option.some.injEq] at h1 h3
        exact new h1 k a (Ne.symm hjk) h2 h3
      · rw [List.getElem?_eq_none (by rw [List.length_set]; omega)] at h1; cases h1
    · by_cases hk : i = k
      · subst hk
        by_cases hi : i < ρ.length
        · rw [List.getElem?_set_self hi] at h2
          rw [List.getElem?_set_self (by rw [S.len]; exact hi)]
          rw [List.getElem?_set_ne hj] at h1 h3
          simp only [Option.map_some, Option.some.injEq] at h2
          intro z
          simp only [Option.some.injEq] at z
          exact new h2 j a (Ne.symm hj) h1 z h3
        · rw [List.getElem?_eq_none (by rw [List.length_set]; omega)] at h2; cases h2
      · rw [List.getElem?_set_ne hj] at h1 h3
        rw [List.getElem?_set_ne hk] at h2 ⊢
        exact S.sep j k a hjk h1 h2 h3
theorem Sx.putD {i : Nat} {v : V} {d : PyData} (S : Sx p c ρ σ B H) (r : Rp p.K B v d) : Sx p c (ρ.set i (.d d)) (σ.set i (some v)) B H :=
  S.put ⟨v, rfl, r⟩ (fun h => by cases h)
/-- what is known of a slot is forgotten, its value may be any -/
theorem Sx.forget {i : Nat} {x : Option V} (S : Sx p c ρ σ B H) : Sx p c (ρ.set i .no) (σ.set i x) B H where
  b0 := S.b0
  bh := S.bh
  h0 := S.h0
  fr := S.fr
  tk := S.tk
  len := by rw [List.length_set, List.length_set]; exact S.len
  sl := fun j t e => by
    by_cases h : i = j
    · subst h
      by_cases hi : i < ρ.length
      · rw [List.getElem?_set_self hi] at e
        cases e
        trivial
      · rw [List.getElem?_eq_none (by rw [List.length_set]; omega)] at e; cases e
    · rw [List.getElem?_set_ne h] at e ⊢
      exact S.sl j t e
  sep := fun j k a hjk h1 h2 h3 => by
    have nj : ∀ j : Nat, ((ρ.set i Sl.no)[j]?.map Sl.owned) = some true → i ≠ j ∧ (ρ[j]?.map Sl.owned) = some true := fun j h => by
      by_cases hj : i = j
      · subst hj
        by_cases hi : i < ρ.length
        · rw [List.getElem?_set_self hi] at h; cases h
        · rw [List.getElem?_eq_none (by rw [List.length_set]; omega)] at h; cases h
      · rw [List.getElem?_set_ne hj] at h
        exact ⟨hj, h⟩
    obtain ⟨hj, h1⟩ := nj j h1
    obtain ⟨hk, h2⟩ := nj k h2
    rw [List.getElem?_set_ne hj] at h3
    rw [List.getElem?_set_ne hk]
    exact S.sep j k a hjk h1 h2 h3
theorem Sx.drop {i : Nat} (S : Sx p c ρ σ B H) : Sx p c (ρ.set i .no) σ B H := by
  by_cases hi : i < σ.length
  · have := S.forget (i := i) (x := σ[i])
    rwa [List.set_getElem_self] at this
  · rw [List.set_eq_of_length_le (by rw [← S.len]; omega)]
    exact S
end

/-! ### what evaluates to what -/
def EV (p : Pr) (c : Wd) (te : TE) (ρ : List Sl) (d : PyData) : Prop := ∀ σ B H, Sx p c ρ σ B H → ∀ Q : VK, (∀ v B' H', Stp B H B' H' → Rp p.K B' v d → Q v H') → te σ H Q
def EVT (p : Pr) (c : Wd) (tt : TT) (ρ : List Sl) (b : Bool) : Prop := ∀ σ B H, Sx p c ρ σ B H → ∀ Q : Bool → Hp → Prop, (∀ B' H', Stp B H B' H' → Q b H') → tt σ H Q
def EVA (p : Pr) (c : Wd) (ta : TA) (ρ : List Sl) (ds : List PyData) : Prop := ∀ σ B H, Sx p c ρ σ B H → ∀ Q : List V → Hp → Prop, (∀ vs B' H', Stp B H B' H' → RpL p.K B' vs ds → Q vs H') → ta σ H Q
def EVO (p : Pr) (c : Wd) (to : TO) (ρ : List Sl) (o : Option Int) : Prop := ∀ σ B H, Sx p c ρ σ B H → ∀ Q : Option Int → Hp → Prop, (∀ B' H', Stp B H B' H' → Q o H') → to σ H Q
/-- a new list, not leant on yet -/
def EVN (p : Pr) (c : Wd) (te : TE) (ρ : List Sl) (ds : List PyData) : Prop := ∀ σ B H, Sx p c ρ σ B H → ∀ Q : VK, (∀ a xs B' H', Stp B H B' H' → B' a = none → H a = none → H' a = some (.lst xs) → RpL p.K B' xs ds → Q (.ref a) H') → te σ H Q
/-- the source of draws may be turned: P of the value and of what is known behind it -/
def OwnAt (ρ : List Sl) (σ : St) (b : Addr) : Prop := ∃ i : Nat, (ρ[i]?.map Sl.owned) = some true ∧ σ[i]? = some (some (.ref b))
structure XSt (c : Wd) (ρ : List Sl) (σ : St) (B H B' H' : Hp) : Prop where
  b : Ex B B'
  h : ∀ b o, c.ta ≠ some b → ¬ OwnAt ρ σ b → H b = some o → H' b = some o
  f : ∀ q, B' q ≠ none → B q ≠ none ∨ H q = none
theorem Stp.x {c : Wd} {ρ : List Sl} {σ : St} {B H B' H' : Hp} (s : Stp B H B' H') : XSt c ρ σ B H B' H' := ⟨s.b, fun b o _ _ e => s.h b o e, s.f⟩
def EX (p : Pr) (c : Wd) (te : TE) (ρ : List Sl) (P : PyData → List Sl → Prop) : Prop := ∀ σ B H, Sx p c ρ σ B H → ∀ Q : VK, (∀ v B' H' d ρ', P d ρ' → XSt c ρ σ B H B' H' → Sx p c ρ' σ B' H' → Rp p.K B' v d → Q v H') → te σ H Q
structure EndsD where
  nx : List Sl → Prop := fun _ => False
  rt : PyData → List Sl → Prop := fun _ _ => False
  bk : List Sl → Prop := fun _ => False
  ct : List Sl → Prop := fun _ => False
structure EndsOk (p : Pr) (c : Wd) (B : Hp) (E : EndsD) (D : Ends) : Prop where
  nx : ∀ ρ' σ' B' H', E.nx ρ' → Ex B B' → Sx p c ρ' σ' B' H' → D.nx σ' H'
  rt : ∀ d v ρ' σ' B' H', E.rt d ρ' → Ex B B' → Sx p c ρ' σ' B' H' → Rp p.K B' v d → D.rt v H'
  bk : ∀ ρ' σ' B' H', E.bk ρ' → Ex B B' → Sx p c ρ' σ' B' H' → D.bk σ' H'
  ct : ∀ ρ' σ' B' H', E.ct ρ' → Ex B B' → Sx p c ρ' σ' B' H' → D.ct σ' H'
theorem EndsOk.up {p : Pr} {c : Wd} {B B1 : Hp} {E : EndsD} {D : Ends} (h : EndsOk p c B E D) (e : Ex B B1) : EndsOk p c B1 E D :=
  ⟨fun a b c d x y => h.nx a b c d x (e.trans y), fun a b c d f g x y => h.rt a b c d f g x (e.trans y), fun a b c d x y => h.bk a b c d x (e.trans y), fun a b c d x y => h.ct a b c d x (e.trans y)⟩
def SV (p : Pr) (c : Wd) (ts : TS) (ρ : List Sl) (E : EndsD) : Prop := ∀ σ B H, Sx p c ρ σ B H → ∀ D : Ends, EndsOk p c B E D → ts D σ H

/-! ### the strongest readings -/
section
variable (X : Cx)
def wE (e : Expr) : TE := fun σ H Q => ∃ t, PE X e t ∧ t σ H Q
def wT (e : Expr) : TT := fun σ H Q => ∃ t, PT X e t ∧ t σ H Q
def wA (es : List Expr) : TA := fun σ H Q => ∃ t, PA X es t ∧ t σ H Q
def wO (e : Option Expr) : TO := fun σ H Q => ∃ t, PO X e t ∧ t σ H Q
def wS (st : Stmt) : TS := fun D σ H => ∃ t, PS X st t ∧ t D σ H
def wSs (sts : List Stmt) : TS := fun D σ H => ∃ t, PSs X sts t ∧ t D σ H
def wI (tg iter : Expr) : TI := fun σ H R => ∃ t, PI X tg iter t ∧ t σ H R
def wTs (es : List Expr) : TT := fun σ H Q => ∃ t, PTs X es t ∧ t σ H Q
theorem pe_w {e : Expr} : PE X e (wE X e) := ⟨fun pins s σ H Q I ⟨_, h, q⟩ => h.run pins s σ H Q I q⟩
theorem pt_w {e : Expr} : PT X e (wT X e) := ⟨fun pins s σ H Q I ⟨_, h, q⟩ => h.run pins s σ H Q I q⟩
theorem pa_w {es : List Expr} : PA X es (wA X es) := ⟨fun pos pins s σ H Q I ⟨_, h, q⟩ => h.run pos pins s σ H Q I q⟩
theorem po_w {e : Option Expr} : PO X e (wO X e) := ⟨fun pins s σ H Q I ⟨_, h, q⟩ => h.run pins s σ H Q I q⟩
theorem ps_w {st : Stmt} : PS X st (wS X st) := ⟨fun pins s σ H D I ⟨_, h, q⟩ => h.run pins s σ H D I q⟩
theorem pss_w {sts : List Stmt} : PSs X sts (wSs X sts) := ⟨fun pins s σ H D I ⟨_, h, q⟩ => h.run pins s σ H D I q⟩
theorem pi_w {tg iter : Expr} : PI X tg iter (wI X tg iter) := ⟨fun pins s σ H R I ⟨_, h, q⟩ => h.run pins s σ H R I q⟩
theorem pts_w {es : List Expr} : PTs X es (wTs X es) := ⟨fun pins s σ H Q I ⟨_, h, q⟩ => h.run pins s σ H Q I q⟩
def DE (c : Wd) (ρ : List Sl) (e : Expr) (d : PyData) : Prop := EV X.pr c (wE X e) ρ d
def DT (c : Wd) (ρ : List Sl) (e : Expr) (b : Bool) : Prop := EVT X.pr c (wT X e) ρ b
def DTs (c : Wd) (ρ : List Sl) (es : List Expr) (b : Bool) : Prop := EVT X.pr c (wTs X es) ρ b
def DA (c : Wd) (ρ : List Sl) (es : List Expr) (ds : List PyData) : Prop := EVA X.pr c (wA X es) ρ ds
def DO (c : Wd) (ρ : List Sl) (e : Option Expr) (o : Option Int) : Prop := EVO X.pr c (wO X e) ρ o
def DN (c : Wd) (ρ : List Sl) (e : Expr) (ds : List PyData) : Prop := EVN X.pr c (wE X e) ρ ds
def DX (c : Wd) (ρ : List Sl) (e : Expr) (P : PyData → List Sl → Prop) : Prop := EX X.pr c (wE X e) ρ P
def DS (c : Wd) (ρ : List Sl) (sts : List Stmt) (E : EndsD) : Prop := SV X.pr c (wSs X sts) ρ E
end
section
variable {X : Cx} {c : Wd} {ρ : List Sl} {e : Expr} {d : PyData}
theorem de_of {t : TE} (h : PE X e t) (v : EV X.pr c t ρ d) : DE X c ρ e d := fun σ B H S Q q => ⟨t, h, v σ B H S Q q⟩
theorem dt_of {t : TT} {b : Bool} (h : PT X e t) (v : EVT X.pr c t ρ b) : DT X c ρ e b := fun σ B H S Q q => ⟨t, h, v σ B H S Q q⟩
theorem dn_of {t : TE} {ds : List PyData} (h : PE X e t) (v : EVN X.pr c t ρ ds) : DN X c ρ e ds := fun σ B H S Q q => ⟨t, h, v σ B H S Q q⟩
theorem dx_of {t : TE} {P : PyData → List Sl → Prop} (h : PE X e t) (v : EX X.pr c t ρ P) : DX X c ρ e P := fun σ B H S Q q => ⟨t, h, v σ B H S Q q⟩
theorem do_of {t : TO} {e : Option Expr} {o : Option Int} (h : PO X e t) (v : EVO X.pr c t ρ o) : DO X c ρ e o := fun σ B H S Q q => ⟨t, h, v σ B H S Q q⟩
theorem da_of {t : TA} {es : List Expr} {ds : List PyData} (h : PA X es t) (v : EVA X.pr c t ρ ds) : DA X c ρ es ds := fun σ B H S Q q => ⟨t, h, v σ B H S Q q⟩
theorem ds_of {t : TS} {sts : List Stmt} {E : EndsD} (h : PSs X sts t) (v : SV X.pr c t ρ E) : DS X c ρ sts E := fun σ B H S D q => ⟨t, h, v σ B H S D q⟩
/-- a new list may be leant on -/
theorem DN.de {ds : List PyData} (h : DN X c ρ e ds) : DE X c ρ e (.list ds) := fun σ B H S Q q =>
  h σ B H S Q fun a xs B' H' st hb hn hh r => q (.ref a) (upd B' a (.lst xs)) H' ⟨fun b o e => by
      have z := st.b b o e
      have ne : b ≠ a := fun w => by rw [w, hb] at z; cases z
      rw [upd_ne ne]; exact z, fun b o e => by
      by_cases w : b = a
      · subst w; rw [upd_same] at e; cases e; exact hh
      · rw [upd_ne w] at e; exact st.bh b o e, st.h, fun b e => by
      by_cases w : b = a
      · subst w; exact .inr hn
      · rw [upd_ne w] at e; exact st.f b e⟩ (.lst upd_same (r.mono (Ex.new hb)))
theorem DE.dx (h : DE X c ρ e d) : DX X c ρ e (fun d' ρ' => d' = d ∧ ρ' = ρ) := fun σ B H S Q q => h σ B H S Q fun v B' H' st r => q v B' H' d ρ ⟨rfl, rfl⟩ st.x (S.stp st) r
theorem DE.is {d' : PyData} (h : DE X c ρ e d) (e' : d = d') : DE X c ρ e d' := e' ▸ h
theorem DT.is {b b' : Bool} (h : DT X c ρ e b) (e' : b = b') : DT X c ρ e b' := e' ▸ h
end
end DD
/-! DD2: the rules of expressions. -/
namespace DD
open PySem PySem.Spec L2
open PyProof.Rows hiding St
open Evl (Ex ex_rd ex_l ex_t fresh_back)
theorem line_of {n : Nat} (h : n ≤ 100000) : n ≤ sizeLine := Nat.le_trans h (by decide)
theorem line_lt {n : Nat} (h : n < 100000) : n < sizeLine := Nat.lt_of_lt_of_le h (by decide)
section
variable {X : Cx} {c : Wd} {ρ : List Sl} {e a b : Expr} {es : List Expr} {d da db : PyData} {ds : List PyData} {pos p2 : Pos} {i j : Int}

/-! ### names, constants -/
theorem de_var (n : Nat) {x : Str} (h : ρ[n]? = some (.d d)) (hN : X.N[n]? = some x := by rfl) (hv : Vis X.env.scope x := by first | exact Or.inl rfl | exact Or.inr (Or.inl rfl) | exact Or.inr (Or.inr rfl)) (hd : (x == ("__debug__" : Str)) = false := by decide)
    (hcd : (x == ("__classdict__" : Str)) = false := by decide) : DE X c ρ (.Name x pos) d :=
  de_of (pe_var hN hv hd hcd) fun σ B H S Q q => by
    obtain ⟨v, e, r⟩ := S.sl n _ h
    exact ⟨v, e, q v B H (Stp.refl S.bh) r⟩
theorem de_int {k : Nat} : DE X c ρ (.Constant (.int i) k pos) (.int i) := de_of pe_int fun σ B H S Q q => q _ B H (Stp.refl S.bh) (.int i)
theorem de_bl {k : Nat} {b : Bool} : DE X c ρ (.Constant (.bool b) k pos) (.bool b) := de_of pe_bl fun σ B H S Q q => q _ B H (Stp.refl S.bh) (.bl b)
theorem de_non {k : Nat} : DE X c ρ (.Constant .none k pos) .none := de_of pe_non fun σ B H S Q q => q _ B H (Stp.refl S.bh) .non
theorem de_str {k : Nat} {x : Str} : DE X c ρ (.Constant (.str x) k pos) (.str x) := de_of pe_str fun σ B H S Q q => q _ B H (Stp.refl S.bh) (.str x)
theorem de_glob {x : Str} {v : V} {u : Value} (hg : Gl X x) (hm : X.mg x = some u) (r : RelV v u) (hr : ∀ B, Rp X.K B v d) (hd : (x == ("__debug__" : Str)) = false := by decide) : DE X c ρ (.Name x pos) d :=
  de_of (pe_glob hg hm r hd) fun σ B H S Q q => q v B H (Stp.refl S.bh) (hr B)

/-! ### operators -/
/-- a two-place operation on data -/
def OpD (K : PySem.W.Frag) (r : R2) (da db d : PyData) : Prop := ∀ x y B H (Q : VK), Ex B H → Rp K B x da → Rp K B y db → (∀ v B' H', Stp B H B' H' → Rp K B' v d → Q v H') → r x y H Q
def BinOk (X : Cx) (op : Operator) (da db d : PyData) : Prop := ∃ r : R2, OpR X (binaryOp op) r ∧ OpD X.K r da db d
def CmpOk (X : Cx) (op : CmpOp) (da db : PyData) (b : Bool) : Prop := ∃ r : R2, OpR X (compareOp op) r ∧ OpD X.K r da db (.bool b)
theorem ev_op {r : R2} {ta tb : TE} (ha : EV X.pr c ta ρ da) (hb : EV X.pr c tb ρ db) (h : OpD X.K r da db d) : EV X.pr c (tOp r ta tb) ρ d := fun σ B H S Q q =>
  ha σ B H S _ fun x B1 H1 s1 r1 => hb σ B1 H1 (S.stp s1) _ fun y B2 H2 s2 r2 => h x y B2 H2 Q s2.bh (r1.mono s2.b) r2 fun v B' H' s3 r3 => q v B' H' ((s1.trans s2).trans s3) r3
theorem de_bin {op : Operator} (ha : DE X c ρ a da) (hb : DE X c ρ b db) (h : BinOk X op da db d) : DE X c ρ (.BinOp a op b pos) d := by
  obtain ⟨r, ho, hd⟩ := h
  exact de_of (pe_op ho (pe_w X) (pe_w X)) (ev_op ha hb hd)
theorem de_cmp {op : CmpOp} {k : Bool} (ha : DE X c ρ a da) (hb : DE X c ρ b db) (h : CmpOk X op da db k) (hm : behindInMarks op b = false := by first | exact nomark _ | rfl) : DE X c ρ (.Compare a [op] [b] pos) (.bool k) := by
  obtain ⟨r, ho, hd⟩ := h
  exact de_of (pe_cmpR ho (pe_w X) (pe_w X) hm) (ev_op ha hb hd)
theorem dt_cmp {op : CmpOp} {k : Bool} (ha : DE X c ρ a da) (hb : DE X c ρ b db) (h : CmpOk X op da db k) (hm : behindInMarks op b = false := by first | exact nomark _ | rfl) : DT X c ρ (.Compare a [op] [b] pos) k := by
  obtain ⟨r, ho, hd⟩ := h
  exact dt_of (pt_cmpR ho (pe_w X) (pe_w X) hm) fun σ B H S Q q => ev_op ha hb hd σ B H S _ fun v B' H' st rv => by
    cases rv
    exact ⟨k, rfl, q B' H' st⟩
/-! #### ints -/
theorem opd_I0 {K : PySem.W.Frag} {g : Int → Int → V} (h : ∀ B, Rp K B (g i j) d) : OpD K (rI0 g) (.int i) (.int j) d := fun x y B H Q e rx ry q => by
  cases rx; cases ry
  exact ⟨i, j, rfl, rfl, q _ B H (Stp.refl e) (h B)⟩
theorem opd_I {K : PySem.W.Frag} {C : Int → Int → Prop} {g : Int → Int → V} (hc : C i j) (h : ∀ B, Rp K B (g i j) d) : OpD K (rI C g) (.int i) (.int j) d := fun x y B H Q e rx ry q => by
  cases rx; cases ry
  exact ⟨i, j, rfl, rfl, hc, q _ B H (Stp.refl e) (h B)⟩
theorem b_add : BinOk X .Add (.int i) (.int j) (.int (i + j)) := ⟨_, op_add, opd_I0 fun _ => .int _⟩
theorem b_sub : BinOk X .Sub (.int i) (.int j) (.int (i - j)) := ⟨_, op_sub, opd_I0 fun _ => .int _⟩
theorem b_mulL (h1 : -(2 ^ 64) < i) (h2 : i < 2 ^ 64) : BinOk X .Mult (.int i) (.int j) (.int (i * j)) := ⟨_, op_mul, opd_I (Or.inl ⟨h1, h2⟩) fun _ => .int _⟩
theorem b_mulR (h1 : -(2 ^ 64) < j) (h2 : j < 2 ^ 64) : BinOk X .Mult (.int i) (.int j) (.int (i * j)) := ⟨_, op_mul, opd_I (Or.inr ⟨h1, h2⟩) fun _ => .int _⟩
theorem b_div (h1 : 0 < j) (h2 : j < 1073741824) : BinOk X .FloorDiv (.int i) (.int j) (.int (i / j)) := ⟨_, op_fdiv, opd_I (show CDiv i j from ⟨h1, h2⟩) fun _ => .int _⟩
theorem b_mod (h1 : 0 < j) : BinOk X .Mod (.int i) (.int j) (.int (i % j)) := ⟨_, op_mod, opd_I h1 fun _ => .int _⟩
theorem b_pow (h : CPow i j) : BinOk X .Pow (.int i) (.int j) (.int (i ^ j.toNat)) := ⟨_, op_pow, opd_I h fun _ => .int _⟩
theorem b_shl (h : CPow i j) : BinOk X .LShift (.int i) (.int j) (.int (i * 2 ^ j.toNat)) := ⟨_, op_shl, opd_I h fun _ => .int _⟩
theorem b_and : BinOk X .BitAnd (.int i) (.int j) (.int (Builtin.bitAnd i j)) := ⟨_, op_and, opd_I0 fun _ => .int _⟩
theorem c_lt : CmpOk X .Lt (.int i) (.int j) (decide (i < j)) := ⟨_, op_lt, opd_I0 fun _ => .bl _⟩
theorem c_le : CmpOk X .LtE (.int i) (.int j) (decide (i ≤ j)) := ⟨_, op_le, opd_I0 fun _ => .bl _⟩
theorem c_gt : CmpOk X .Gt (.int i) (.int j) (decide (j < i)) := ⟨_, op_gt, opd_I0 fun _ => .bl _⟩
theorem c_ge : CmpOk X .GtE (.int i) (.int j) (decide (j ≤ i)) := ⟨_, op_ge, opd_I0 fun _ => .bl _⟩
/-! #### scalars' == -/
def flatD : PyData → Option V
  | .none => some .non
  | .bool b => some (.bl b)
  | .int i => some (.int i)
  | .str x => some (.str x)
  | _ => none
theorem flatD_eq {K : PySem.W.Frag} {B : Hp} {v w : V} (h : Rp K B v d) (e : flatD d = some w) : v = w := by
  cases h <;> simp [flatD] at e <;> exact e
theorem c_eqS {v w : V} (h1 : flatD da = some v) (h2 : flatD db = some w) (hs : scal v w = true) : CmpOk X .Eq da db (decide (v = w)) := ⟨_, op_eq, fun x y B H Q e rx ry q => by
  rw [flatD_eq rx h1, flatD_eq ry h2]
  exact ⟨hs, q _ B H (Stp.refl e) (.bl _)⟩⟩
theorem c_neS {v w : V} (h1 : flatD da = some v) (h2 : flatD db = some w) (hs : scal v w = true) : CmpOk X .NotEq da db (!decide (v = w)) := ⟨_, op_ne, fun x y B H Q e rx ry q => by
  rw [flatD_eq rx h1, flatD_eq ry h2]
  exact ⟨hs, q _ B H (Stp.refl e) (.bl _)⟩⟩
theorem c_eqI : CmpOk X .Eq (.int i) (.int j) (decide (i = j)) := by
  have := c_eqS (X := X) (da := .int i) (db := .int j) rfl rfl rfl
  rwa [show decide (V.int i = V.int j) = decide (i = j) by simp] at this
theorem c_eqT {x y : Str} : CmpOk X .Eq (.str x) (.str y) (decide (x = y)) := by
  have := c_eqS (X := X) (da := .str x) (db := .str y) rfl rfl rfl
  rwa [show decide (V.str x = V.str y) = decide (x = y) by simp] at this
theorem c_eqB {x y : Bool} : CmpOk X .Eq (.bool x) (.bool y) (decide (x = y)) := by
  have := c_eqS (X := X) (da := .bool x) (db := .bool y) rfl rfl rfl
  rwa [show decide (V.bl x = V.bl y) = decide (x = y) by simp] at this
theorem c_neB {x y : Bool} : CmpOk X .NotEq (.bool x) (.bool y) (!decide (x = y)) := by
  have := c_neS (X := X) (da := .bool x) (db := .bool y) rfl rfl rfl
  rwa [show decide (V.bl x = V.bl y) = decide (x = y) by simp] at this
theorem c_neI : CmpOk X .NotEq (.int i) (.int j) (!decide (i = j)) := by
  have := c_neS (X := X) (da := .int i) (db := .int j) rfl rfl rfl
  rwa [show decide (V.int i = V.int j) = decide (i = j) by simp] at this
theorem c_isN {k : Bool} (h : k = (match da with | .none => true | _ => false)) : CmpOk X .Is da .none k := ⟨_, op_isN, fun x y B H Q e rx ry q => by
  cases ry
  refine ⟨rfl, ?_⟩
  have : decide (x = V.non) = k := by subst h; cases rx <;> simp
  rw [this]
  exact q _ B H (Stp.refl e) (.bl _)⟩
theorem c_notN {k : Bool} (h : k = (match da with | .none => false | _ => true)) : CmpOk X .IsNot da .none k := ⟨_, op_notN, fun x y B H Q e rx ry q => by
  cases ry
  refine ⟨rfl, ?_⟩
  have : (!decide (x = V.non)) = k := by subst h; cases rx <;> simp
  rw [this]
  exact q _ B H (Stp.refl e) (.bl _)⟩
/-! #### == of any data, in -/
theorem c_eqD (hu : X.A.units + 64 < cLine) (h1 : SeqAt.shaped da = true) (h2 : SeqAt.shaped db = true) : CmpOk X .Eq da db (PyData.eqv da db) := ⟨_, op_eqD hu, fun x y B H Q e rx ry q =>
  ⟨da, db, (rx.mono e).dp, (ry.mono e).dp, h1, h2, q _ B H (Stp.refl e) (.bl _)⟩⟩
theorem c_neD (hu : X.A.units + 64 < cLine) (h1 : SeqAt.shaped da = true) (h2 : SeqAt.shaped db = true) : CmpOk X .NotEq da db (!PyData.eqv da db) := ⟨_, op_neD hu, fun x y B H Q e rx ry q =>
  ⟨da, db, (rx.mono e).dp, (ry.mono e).dp, h1, h2, q _ B H (Stp.refl e) (.bl _)⟩⟩
theorem c_inD (hu : X.A.units + 65 < cLine) (h1 : SeqAt.shaped da = true) (h2 : SeqAt.shaped (.list ds) = true) : CmpOk X .In da (.list ds) (ds.any fun z => PyData.eqv z da) := ⟨_, op_inD hu, fun x y B H Q e rx ry q =>
  ⟨da, ds, (rx.mono e).dp, (ry.mono e).dp, h1, h2, q _ B H (Stp.refl e) (.bl _)⟩⟩
/-! #### tuples and lists: +, * -/
theorem b_catT {xs ys : List PyData} (h : xs.length + ys.length ≤ 100000) : BinOk X .Add (.tuple xs) (.tuple ys) (.tuple (xs ++ ys)) := ⟨_, op_catA, fun x y B H Q e rx ry q => by
  cases rx with
  | tup h1 r1 =>
    cases ry with
    | tup h2 r2 =>
      refine ⟨_, _, _, _, rfl, rfl, ex_t e h1, ex_t e h2, ?_, fun z => ?_, fun _ z => ?_, fun _ _ p hp => ?_⟩
      · rw [r1.length, r2.length]; exact line_of h
      · have := r1.nil_iff.mp z
        subst this
        exact q _ B H (Stp.refl e) (.tup h2 r2)
      · have := r2.nil_iff.mp z
        subst this
        rw [List.append_nil] at q
        exact q _ B H (Stp.refl e) (.tup h1 r1)
      · exact q _ _ _ (Stp.new e _ hp) (.tup (SqT.of upd_same) ((r1.append r2).mono (Ex.new (free_of e hp))))⟩
theorem b_repT {xs : List PyData} (h0 : xs ≠ []) (h1 : 2 ≤ i) (h2 : i ≤ 1000) (h3 : xs.length ≤ 1000) : BinOk X .Mult (.tuple xs) (.int i) (.tuple (List.replicate i.toNat xs).flatten) := ⟨_, op_repT, fun x y B H Q e rx ry q => by
  cases ry
  cases rx with
  | tup h4 r1 =>
    exact ⟨_, i, _, rfl, rfl, ex_t e h4, fun z => h0 (r1.nil_iff.mp z), h1, h2, by rw [r1.length]; exact h3, fun p hp => q _ _ _ (Stp.new e _ hp) (.tup (SqT.of upd_same) ((r1.rep _).mono (Ex.new (free_of e hp))))⟩⟩
/-- a new list out of two places -/
def OpN (K : PySem.W.Frag) (r : R2) (da db : PyData) (ds : List PyData) : Prop := ∀ x y B H (Q : VK), Ex B H → Rp K B x da → Rp K B y db → (∀ p xs, H p = none → RpL K B xs ds → Q (.ref p) (upd H p (.lst xs))) → r x y H Q
theorem stp_new0 {B H : Hp} (e : Ex B H) {p : Addr} (o : HO) (h : H p = none) : Stp B H B (upd H p o) := Stp.grow e (Ex.new h)
theorem dn_bin {op : Operator} (ha : DE X c ρ a da) (hb : DE X c ρ b db) (h : ∃ r : R2, OpR X (binaryOp op) r ∧ OpN X.K r da db ds) : DN X c ρ (.BinOp a op b pos) ds := by
  obtain ⟨r, ho, hd⟩ := h
  refine dn_of (pe_op ho (pe_w X) (pe_w X)) fun σ B H S Q q => ?_
  refine ha σ B H S _ fun x B1 H1 s1 r1 => hb σ B1 H1 (S.stp s1) _ fun y B2 H2 s2 r2 => hd x y B2 H2 Q s2.bh (r1.mono s2.b) r2 fun p xs hp r3 => ?_
  exact q p xs B2 _ ((s1.trans s2).trans (stp_new0 s2.bh _ hp)) (free_of s2.bh hp) (fresh_back (s1.trans s2).h hp) upd_same r3
theorem b_cat {xs ys : List PyData} (h : xs.length + ys.length ≤ 100000) : ∃ r : R2, OpR X (binaryOp .Add) r ∧ OpN X.K r (.list xs) (.list ys) (xs ++ ys) := ⟨_, op_cat, fun x y B H Q e rx ry q => by
  cases rx with
  | lst h1 r1 =>
    cases ry with
    | lst h2 r2 => exact ⟨_, _, _, _, rfl, rfl, e _ _ h1, e _ _ h2, by rw [r1.length, r2.length]; exact line_of h, fun p hp => q p _ hp (r1.append r2)⟩⟩
theorem b_rep {xs : List PyData} (h1 : 0 ≤ i) (h2 : i ≤ 1000) (h3 : xs.length ≤ 100) : ∃ r : R2, OpR X (binaryOp .Mult) r ∧ OpN X.K r (.list xs) (.int i) (List.replicate i.toNat xs).flatten := ⟨_, op_rep, fun x y B H Q e rx ry q => by
  cases ry
  cases rx with
  | lst h4 r1 =>
    refine ⟨_, i, _, rfl, rfl, e _ _ h4, by omega, by omega, ?_, fun p hp => q p _ hp (r1.rep _)⟩
    rw [r1.length]
    exact line_of (Nat.le_trans (Nat.mul_le_mul h3 (show i.toNat ≤ 1000 by omega)) (by decide))⟩
theorem de_neg (ha : DE X c ρ a (.int i)) : DE X c ρ (.UnaryOp .USub a pos) (.int (-i)) := de_of (pe_un un_neg (pe_w X)) fun σ B H S Q q => ha σ B H S _ fun v B1 H1 s1 r1 => by
  cases r1
  exact ⟨i, rfl, q _ B1 H1 s1 (.int _)⟩

/-! ### tests, and, or, not -/
theorem dt_val {k : Bool} (h : DE X c ρ e (.bool k)) (he : ∀ whole, isTrue e X.env whole = (do let v ← whole; standAt e.pos; holding [v] (truthy v)) := by intro _; rfl) : DT X c ρ e k :=
  dt_of (pt_val (pe_w X) he) fun σ B H S Q q => h σ B H S _ fun v B' H' st r => by
    cases r
    exact ⟨k, rfl, q B' H' st⟩
theorem dt_not {k : Bool} (h : DT X c ρ a k) : DT X c ρ (.UnaryOp .Not a pos) (!k) := dt_of (pt_not (pt_w X)) fun σ B H S Q q => h σ B H S _ fun B' H' st => q B' H' st
/-- and, or as tests, whatever the whole is -/
def DW (X : Cx) (c : Wd) (ρ : List Sl) (e : Expr) (k : Bool) : Prop := ∃ t, PW X e t ∧ EVT X.pr c t ρ k
theorem DW.dt {k : Bool} (h : DW X c ρ e k) : DT X c ρ e k := by
  obtain ⟨t, h, v⟩ := h
  exact dt_of h.pt v
variable {rest : List Expr}
theorem dw_and1 {k : Bool} (h : DT X c ρ a k) : DW X c ρ (.BoolOp .And [a] pos) k := ⟨_, pw_and1 (pt_w X), h⟩
theorem dw_or1 {k : Bool} (h : DT X c ρ a k) : DW X c ρ (.BoolOp .Or [a] pos) k := ⟨_, pw_or1 (pt_w X), h⟩
theorem dw_and {k l : Bool} (ha : DT X c ρ a k) (hb : k = true → DW X c ρ (.BoolOp .And (b :: rest) pos) l) : DW X c ρ (.BoolOp .And (a :: b :: rest) pos) (k && l) := by
  cases k with
  | true =>
    obtain ⟨t, h, v⟩ := hb rfl
    exact ⟨_, pw_and (pt_w X) h, fun σ B H S Q q => ha σ B H S _ fun B1 H1 s1 => iteT (v σ B1 H1 (S.stp s1) Q fun B2 H2 s2 => q B2 H2 (s1.trans s2))⟩
  | false =>
    refine ⟨_, pw_and (tB' := fun _ _ _ => False) (pt_w X) ⟨fun _ _ _ _ _ _ _ h => h.elim⟩, fun σ B H S Q q => ha σ B H S _ fun B1 H1 s1 => iteF (q B1 H1 s1)⟩
theorem dw_or {k l : Bool} (ha : DT X c ρ a k) (hb : k = false → DW X c ρ (.BoolOp .Or (b :: rest) pos) l) : DW X c ρ (.BoolOp .Or (a :: b :: rest) pos) (k || l) := by
  cases k with
  | false =>
    obtain ⟨t, h, v⟩ := hb rfl
    exact ⟨_, pw_or (pt_w X) h, fun σ B H S Q q => ha σ B H S _ fun B1 H1 s1 => iteF (v σ B1 H1 (S.stp s1) Q fun B2 H2 s2 => q B2 H2 (s1.trans s2))⟩
  | true =>
    refine ⟨_, pw_or (tB' := fun _ _ _ => False) (pt_w X) ⟨fun _ _ _ _ _ _ _ h => h.elim⟩, fun σ B H S Q q => ha σ B H S _ fun B1 H1 s1 => iteT (q B1 H1 s1)⟩
theorem de_one {op : BoolOp} (h : DE X c ρ a d) : DE X c ρ (.BoolOp op [a] pos) d := de_of (pe_one (pe_w X)) h
theorem de_and {k l : Bool} (ha : DE X c ρ a (.bool k)) (hb : k = true → DE X c ρ (.BoolOp .And (b :: rest) pos) (.bool l)) : DE X c ρ (.BoolOp .And (a :: b :: rest) pos) (.bool (k && l)) :=
  de_of (pe_and (pe_w X) (pe_w X)) fun σ B H S Q q => ha σ B H S _ fun v B1 H1 s1 r1 => by
    cases r1
    refine ⟨k, rfl, ?_⟩
    cases k with
    | true => exact iteT (hb rfl σ B1 H1 (S.stp s1) Q fun v B2 H2 s2 => q v B2 H2 (s1.trans s2))
    | false => exact iteF (q _ B1 H1 s1 (.bl _))
theorem de_or {k l : Bool} (ha : DE X c ρ a (.bool k)) (hb : k = false → DE X c ρ (.BoolOp .Or (b :: rest) pos) (.bool l)) : DE X c ρ (.BoolOp .Or (a :: b :: rest) pos) (.bool (k || l)) :=
  de_of (pe_or (pe_w X) (pe_w X)) fun σ B H S Q q => ha σ B H S _ fun v B1 H1 s1 r1 => by
    cases r1
    refine ⟨k, rfl, ?_⟩
    cases k with
    | false => exact iteF (hb rfl σ B1 H1 (S.stp s1) Q fun v B2 H2 s2 => q v B2 H2 (s1.trans s2))
    | true => exact iteT (q _ B1 H1 s1 (.bl _))
theorem de_not {k : Bool} (ha : DE X c ρ a (.bool k)) : DE X c ρ (.UnaryOp .Not a pos) (.bool (!k)) :=
  de_of (pe_not (pe_w X)) fun σ B H S Q q => ha σ B H S _ fun v B1 H1 s1 r1 => by
    cases r1
    exact ⟨k, rfl, q _ B1 H1 s1 (.bl _)⟩
theorem de_ifT {t : Expr} (ht : DT X c ρ t true) (ha : DE X c ρ a d) : DE X c ρ (.IfExp t a b pos) d :=
  de_of (pe_ifExp (pt_w X) (pe_w X) (pe_w X)) fun σ B H S Q q => ht σ B H S _ fun B1 H1 s1 => iteT (ha σ B1 H1 (S.stp s1) Q fun v B2 H2 s2 => q v B2 H2 (s1.trans s2))
theorem de_ifF {t : Expr} (ht : DT X c ρ t false) (ha : DE X c ρ b d) : DE X c ρ (.IfExp t a b pos) d :=
  de_of (pe_ifExp (pt_w X) (pe_w X) (pe_w X)) fun σ B H S Q q => ht σ B H S _ fun B1 H1 s1 => iteF (ha σ B1 H1 (S.stp s1) Q fun v B2 H2 s2 => q v B2 H2 (s1.trans s2))
theorem de_if {t : Expr} {k : Bool} (ht : DT X c ρ t k) (ha : k = true → DE X c ρ a d) (hb : k = false → DE X c ρ b d) : DE X c ρ (.IfExp t a b pos) d := by
  cases k with
  | true => exact de_ifT ht (ha rfl)
  | false => exact de_ifF ht (hb rfl)

/-! ### displays -/
theorem da_nil : DA X c ρ [] [] := da_of pa_nil fun σ B H S Q q => q [] B H (Stp.refl S.bh) .nil
theorem da_cons (h : DE X c ρ e d) (hr : DA X c ρ es ds) (hs : starEach (e :: es) X.env = (false, eval e X.env) :: starEach es X.env := by rfl) : DA X c ρ (e :: es) (d :: ds) :=
  da_of (pa_cons (pe_w X) (pa_w X) hs) fun σ B H S Q q => h σ B H S _ fun v B1 H1 s1 r1 => hr σ B1 H1 (S.stp s1) _ fun vs B2 H2 s2 r2 => q (v :: vs) B2 H2 (s1.trans s2) (.cons (r1.mono s2.b) r2)
theorem de_tup {x1} (h : DA X c ρ es ds) (hl : ds.length ≤ 100000 := by exact Nat.le_of_ble_eq_true rfl) : DE X c ρ (.Tuple es x1 pos) (.tuple ds) :=
  de_of (pe_tup (pa_w X)) fun σ B H S Q q => h σ B H S _ fun vs B1 H1 s1 r1 => ⟨by rw [r1.length]; exact line_of hl, fun p hp => q _ _ _ (s1.trans (Stp.new s1.bh _ hp)) (.tup (SqT.of upd_same) (r1.mono (Ex.new (free_of s1.bh hp))))⟩
theorem dn_lst (h : DA X c ρ es ds) (hl : ds.length ≤ 100000 := by exact Nat.le_of_ble_eq_true rfl) : DN X c ρ (.List es pos) ds :=
  dn_of (pe_lst (pa_w X)) fun σ B H S Q q => h σ B H S _ fun vs B1 H1 s1 r1 => ⟨by rw [r1.length]; exact line_of hl, fun p hp => q p vs B1 _ (s1.trans (stp_new0 s1.bh _ hp)) (free_of s1.bh hp) (fresh_back s1.h hp) upd_same r1⟩
theorem de_lst (h : DA X c ρ es ds) (hl : ds.length ≤ 100000 := by exact Nat.le_of_ble_eq_true rfl) : DE X c ρ (.List es pos) (.list ds) := (dn_lst h hl).de

/-! ### subscripts, slices -/
theorem atI_rp {K : PySem.W.Frag} {B : Hp} {vs : List V} (r : RpL K B vs ds) {k : Int} (h : atI ds k = some d) : ∃ v, atI vs k = some v ∧ Rp K B v d := by
  unfold atI at h ⊢
  rw [r.length]
  cases e : ixN ds.length k with
  | none => rw [e] at h; cases h
  | some n =>
    rw [e] at h
    exact r.get h
theorem de_ixT (ha : DE X c ρ a (.tuple ds)) (hb : DE X c ρ b (.int i)) (h : atI ds i = some d) (hs : PlainIx b := by exact fun _ _ => rfl) : DE X c ρ (.Subscript a b pos) d :=
  de_of (pe_ix ix_tup (pe_w X) (pe_w X) hs) (ev_op ha hb fun x y B H Q e rx ry q => by
    cases ry
    cases rx with
    | tup h1 r1 =>
      obtain ⟨v, hv, rv⟩ := atI_rp r1 h
      exact ⟨_, _, i, v, rfl, rfl, ex_t e h1, hv, q v B H (Stp.refl e) rv⟩)
theorem de_ixL (ha : DE X c ρ a (.list ds)) (hb : DE X c ρ b (.int i)) (h : atI ds i = some d) (hs : PlainIx b := by exact fun _ _ => rfl) : DE X c ρ (.Subscript a b pos) d :=
  de_of (pe_ix ix_list (pe_w X) (pe_w X) hs) (ev_op ha hb fun x y B H Q e rx ry q => by
    cases ry
    cases rx with
    | lst h1 r1 =>
      obtain ⟨v, hv, rv⟩ := atI_rp r1 h
      exact ⟨_, _, i, v, rfl, rfl, SqL.of (e _ _ h1), hv, q v B H (Stp.refl e) rv⟩)
theorem do_none : DO X c ρ none none := do_of po_none fun σ B H S Q q => q B H (Stp.refl S.bh)
theorem do_some (h : DE X c ρ e (.int i)) : DO X c ρ (some e) (some i) := do_of (po_some (pe_w X)) fun σ B H S Q q => h σ B H S _ fun v B1 H1 s1 r1 => by
  cases r1
  exact ⟨i, rfl, q B1 H1 s1⟩
theorem cut_whole {α : Type} {xs : List α} {lo hi : Option Int} (h : HT.sIx xs.length 0 lo = 0 ∧ HT.sIx xs.length xs.length hi = xs.length) : (xs.drop (HT.sIx xs.length 0 lo)).take (HT.sIx xs.length xs.length hi - HT.sIx xs.length 0 lo) = xs := by
  rw [h.1, h.2, Nat.sub_zero, List.drop_zero, List.take_length]
theorem de_slT {lo hi : Option Expr} {l h : Option Int} (ha : DE X c ρ a (.tuple ds)) (hl : DO X c ρ lo l) (hh : DO X c ρ hi h) : DE X c ρ (.Subscript a (.Slice lo hi none p2) pos) (.tuple (cutD ds l h)) :=
  de_of (pe_slice sl_tupA (pe_w X) (po_w X) (po_w X)) fun σ B H S Q q => ha σ B H S _ fun v B1 H1 s1 r1 => hl σ B1 H1 (S.stp s1) _ fun B2 H2 s2 => hh σ B2 H2 ((S.stp s1).stp s2) _ fun B3 H3 s3 => by
    have st := (s1.trans s2).trans s3
    have r3 := r1.mono (s2.b.trans s3.b)
    cases r3 with
    | tup h1 r =>
      refine ⟨_, _, rfl, ex_t s3.bh h1, fun z => ?_, fun _ p hp => ?_⟩
      · have : cutD ds l h = ds := by
          rw [r.length] at z
          exact cut_whole z
        rw [this] at q
        exact q _ B3 H3 st (.tup h1 r)
      · exact q _ _ _ (st.trans (Stp.new s3.bh _ hp)) (.tup (SqT.of upd_same) ((r.cut l h).mono (Ex.new (free_of s3.bh hp))))
theorem dn_slL {lo hi : Option Expr} {l h : Option Int} (ha : DE X c ρ a (.list ds)) (hl : DO X c ρ lo l) (hh : DO X c ρ hi h) : DN X c ρ (.Subscript a (.Slice lo hi none p2) pos) (cutD ds l h) :=
  dn_of (pe_slice sl_list (pe_w X) (po_w X) (po_w X)) fun σ B H S Q q => ha σ B H S _ fun v B1 H1 s1 r1 => hl σ B1 H1 (S.stp s1) _ fun B2 H2 s2 => hh σ B2 H2 ((S.stp s1).stp s2) _ fun B3 H3 s3 => by
    have st := (s1.trans s2).trans s3
    have r3 := r1.mono (s2.b.trans s3.b)
    cases r3 with
    | lst h1 r =>
      exact ⟨_, _, rfl, SqL.of (s3.bh _ _ h1), fun p hp => q p _ B3 _ (st.trans (stp_new0 s3.bh _ hp)) (free_of s3.bh hp) (fresh_back st.h hp) upd_same (r.cut l h)⟩
end
end DD
/-! DD3: calls, walks, comprehensions. -/
namespace DD
open PySem PySem.Spec L2
open PyProof.Rows hiding St
open Evl (Ex ex_rd ex_l ex_t fresh_back)

/-! ### defs -/
/-- a promise over data -/
def spD (K : PySem.W.Frag) (R : List PyData → PyData → Prop) : Sp := fun vs H Q _ => ∃ B ds d, Ex B H ∧ RpL K B vs ds ∧ R ds d ∧ ∀ v B' H', Stp B H B' H' → Rp K B' v d → Q v H'
structure DefOk (P : Program) (w : World) (K : PySem.W.Frag) (mg : Str → Option Value) (base : Heap) (x : Str) (ps : List Str) (k : Nat) (sp : Sp) : Prop where
  ex : ∃ f fd, FnOk P w K mg base CX0 k f fd ps sp ∧ mg x = some (.ref f) ∧ PySem.W.keepIn K (.ref f) = true ∧ Binds K fd ps []
section
variable {X : Cx} {c : Wd} {ρ : List Sl} {e a b : Expr} {es : List Expr} {d da db : PyData} {ds : List PyData} {p pos p2 : Pos} {i j : Int} {x : Str} {ps : List Str} {k k0 : Nat}
theorem pe_callD {sp : Sp} {t : TA} (D : DefOk X.prog X.w X.K X.mg X.base x ps k sp) (hr : Room k X.A) (hg : Gl X x) (ha : PA X (e :: es) t) (hdb : (x == ("__debug__" : Str)) = false := by decide)
    (he : starEach (e :: es) X.env = (false, eval e X.env) :: starEach es X.env := by rfl) (hpl : (backTo pos (starEach es X.env)).any (·.1) = false := by rfl) : PE X (.Call (.Name x p) (e :: es) [] pos) (tCall sp [] E0 t) := by
  obtain ⟨f, fd, F, hm, hk, hb⟩ := D.ex
  exact pe_call F hr hg hm hk hb .nil pass0 ha hdb he hpl
theorem de_call {R : List PyData → PyData → Prop} (D : DefOk X.prog X.w X.K X.mg X.base x ps k (spD X.K R)) (hr : Room k X.A) (ha : DA X c ρ (e :: es) ds) (h : R ds d) (hg : Gl X x := by rfl) (hdb : (x == ("__debug__" : Str)) = false := by decide)
    (he : starEach (e :: es) X.env = (false, eval e X.env) :: starEach es X.env := by rfl) (hpl : (backTo pos (starEach es X.env)).any (·.1) = false := by rfl) : DE X c ρ (.Call (.Name x p) (e :: es) [] pos) d :=
  de_of (pe_callD D hr hg (pa_w X) hdb he hpl) fun σ B H S Q q => ha σ B H S _ fun vs B1 H1 s1 r1 => by
    rw [List.append_nil]
    exact ⟨B1, ds, d, s1.bh, r1, h, fun v B' H' st r => q v B' H' (s1.trans st) r⟩

/-! ### builtins -/
theorem ev_cb {r : List V → Hp → VK → Prop} {ta : TA} (ha : EVA X.pr c ta ρ ds) (h : ∀ vs B H (Q : VK), Ex B H → RpL X.K B vs ds → (∀ v B' H', Stp B H B' H' → Rp X.K B' v d → Q v H') → r vs H Q) : EV X.pr c (tCB r ta) ρ d := fun σ B H S Q q =>
  ha σ B H S _ fun vs B1 H1 s1 r1 => h vs B1 H1 Q s1.bh r1 fun v B' H' st rv => q v B' H' (s1.trans st) rv
theorem da_one (h : DE X c ρ a d) (hs : starEach [a] X.env = (false, eval a X.env) :: starEach [] X.env := by rfl) : DA X c ρ [a] [d] := da_cons h da_nil hs
theorem rp1 {K : PySem.W.Frag} {B : Hp} {vs : List V} (h : RpL K B vs [d]) : ∃ v, vs = [v] ∧ Rp K B v d := by
  cases h with
  | cons h t => cases t; exact ⟨_, rfl, h⟩
theorem rp2 {K : PySem.W.Frag} {B : Hp} {vs : List V} {d2 : PyData} (h : RpL K B vs [d, d2]) : ∃ v v2, vs = [v, v2] ∧ Rp K B v d ∧ Rp K B v2 d2 := by
  cases h with
  | cons h t =>
    obtain ⟨v2, rfl, h2⟩ := rp1 t
    exact ⟨_, _, rfl, h, h2⟩
theorem de_lenT (hm : X.mg "len" = none) (ha : DE X c ρ a (.tuple ds)) (hg : Gl X "len" := by rfl) (hs : starEach [a] X.env = (false, eval a X.env) :: starEach [] X.env := by rfl) : DE X c ρ (.Call (.Name "len" p) [a] [] pos) (.int ds.length) :=
  de_of (pe_callB call_len_seq hg hm PySem.boot_len (pa_w X) (by decide) (by decide) hs rfl) (ev_cb (da_one ha hs) fun vs B H Q e r0 q => by
    obtain ⟨v, rfl, r⟩ := rp1 r0
    cases r with
    | tup h r => exact ⟨_, _, rfl, .inr (ex_t e h), by rw [r.length]; exact q _ B H (Stp.refl e) (.int _)⟩)
theorem de_lenL (hm : X.mg "len" = none) (ha : DE X c ρ a (.list ds)) (hg : Gl X "len" := by rfl) (hs : starEach [a] X.env = (false, eval a X.env) :: starEach [] X.env := by rfl) : DE X c ρ (.Call (.Name "len" p) [a] [] pos) (.int ds.length) :=
  de_of (pe_callB call_len_seq hg hm PySem.boot_len (pa_w X) (by decide) (by decide) hs rfl) (ev_cb (da_one ha hs) fun vs B H Q e r0 q => by
    obtain ⟨v, rfl, r⟩ := rp1 r0
    cases r with
    | lst h r => exact ⟨_, _, rfl, .inl (SqL.of (e _ _ h)), by rw [r.length]; exact q _ B H (Stp.refl e) (.int _)⟩)
theorem de_tupL (hm : X.mg "tuple" = none) (ha : DE X c ρ a (.list ds)) (hg : Gl X "tuple" := by rfl) (hs : starEach [a] X.env = (false, eval a X.env) :: starEach [] X.env := by rfl) : DE X c ρ (.Call (.Name "tuple" p) [a] [] pos) (.tuple ds) :=
  de_of (pe_callTy call_tuple_of hg hm (by decide +kernel) (pa_w X) (by decide) (by decide) hs rfl) (ev_cb (da_one ha hs) fun vs B H Q e r0 q => by
    obtain ⟨v, rfl, r⟩ := rp1 r0
    cases r with
    | lst h r => exact ⟨_, _, rfl, .inl ⟨SqL.of (e _ _ h), fun l hl => q _ _ _ (Stp.new e _ hl) (.tup (SqT.of upd_same) (r.mono (Ex.new (free_of e hl))))⟩⟩)
theorem de_tupT (hm : X.mg "tuple" = none) (ha : DE X c ρ a (.tuple ds)) (hg : Gl X "tuple" := by rfl) (hs : starEach [a] X.env = (false, eval a X.env) :: starEach [] X.env := by rfl) : DE X c ρ (.Call (.Name "tuple" p) [a] [] pos) (.tuple ds) :=
  de_of (pe_callTy call_tuple_of hg hm (by decide +kernel) (pa_w X) (by decide) (by decide) hs rfl) (ev_cb (da_one ha hs) fun vs B H Q e r0 q => by
    obtain ⟨v, rfl, r⟩ := rp1 r0
    cases r with
    | tup h r => exact ⟨_, _, rfl, .inr ⟨ex_t e h, q _ B H (Stp.refl e) (.tup h r)⟩⟩)
theorem dn_listL (hm : X.mg "list" = none) (ha : DE X c ρ a (.list ds)) (hg : Gl X "list" := by rfl) (hs : starEach [a] X.env = (false, eval a X.env) :: starEach [] X.env := by rfl) : DN X c ρ (.Call (.Name "list" p) [a] [] pos) ds :=
  dn_of (pe_callTy call_list_of hg hm (by decide +kernel) (pa_w X) (by decide) (by decide) hs rfl) fun σ B H S Q q => (da_one ha hs) σ B H S _ fun vs B1 H1 s1 r1 => by
    obtain ⟨v, rfl, r⟩ := rp1 r1
    cases r with
    | lst h r => exact ⟨_, _, rfl, .inl (SqL.of (s1.bh _ _ h)), fun l hl => q l _ B1 _ (s1.trans (stp_new0 s1.bh _ hl)) (free_of s1.bh hl) (fresh_back s1.h hl) upd_same r⟩
theorem de_all {bs : List Bool} (hm : X.mg "all" = none) (ha : DE X c ρ a (.list (bs.map .bool))) (hg : Gl X "all" := by rfl) (hc : X.calm = true := by rfl) (hs : starEach [a] X.env = (false, eval a X.env) :: starEach [] X.env := by rfl) : DE X c ρ (.Call (.Name "all" p) [a] [] pos) (.bool (bs.all id)) :=
  de_of (pe_callB (cr_all hc) hg hm (by decide +kernel) (pa_w X) (by decide) (by decide) hs rfl) (ev_cb (da_one ha hs) fun vs B H Q e r0 q => by
    obtain ⟨v, rfl, r⟩ := rp1 r0
    cases r with
    | lst h r =>
      have := r.bls
      subst this
      exact ⟨_, bs, rfl, SqL.of (e _ _ h), q _ B H (Stp.refl e) (.bl _)⟩)
theorem de_max (hm : X.mg "max" = none) (ha : DA X c ρ [a, b] [.int i, .int j]) (hg : Gl X "max" := by rfl) (hc : X.calm = true := by rfl) (hs : starEach [a, b] X.env = (false, eval a X.env) :: starEach [b] X.env := by rfl) (hpl : (backTo pos (starEach [b] X.env)).any (·.1) = false := by rfl) : DE X c ρ (.Call (.Name "max" p) [a, b] [] pos) (.int (if j > i then j else i)) :=
  de_of (pe_callB (call_max2 hc) hg hm (by decide +kernel) (pa_w X) (by decide) (by decide) hs hpl) (ev_cb ha fun vs B H Q e r0 q => by
    obtain ⟨v, v2, rfl, r, r2⟩ := rp2 r0
    cases r; cases r2
    exact ⟨i, j, rfl, q _ B H (Stp.refl e) (.int _)⟩)
theorem de_min (hm : X.mg "min" = none) (ha : DA X c ρ [a, b] [.int i, .int j]) (hg : Gl X "min" := by rfl) (hc : X.calm = true := by rfl) (hs : starEach [a, b] X.env = (false, eval a X.env) :: starEach [b] X.env := by rfl) (hpl : (backTo pos (starEach [b] X.env)).any (·.1) = false := by rfl) : DE X c ρ (.Call (.Name "min" p) [a, b] [] pos) (.int (if j < i then j else i)) :=
  de_of (pe_callB (call_min2 hc) hg hm (by decide +kernel) (pa_w X) (by decide) (by decide) hs hpl) (ev_cb ha fun vs B H Q e r0 q => by
    obtain ⟨v, v2, rfl, r, r2⟩ := rp2 r0
    cases r; cases r2
    exact ⟨i, j, rfl, q _ B H (Stp.refl e) (.int _)⟩)
theorem de_abs (hm : X.mg "abs" = none) (ha : DE X c ρ a (.int i)) (hg : Gl X "abs" := by rfl) (hs : starEach [a] X.env = (false, eval a X.env) :: starEach [] X.env := by rfl) : DE X c ρ (.Call (.Name "abs" p) [a] [] pos) (.int (if i < 0 then -i else i)) :=
  de_of (pe_callB call_abs hg hm (by decide +kernel) (pa_w X) (by decide) (by decide) hs rfl) (ev_cb (da_one ha hs) fun vs B H Q e r0 q => by
    obtain ⟨v, rfl, r⟩ := rp1 r0
    cases r
    exact ⟨i, rfl, q _ B H (Stp.refl e) (.int _)⟩)
theorem de_intI (hm : X.mg "int" = none) (ha : DE X c ρ a (.int i)) (hg : Gl X "int" := by rfl) (hs : starEach [a] X.env = (false, eval a X.env) :: starEach [] X.env := by rfl) : DE X c ρ (.Call (.Name "int" p) [a] [] pos) (.int i) :=
  de_of (pe_callTy call_int1 hg hm (by decide +kernel) (pa_w X) (by decide) (by decide) hs rfl) (ev_cb (da_one ha hs) fun vs B H Q e r0 q => by
    obtain ⟨v, rfl, r⟩ := rp1 r0
    cases r
    exact .inl ⟨i, rfl, q _ B H (Stp.refl e) (.int _)⟩)
theorem de_intB {l : Bool} (hm : X.mg "int" = none) (ha : DE X c ρ a (.bool l)) (hg : Gl X "int" := by rfl) (hs : starEach [a] X.env = (false, eval a X.env) :: starEach [] X.env := by rfl) : DE X c ρ (.Call (.Name "int" p) [a] [] pos) (.int (if l then 1 else 0)) :=
  de_of (pe_callTy call_int1 hg hm (by decide +kernel) (pa_w X) (by decide) (by decide) hs rfl) (ev_cb (da_one ha hs) fun vs B H Q e r0 q => by
    obtain ⟨v, rfl, r⟩ := rp1 r0
    cases r
    exact .inr ⟨l, rfl, q _ B H (Stp.refl e) (.int _)⟩)
/-! #### isinstance -/
def tyD : PyData → String
  | .none => "NoneType"
  | .bool _ => "bool"
  | .int _ => "int"
  | .str _ => "str"
  | .list _ => "list"
  | .tuple _ => "tuple"
  | .dict _ => "dict"
theorem Rp.ty {K : PySem.W.Frag} {B H : Hp} {v : V} (h : Rp K B v d) (e : Ex B H) : TyX K H v (.type (tyD d)) := by
  cases h with
  | non => exact .base .non
  | bl b => exact .base (.bl b)
  | int i => exact .base (.int i)
  | str x => exact .base (.str x)
  | lst h r => exact .base (.lst (e _ _ h))
  | tup h r =>
    rcases h with (h | ⟨o, h⟩) | h
    · exact .base (.tup (e _ _ h))
    · exact .fTuple (e _ _ h)
    · obtain ⟨o, its, n, h1, h2, _⟩ := h
      exact .kTuple h1 h2
/-- isinstance(a, T) -/
theorem de_isi {T : String} {x : Str} {l : Bool} {p3 : Pos} (hm : X.mg "isinstance" = none) (hm2 : X.mg x = none) (hx : bootBuiltins x = some (.type T)) (ha : DE X c ρ a d) (hk : kitB (tyD d) T = some l) (hg : Gl X "isinstance" := by rfl) (hg2 : Gl X x := by rfl)
    (hn : x ≠ "__name__" := by decide) (hd : (x == ("__debug__" : Str)) = false := by decide) (hs : starEach [a, .Name x p3] X.env = (false, eval a X.env) :: starEach [.Name x p3] X.env := by rfl) (hpl : (backTo pos (starEach [.Name x p3] X.env)).any (·.1) = false := by rfl)
    (hs2 : starEach [.Name x p3] X.env = (false, eval (.Name x p3) X.env) :: starEach [] X.env := by rfl) : DE X c ρ (.Call (.Name "isinstance" p) [a, .Name x p3] [] pos) (.bool l) :=
  de_of (pe_callB call_isi hg hm (by decide +kernel) (pa_cons (pe_w X) (pa_cons (pe_bltn (v := .ty T) hg2 hm2 hx rfl hn hd) pa_nil hs2) hs) (by decide) (by decide) hs hpl) fun σ B H S Q q => ha σ B H S _ fun v B1 H1 s1 r1 =>
    ⟨v, .ty T, .type (tyD d), .type T, l, rfl, .ty T, r1.ty s1.bh, kit_ty hk, q _ B1 H1 s1 (.bl _)⟩
/-- isinstance(a, (T, U)) -/
theorem de_isi2 {T U : String} {x y : Str} {l m : Bool} {p3 p4 p5 : Pos} {kk} (hm : X.mg "isinstance" = none) (hm2 : X.mg x = none) (hm3 : X.mg y = none) (hx : bootBuiltins x = some (.type T)) (hy : bootBuiltins y = some (.type U)) (ha : DE X c ρ a d) (hk : kitB (tyD d) T = some l) (hk2 : kitB (tyD d) U = some m)
    (hg : Gl X "isinstance" := by rfl) (hg2 : Gl X x := by rfl) (hg3 : Gl X y := by rfl) (hn : x ≠ "__name__" := by decide) (hd : (x == ("__debug__" : Str)) = false := by decide) (hn2 : y ≠ "__name__" := by decide) (hd2 : (y == ("__debug__" : Str)) = false := by decide)
    (hs : starEach [a, .Tuple [.Name x p3, .Name y p4] kk p5] X.env = (false, eval a X.env) :: starEach [.Tuple [.Name x p3, .Name y p4] kk p5] X.env := by rfl) (hpl : (backTo pos (starEach [.Tuple [.Name x p3, .Name y p4] kk p5] X.env)).any (·.1) = false := by rfl)
    (hs2 : starEach [.Tuple [.Name x p3, .Name y p4] kk p5] X.env = (false, eval (.Tuple [.Name x p3, .Name y p4] kk p5) X.env) :: starEach [] X.env := by rfl) (hs3 : starEach [.Name x p3, .Name y p4] X.env = (false, eval (.Name x p3) X.env) :: starEach [.Name y p4] X.env := by rfl)
    (hs4 : starEach [.Name y p4] X.env = (false, eval (.Name y p4) X.env) :: starEach [] X.env := by rfl) : DE X c ρ (.Call (.Name "isinstance" p) [a, .Tuple [.Name x p3, .Name y p4] kk p5] [] pos) (.bool (l || m)) :=
  de_of (pe_callB call_isiT hg hm (by decide +kernel) (pa_cons (pe_w X) (pa_cons (pe_tup (pa_cons (pe_bltn (v := .ty T) hg2 hm2 hx rfl hn hd) (pa_cons (pe_bltn (v := .ty U) hg3 hm3 hy rfl hn2 hd2) pa_nil hs4) hs3)) pa_nil hs2) hs) (by decide) (by decide) hs hpl) fun σ B H S Q q => ha σ B H S _ fun v B1 H1 s1 r1 =>
    ⟨by show 2 ≤ sizeLine; decide, fun tp htp => ⟨v, tp, [.ty T, .ty U], .type (tyD d), [.type T, .type U], l || m, rfl, upd_same, .cons (.ty T) (.cons (.ty U) .nil), r1.ty (s1.bh.trans (Ex.new htp)),
      kitAny_cons (kit_ty hk) (fun z => by subst z; exact kitAny_cons (kit_ty hk2) (fun z => by subst z; exact kitAny_nil) (fun z => by subst z; rfl)) (fun z => by subst z; rfl), q _ B1 _ (s1.trans (stp_new0 s1.bh _ htp)) (.bl _)⟩⟩
end

/-! ### what is walked -/
/-- at turn i the i-th of the data comes -/
def YD (K : PySem.W.Frag) (B : Hp) (ds : List PyData) : Nat → Hp → V → Hp → Prop := fun i H x H' => ∀ B2, Ex B B2 → Ex B2 H → ∃ B3 d, ds[i]? = some d ∧ Stp B2 H B3 H' ∧ Rp K B3 x d
def Wk (K : PySem.W.Frag) (J : It) (B : Hp) (ds : List PyData) : Prop := L2.Walk J ds.length (fun H => Ex B H) (YD K B ds)
def EI (p : Pr) (c : Wd) (wi : TI) (ρ : List Sl) (ds : List PyData) : Prop := ∀ σ B H, Sx p c ρ σ B H → ∀ R : It → Hp → Prop, (∀ J B' H', Stp B H B' H' → Wk p.K J B' ds → R J H') → wi σ H R
def DI (X : Cx) (c : Wd) (ρ : List Sl) (tg iter : Expr) (ds : List PyData) : Prop := EI X.pr c (wI X tg iter) ρ ds
section
variable {X : Cx} {c : Wd} {ρ : List Sl} {tg e a b : Expr} {es : List Expr} {d da db : PyData} {ds : List PyData} {p pos p2 : Pos} {i j : Int} {x : Str}
theorem di_of {t : TI} (h : PI X tg e t) (v : EI X.pr c t ρ ds) : DI X c ρ tg e ds := fun σ B H S R q => ⟨t, h, v σ B H S R q⟩
theorem wk_list {K : PySem.W.Frag} {B : Hp} {r : Addr} {xs : List V} (h : B r = some (.lst xs)) (rr : RpL K B xs ds) : Wk K (Itl K r) B ds := by
  unfold Wk
  rw [← rr.length]
  refine walk_list.mono (fun H e => SqL.of (e _ _ h)) fun i H x H' hi e y B2 e1 e2 => ?_
  obtain ⟨rfl, hx⟩ := y
  obtain ⟨d, hd, rx⟩ := rr.getV hx
  exact ⟨B2, d, hd, Stp.refl e2, rx.mono e1⟩
theorem wk_tup {K : PySem.W.Frag} {B : Hp} {r : Addr} {xs : List V} (h : SqT K B r xs) (rr : RpL K B xs ds) : Wk K (Itt K r) B ds := by
  unfold Wk
  rw [← rr.length]
  refine walk_tup.mono (fun H e => ex_t e h) fun i H x H' hi e y B2 e1 e2 => ?_
  obtain ⟨rfl, hx⟩ := y
  obtain ⟨d, hd, rx⟩ := rr.getV hx
  exact ⟨B2, d, hd, Stp.refl e2, rx.mono e1⟩
theorem di_list (h : DE X c ρ e (.list ds)) : DI X c ρ tg e ds := di_of (pi_list (pe_w X)) fun σ B H S R q => h σ B H S _ fun v B1 H1 s1 r1 => by
  cases r1 with
  | lst h r => exact ⟨_, rfl, ⟨_, SqL.of (s1.bh _ _ h)⟩, q _ B1 H1 s1 (wk_list h r)⟩
theorem di_tup (h : DE X c ρ e (.tuple ds)) : DI X c ρ tg e ds := di_of (pi_tup (pe_w X)) fun σ B H S R q => h σ B H S _ fun v B1 H1 s1 r1 => by
  cases r1 with
  | tup h r => exact ⟨_, rfl, ⟨_, ex_t s1.bh h⟩, q _ B1 H1 s1 (wk_tup h r)⟩
/-- lo, lo + c, .. -/
def upD (lo st : Int) (n : Nat) : List PyData := (List.range n).map fun i => .int (lo + (i : Nat) * st)
theorem upD_len {lo st : Int} {n : Nat} : (upD lo st n).length = n := by unfold upD; rw [List.length_map, List.length_range]
theorem upD_get {lo st : Int} {n k : Nat} (h : k < n) : (upD lo st n)[k]? = some (.int (lo + (k : Nat) * st)) := by
  unfold upD
  rw [List.getElem?_map, List.getElem?_range h]
  rfl
theorem wk_range {K : PySem.W.Frag} {B : Hp} {lo : Int} {n : Nat} : Wk K (Itr lo n) B (upD lo 1 n) := by
  unfold Wk
  rw [upD_len]
  refine walk_range.mono (fun H e => trivial) fun i H x H' hi e y B2 e1 e2 => ?_
  obtain ⟨rfl, rfl⟩ := y
  refine ⟨B2, _, upD_get hi, Stp.refl e2, ?_⟩
  rw [Int.mul_one]
  exact .int _
theorem wk_rangeC {K : PySem.W.Frag} {B : Hp} {lo st : Int} {n : Nat} : Wk K (Itc lo st n) B (upD lo st n) := by
  unfold Wk
  rw [upD_len]
  refine walk_rangeC.mono (fun H e => trivial) fun i H x H' hi e y B2 e1 e2 => ?_
  obtain ⟨rfl, rfl⟩ := y
  exact ⟨B2, _, upD_get hi, Stp.refl e2, .int _⟩
theorem di_rng1 (hm : X.mg "range" = none) (h : DE X c ρ a (.int i)) (h1 : -(2 ^ 62) ≤ i) (h2 : i < 2 ^ 62) (hg : Gl X "range" := by rfl) (hs : starEach [a] X.env = (false, eval a X.env) :: starEach [] X.env := by rfl) (hs1 : starEach [a] X.env = [(false, eval a X.env)] := by rfl) :
    DI X c ρ tg (.Call (.Name "range" p) [a] [] pos) (upD 0 1 i.toNat) := di_of (pi_range1 hg hm (pa_w X) hs1) fun σ B H S R q => (da_one h hs) σ B H S _ fun vs B1 H1 s1 r1 => by
  obtain ⟨v, rfl, r⟩ := rp1 r1
  cases r
  exact ⟨i, rfl, h1, h2, q _ B1 H1 s1 wk_range⟩
theorem di_rng2 (hm : X.mg "range" = none) (h : DA X c ρ [a, b] [.int i, .int j]) (h1 : -(2 ^ 62) ≤ i ∧ i < 2 ^ 62 ∧ -(2 ^ 62) ≤ j ∧ j < 2 ^ 62) (hg : Gl X "range" := by rfl) (hs : starEach [a, b] X.env = [(false, eval a X.env), (false, eval b X.env)] := by rfl) (hs2 : starEach [b] X.env = [(false, eval b X.env)] := by rfl) :
    DI X c ρ tg (.Call (.Name "range" p) [a, b] [] pos) (upD i 1 (j - i).toNat) := di_of (pi_range2 hg hm (pa_w X) hs hs2) fun σ B H S R q => h σ B H S _ fun vs B1 H1 s1 r1 => by
  obtain ⟨v, v2, rfl, r, r2⟩ := rp2 r1
  cases r; cases r2
  exact ⟨i, j, rfl, h1, q _ B1 H1 s1 wk_range⟩
theorem di_rng3 {b2 : Expr} {n : Nat} {st : Int} (hm : X.mg "range" = none) (h : DA X c ρ [a, b, b2] [.int i, .int j, .int st]) (hr : RgC i j st n) (hg : Gl X "range" := by rfl)
    (hs : starEach [a, b, b2] X.env = (false, eval a X.env) :: starEach [b, b2] X.env := by rfl) (hpl : (backTo pos (starEach [b, b2] X.env)).any (·.1) = false := by rfl) :
    DI X c ρ tg (.Call (.Name "range" p) [a, b, b2] [] pos) (upD i st n) := di_of (pi_range3 hg hm (pa_w X) hs hpl) fun σ B H S R q => h σ B H S _ fun vs B1 H1 s1 r1 => by
  cases r1 with
  | cons r t =>
    obtain ⟨v, v2, rfl, r2, r3⟩ := rp2 t
    cases r; cases r2; cases r3
    exact ⟨i, j, st, n, rfl, hr, q _ B1 H1 s1 wk_rangeC⟩
/-- pairs -/
def pairD (xs ys : List PyData) : List PyData := (xs.zip ys).map fun q => .tuple [q.1, q.2]
theorem pairD_get {xs ys : List PyData} {k : Nat} {u v : PyData} (h1 : xs[k]? = some u) (h2 : ys[k]? = some v) : (pairD xs ys)[k]? = some (.tuple [u, v]) := by
  unfold pairD
  rw [List.getElem?_map, List.getElem?_zip_eq_some (z := (u, v)) |>.mpr ⟨h1, h2⟩]
  rfl
theorem pairD_len {xs ys : List PyData} : (pairD xs ys).length = min xs.length ys.length := by unfold pairD; rw [List.length_map, List.length_zip]
theorem stp_pair {K : PySem.W.Frag} {B B2 H H' : Hp} {T : Addr} {u v : V} {du dv : PyData} (e1 : Ex B B2) (e2 : Ex B2 H) (hT : H T = none) (hH : H' = upd H T (.tup [u, v])) (r1 : Rp K B u du) (r2 : Rp K B v dv) : ∃ B3, Stp B2 H B3 H' ∧ Rp K B3 (.ref T) (.tuple [du, dv]) := by
  subst hH
  refine ⟨_, Stp.new e2 _ hT, .tup (SqT.of upd_same) ?_⟩
  have e3 := e1.trans (Ex.new (o := .tup [u, v]) (free_of e2 hT))
  exact .cons (r1.mono e3) (.cons (r2.mono e3) .nil)
theorem wk_zipL {K : PySem.W.Frag} {B : Hp} {r s : Addr} {xs ys : List V} {es : List PyData} (h : B r = some (.lst xs)) (rr : RpL K B xs ds) (h' : B s = some (.lst ys)) (rs : RpL K B ys es) : Wk K (Itz K r s) B (pairD ds es) := by
  unfold Wk
  rw [pairD_len, ← rr.length, ← rs.length]
  refine (walk_zip rfl).mono (fun H e => ⟨SqL.of (e _ _ h), SqL.of (e _ _ h')⟩) fun i H x H' hi e y B2 e1 e2 => ?_
  obtain ⟨T, u, v, rfl, hT, hH, h1, h2⟩ := y
  obtain ⟨du, hdu, ru⟩ := rr.getV h1
  obtain ⟨dv, hdv, rv⟩ := rs.getV h2
  obtain ⟨B3, st, r3⟩ := stp_pair e1 e2 hT hH ru rv
  exact ⟨B3, _, pairD_get hdu hdv, st, r3⟩
theorem walk_zipT {K : PySem.W.Frag} {a b : Addr} {xs ys : List V} {n : Nat} (hn : n = min xs.length ys.length) : Walk (RZ.ItzT K a b) n (fun H => SqT K H a xs ∧ SqT K H b ys) (YPair (fun i => xs[i]?) (fun i => ys[i]?)) := by
  subst hn
  refine ⟨fun i _ hi q => ?_, fun _ q => ⟨xs, ys, q.1, q.2, by omega⟩, fun i H v H' _ q y => ?_⟩
  · have h1 : i < xs.length := by omega
    have h2 : i < ys.length := by omega
    exact ⟨xs, ys, xs[i], ys[i], q.1, q.2, by simp [h1], by simp [h2]⟩
  · obtain ⟨T, x, z, h1, h2, h3, h4, h5⟩ := y
    exact ⟨T, x, z, h1, h2, h3, h4 xs q.1, h5 ys q.2⟩
theorem wk_zipT {K : PySem.W.Frag} {B : Hp} {r s : Addr} {xs ys : List V} {es : List PyData} (h : SqT K B r xs) (rr : RpL K B xs ds) (h' : SqT K B s ys) (rs : RpL K B ys es) : Wk K (RZ.ItzT K r s) B (pairD ds es) := by
  unfold Wk
  rw [pairD_len, ← rr.length, ← rs.length]
  refine (walk_zipT rfl).mono (fun H e => ⟨ex_t e h, ex_t e h'⟩) fun i H x H' hi e y B2 e1 e2 => ?_
  obtain ⟨T, u, v, rfl, hT, hH, h1, h2⟩ := y
  obtain ⟨du, hdu, ru⟩ := rr.getV h1
  obtain ⟨dv, hdv, rv⟩ := rs.getV h2
  obtain ⟨B3, st, r3⟩ := stp_pair e1 e2 hT hH ru rv
  exact ⟨B3, _, pairD_get hdu hdv, st, r3⟩
theorem di_zipL {xs ys : List PyData} {elts : List Expr} {kk} {tpos : Pos} (hm : X.mg "zip" = none) (h : DA X c ρ [a, b] [.list xs, .list ys]) (hg : Gl X "zip" := by rfl) (hs : starEach [a, b] X.env = (false, eval a X.env) :: starEach [b] X.env := by rfl) (hpl : (backTo pos (starEach [b] X.env)).any (·.1) = false := by rfl) :
    DI X c ρ (.Tuple elts kk tpos) (.Call (.Name "zip" p) [a, b] [] pos) (pairD xs ys) := di_of (RZ.pi_zipA hg hm (pa_w X) hs hpl) fun σ B H S R q => h σ B H S _ fun vs B1 H1 s1 r1 => by
  obtain ⟨v, v2, rfl, r, r2⟩ := rp2 r1
  cases r with
  | lst h1 t1 =>
    cases r2 with
    | lst h2 t2 => exact ⟨_, _, _, _, rfl, .inl ⟨SqL.of (s1.bh _ _ h1), SqL.of (s1.bh _ _ h2), q _ B1 H1 s1 (wk_zipL h1 t1 h2 t2)⟩⟩
theorem di_zipT {xs ys : List PyData} {elts : List Expr} {kk} {tpos : Pos} (hm : X.mg "zip" = none) (h : DA X c ρ [a, b] [.tuple xs, .tuple ys]) (hg : Gl X "zip" := by rfl) (hs : starEach [a, b] X.env = (false, eval a X.env) :: starEach [b] X.env := by rfl) (hpl : (backTo pos (starEach [b] X.env)).any (·.1) = false := by rfl) :
    DI X c ρ (.Tuple elts kk tpos) (.Call (.Name "zip" p) [a, b] [] pos) (pairD xs ys) := di_of (RZ.pi_zipA hg hm (pa_w X) hs hpl) fun σ B H S R q => h σ B H S _ fun vs B1 H1 s1 r1 => by
  obtain ⟨v, v2, rfl, r, r2⟩ := rp2 r1
  cases r with
  | tup h1 t1 =>
    cases r2 with
    | tup h2 t2 => exact ⟨_, _, _, _, rfl, .inr ⟨ex_t s1.bh h1, ex_t s1.bh h2, q _ B1 H1 s1 (wk_zipT h1 t1 h2 t2)⟩⟩
theorem di_enum {xs : List PyData} {elts : List Expr} {kk} {tpos : Pos} (hm : X.mg "enumerate" = none) (h : DE X c ρ a (.list xs)) (hg : Gl X "enumerate" := by rfl) (hs : starEach [a] X.env = (false, eval a X.env) :: starEach [] X.env := by rfl) (hs1 : starEach [a] X.env = [(false, eval a X.env)] := by rfl) :
    DI X c ρ (.Tuple elts kk tpos) (.Call (.Name "enumerate" p) [a] [] pos) (pairD (upD 0 1 xs.length) xs) := di_of (pi_enum hg hm (pa_w X) hs1) fun σ B H S R q => (da_one h hs) σ B H S _ fun vs B1 H1 s1 r1 => by
  obtain ⟨v, rfl, r⟩ := rp1 r1
  cases r with
  | lst h1 t1 =>
    refine ⟨_, _, rfl, SqL.of (s1.bh _ _ h1), q _ B1 H1 s1 ?_⟩
    unfold Wk
    rw [pairD_len, upD_len, Nat.min_self, ← t1.length]
    refine walk_enum.mono (fun H e => SqL.of (e _ _ h1)) fun i H x H' hi e y B2 e1 e2 => ?_
    obtain ⟨T, u, v, rfl, hT, hH, h3, h4⟩ := y
    obtain ⟨dv, hdv, rv⟩ := t1.getV h4
    cases h3
    obtain ⟨B3, st, r3⟩ := stp_pair e1 e2 hT hH (.int _) rv
    refine ⟨B3, _, pairD_get (upD_get hi) hdv, st, ?_⟩
    rw [Int.mul_one, Int.zero_add]
    exact r3
end
end DD
/-! DD4: targets, comprehensions. -/
namespace DD
open PySem PySem.Spec L2
open PyProof.Rows hiding St
open Evl (Ex ex_rd ex_l ex_t fresh_back)

/-! ### targets -/
/-- only the slots js are another -/
def Off (js : List Nat) (σ σ' : St) : Prop := σ'.length = σ.length ∧ ∀ n, n ∉ js → σ'[n]? = σ[n]?
theorem Off.refl (σ : St) : Off [] σ σ := ⟨rfl, fun _ _ => rfl⟩
theorem Off.set {js : List Nat} {σ σ' : St} {j : Nat} {x : Option V} (h : Off js σ σ') : Off (j :: js) σ (σ'.set j x) := ⟨by rw [List.length_set]; exact h.1, fun n hn => by
  rw [List.mem_cons, not_or] at hn
  rw [List.getElem?_set_ne (Ne.symm hn.1)]
  exact h.2 n hn.2⟩
theorem wipe_get (σ : St) : ∀ (vs : List Nat) (n : Nat), (wipe σ vs)[n]? = if n ∈ vs then (if n < σ.length then some none else none) else σ[n]?
  | [], n => by simp [wipe]
  | v :: vs, n => by
    show ((wipe σ vs).set v none)[n]? = _
    rw [List.getElem?_set]
    by_cases h : v = n
    · subst h
      simp [wipe_length]
    · rw [if_neg h, wipe_get σ vs n]
      simp [Ne.symm h]
theorem Off.wipe {js vs : List Nat} {σ σ' : St} (h : Off js (wipe σ vs) σ') (hj : ∀ j ∈ js, j ∈ vs) : wipe σ' vs = wipe σ vs := by
  apply List.ext_getElem?
  intro n
  rw [wipe_get, wipe_get, show σ'.length = σ.length by rw [h.1, wipe_length]]
  by_cases hn : n ∈ vs
  · simp [hn]
  · rw [if_neg hn, if_neg hn, h.2 n (fun z => hn (hj n z)), wipe_get, if_neg hn]
def wG (X : Cx) (tg : Expr) : TG := fun v σ H Q => ∃ t, PG X tg t ∧ t v σ H Q
def wGs (X : Cx) (tgs : List Expr) : TGs := fun v σ H Q => ∃ t, PGs X tgs t ∧ t v σ H Q
theorem pg_w {X : Cx} {tg : Expr} : PG X tg (wG X tg) := ⟨fun pins s σ H v u Q I r ⟨_, h, q⟩ => h.run pins s σ H v u Q I r q⟩
theorem pgs_w {X : Cx} {tgs : List Expr} : PGs X tgs (wGs X tgs) := ⟨fun pins s σ H v u Q I r ⟨_, h, q⟩ => h.run pins s σ H v u Q I r q⟩
/-- the target takes d: ρ becomes ρ', the slots js alone -/
def DG (X : Cx) (c : Wd) (ρ : List Sl) (tg : Expr) (d : PyData) (ρ' : List Sl) (js : List Nat) : Prop := ∀ σ B H v, Sx X.pr c ρ σ B H → Rp X.K B v d → ∀ Q : St → Hp → Prop, (∀ σ', Off js σ σ' → Sx X.pr c ρ' σ' B H → Q σ' H) → wG X tg v σ H Q
def DGs (X : Cx) (c : Wd) (ρ : List Sl) (tgs : List Expr) (ds : List PyData) (ρ' : List Sl) (js : List Nat) : Prop := ∀ σ B H vs, Sx X.pr c ρ σ B H → RpL X.K B vs ds → ∀ Q : St → Hp → Prop, (∀ σ', Off js σ σ' → Sx X.pr c ρ' σ' B H → Q σ' H) → wGs X tgs vs σ H Q
section
variable {X : Cx} {c : Wd} {ρ ρ1 ρ' : List Sl} {tg : Expr} {tgs : List Expr} {d : PyData} {ds : List PyData} {pos : Pos} {js : List Nat}
theorem dg_name (j : Nat) {x : Str} (hN : X.N.Nodup) (hi : X.N[j]? = some x := by rfl) (hx : Loc X.env.scope x := by first | exact Or.inl rfl | exact Or.inr rfl) (hf : X.fn x = true ∨ X.env.scope.names.lookup x = some .local := by first | exact .inl rfl | exact .inr rfl) : DG X c ρ (.Name x pos) d (ρ.set j (.d d)) [j] :=
  fun σ B H v S r Q q => ⟨gName j, pg_name hN hi hx hf, q _ (Off.refl σ).set (S.putD r)⟩
theorem dgs_nil : DGs X c ρ [] [] ρ [] := fun σ B H vs S r Q q => ⟨gNil, pgs_nil, by
  cases r
  exact ⟨rfl, q σ (Off.refl σ) S⟩⟩
theorem Off.trans {js ks : List Nat} {σ σ1 σ2 : St} (a : Off js σ σ1) (b : Off ks σ1 σ2) : Off (js ++ ks) σ σ2 := ⟨b.1.trans a.1, fun n hn => by
  rw [List.mem_append, not_or] at hn
  rw [b.2 n hn.2, a.2 n hn.1]⟩
theorem dgs_cons {e : Expr} {es : List Expr} {ks : List Nat} (h1 : DG X c ρ e d ρ1 js) (h2 : DGs X c ρ1 es ds ρ' ks) (hs : (assignEach (e :: es) X.env).map (·.2) = assign e X.env :: (assignEach es X.env).map (·.2) := by rfl) : DGs X c ρ (e :: es) (d :: ds) ρ' (js ++ ks) := fun σ B H vs S r Q q => by
  cases r with
  | cons r t => exact ⟨_, pgs_cons pg_w pgs_w hs, _, _, rfl, h1 σ B H _ S r _ fun σ1 o1 S1 => h2 σ1 B H _ S1 t _ fun σ2 o2 S2 => q σ2 (o1.trans o2) S2⟩
theorem dg_tup {es : List Expr} {k : Nat} (hc : X.calm = true) (h : DGs X c ρ es ds ρ' js) (hn : ds.length = (assignEach es X.env).length := by rfl) (hst : (assignEach es X.env).findIdx? (·.1) = none := by rfl) : DG X c ρ (.Tuple es k pos) (.tuple ds) ρ' js := fun σ B H v S r Q q => by
  cases r with
  | tup h1 r1 =>
    refine ⟨_, pg_tup hc pgs_w rfl hst, _, _, rfl, ex_t S.bh h1, ?_, h σ B H _ S r1 Q q⟩
    rw [r1.length, hn]
theorem dg_unl {es : List Expr} {k : Nat} (hc : X.calm = true) (h : DGs X c ρ es ds ρ' js) (hn : ds.length = (assignEach es X.env).length := by rfl) (hst : (assignEach es X.env).findIdx? (·.1) = none := by rfl) : DG X c ρ (.Tuple es k pos) (.list ds) ρ' js := fun σ B H v S r Q q => by
  cases r with
  | lst h1 r1 =>
    refine ⟨_, pg_unl hc pgs_w rfl hst, _, _, rfl, SqL.of (S.bh _ _ h1), ?_, h σ B H _ S r1 Q q⟩
    rw [r1.length, hn]
end

/-! ### comprehensions -/
def wipeR (ρ : List Sl) : List Nat → List Sl
  | [] => ρ
  | v :: vs => (wipeR ρ vs).set v .no
theorem Sx.wipe {p : Pr} {c : Wd} {ρ : List Sl} {σ : St} {B H : Hp} (S : Sx p c ρ σ B H) : ∀ vs : List Nat, Sx p c (wipeR ρ vs) (wipe σ vs) B H
  | [] => S
  | _ :: vs => (Sx.wipe S vs).forget
section
variable (X : Cx) (scope : Scope)
/-- in the block of a comprehension, wherever it stands -/
def bE (e : Expr) : TE := fun σ H Q => ∀ (s : Shared) (H' : Hp) (C : Addr) (cl : List (Str × Addr)) (fp : List Addr), wE (X.blk s H' scope (compEnvC scope cl C X.env) fp) e σ H Q
def bT (es : List Expr) : TT := fun σ H Q => ∀ (s : Shared) (H' : Hp) (C : Addr) (cl : List (Str × Addr)) (fp : List Addr), wTs (X.blk s H' scope (compEnvC scope cl C X.env) fp) es σ H Q
def bG (tg : Expr) : TG := fun v σ H Q => ∀ (s : Shared) (H' : Hp) (C : Addr) (cl : List (Str × Addr)) (fp : List Addr), wG (X.blk s H' scope (compEnvC scope cl C X.env) fp) tg v σ H Q
theorem bE_pe (e : Expr) (s : Shared) (H : Hp) (C : Addr) (cl : List (Str × Addr)) (fp : List Addr) : PE (X.blk s H scope (compEnvC scope cl C X.env) fp) e (bE X scope e) := ⟨fun pins s' σ H' Q I h => (pe_w _).run pins s' σ H' Q I (h s H C cl fp)⟩
theorem bT_pt (es : List Expr) (s : Shared) (H : Hp) (C : Addr) (cl : List (Str × Addr)) (fp : List Addr) : PTs (X.blk s H scope (compEnvC scope cl C X.env) fp) es (bT X scope es) := ⟨fun pins s' σ H' Q I h => (pts_w _).run pins s' σ H' Q I (h s H C cl fp)⟩
theorem bG_pg (tg : Expr) (s : Shared) (H : Hp) (C : Addr) (cl : List (Str × Addr)) (fp : List Addr) : PG (X.blk s H scope (compEnvC scope cl C X.env) fp) tg (bG X scope tg) := ⟨fun pins s' σ H' v u Q I r h => pg_w.run pins s' σ H' v u Q I r (h s H C cl fp)⟩
end
/-- one turn's data: the target takes it, the tests answer, the element is evaluated -/
structure LcT (X : Cx) (c : Wd) (ρ : List Sl) (scope : Scope) (vs : List Nat) (tg elt : Expr) (ifs : List Expr) (x : PyData) (o : Option PyData) : Prop where
  ex : ∃ (ρ' : List Sl) (js : List Nat) (b : Bool), (∀ j ∈ js, j ∈ vs) ∧ ∀ (s : Shared) (H' : Hp) (C : Addr) (cl : List (Str × Addr)) (fp : List Addr), DG (X.blk s H' scope (compEnvC scope cl C X.env) fp) c (wipeR ρ vs) tg x ρ' js ∧
    DTs (X.blk s H' scope (compEnvC scope cl C X.env) fp) c ρ' ifs b ∧ (b = true → ∃ y, o = some y ∧ DE (X.blk s H' scope (compEnvC scope cl C X.env) fp) c ρ' elt y) ∧ (b = false → o = none)
theorem take_fm {α β : Type} {f : α → Option β} {l : List α} {i : Nat} {x : α} (h : l[i]? = some x) : (l.take (i + 1)).filterMap f = (l.take i).filterMap f ++ (f x).toList := by
  rw [List.take_add_one, h, List.filterMap_append]
  cases e : f x <;> simp [List.filterMap, e]
theorem ev_lc {X : Cx} {c : Wd} {ρ : List Sl} {scope : Scope} {vs : List Nat} {tg iter elt : Expr} {ifs : List Expr} {items : List PyData} (f : PyData → Option PyData) (hi : DI X c ρ tg iter items) (hz : items.length ≤ 50000)
    (h : ∀ (i : Nat) (x : PyData), items[i]? = some x → LcT X c ρ scope vs tg elt ifs x (f x)) :
    EVN X.pr c (tLc (wI X tg iter) (bG X scope tg) (bT X scope ifs) (bE X scope elt) vs) ρ (items.filterMap f) := fun σ B H S Q q => by
  refine hi σ B H S _ fun J B1 H1 s1 hw Dl hD => ?_
  have S1 := S.stp s1
  have hb1 : B1 Dl = none := free_of s1.bh hD
  refine lc_it hw (fun i H' => ∃ B' acc, Stp B1 H1 B' H' ∧ B' Dl = none ∧ H' Dl = some (.lst acc) ∧ RpL X.K B' acc ((items.take i).filterMap f)) ⟨B1, [], stp_new0 s1.bh _ hD, hb1, upd_same, .nil⟩ (fun i H' _ p => ?_) (fun i x H' H'' hlt p y => ?_) (fun H' p => ?_)
  · obtain ⟨B', acc, st, _⟩ := p
    exact st.b.trans st.bh
  · obtain ⟨B', acc, st, hbD, hD', ra⟩ := p
    obtain ⟨B2, d, hd, st2, rx⟩ := y B' st.b st.bh
    have s2 := st.trans st2
    obtain ⟨ρ', js, b, hjs, hh⟩ := (h i d hd).ex
    have hbD2 : B2 Dl = none := by
      cases z : B2 Dl with
      | none => rfl
      | some o =>
        rcases st2.f Dl (by rw [z]; simp) with k | k
        · exact absurd hbD k
        · rw [hD'] at k; cases k
    have hD2 : H'' Dl = some (.lst acc) := st2.h _ _ hD'
    show bG X scope tg x (wipe σ vs) H'' _
    intro sA HA CA clA fpA
    refine (hh sA HA CA clA fpA).1 (wipe σ vs) B2 H'' x ((S1.stp s2).wipe vs) rx _ fun σ2 off S2 => ⟨off.wipe hjs, ?_⟩
    show bT X scope ifs σ2 H'' _
    intro sB HB CB clB fpB
    refine (hh sB HB CB clB fpB).2.1 σ2 B2 H'' S2 _ fun B3 H3 st3 => ?_
    have hbD3 : B3 Dl = none := by
      cases z : B3 Dl with
      | none => rfl
      | some o =>
        rcases st3.f Dl (by rw [z]; simp) with k | k
        · exact absurd hbD2 k
        · rw [hD2] at k; cases k
    cases b with
    | false =>
      refine iteF ⟨B3, acc, s2.trans st3, hbD3, st3.h _ _ hD2, ?_⟩
      rw [take_fm hd, (hh sB HB CB clB fpB).2.2.2 rfl]
      simp only [Option.toList, List.append_nil]
      exact ra.mono (st2.b.trans st3.b)
    | true =>
      refine iteT ?_
      show bE X scope elt σ2 H3 _
      intro sC HC CC clC fpC
      obtain ⟨y, hy, he⟩ := (hh sC HC CC clC fpC).2.2.1 rfl
      refine he σ2 B3 H3 (S2.stp st3) _ fun v B4 H4 st4 rv => ?_
      have hD4 : H4 Dl = some (.lst acc) := st4.h _ _ (st3.h _ _ hD2)
      have hbD4 : B4 Dl = none := by
        cases z : B4 Dl with
        | none => rfl
        | some o =>
          rcases st4.f Dl (by rw [z]; simp) with k | k
          · exact absurd hbD3 k
          · rw [st3.h _ _ hD2] at k; cases k
      have s4 := (s2.trans st3).trans st4
      have la : acc.length ≤ 50000 := by
        rw [ra.length]
        have h1 := List.length_filterMap_le f (items.take i)
        have h2 := List.length_take_le i items
        omega
      refine ⟨acc, hD4, line_lt (by omega), B4, acc ++ [v], ⟨s4.b, fun b' o' e' => ?_, fun b' o' e' => ?_, s4.f⟩, hbD4, upd_same, ?_⟩
      · rw [upd_ne (fun w => by rw [w, hbD4] at e'; cases e')]
        exact s4.bh b' o' e'
      · rw [upd_ne (fun w => by rw [w, hD] at e'; cases e')]
        exact s4.h b' o' e'
      · rw [take_fm hd, hy]
        exact (ra.mono ((st2.b.trans st3.b).trans st4.b)).append (.cons rv .nil)
  · obtain ⟨B', acc, st, hbD, hD', ra⟩ := p
    rw [List.take_length] at ra
    exact q Dl acc B' H' (s1.trans st) hbD (fresh_back s1.h hD) hD' ra
section
variable {X : Cx} {c : Wd} {ρ : List Sl} {scope : Scope} {own : List (Str × Nat)} {tg iter elt : Expr} {ifs : List Expr} {items : List PyData} {pos : Pos}
/-- [elt for tg in iter if ..] -/
theorem dn_lc (f : PyData → Option PyData) (hN : X.N.Nodup) (ok : BlkOk X.N X.env.scope scope own) (hi : DI X c ρ tg iter items) (h : ∀ (i : Nat) (x : PyData), items[i]? = some x → LcT X c ρ scope (own.map (·.2)) tg elt ifs x (f x)) (hz : items.length ≤ 50000)
    (hc : X.calm = true := by rfl) (hs : ∀ x, foldedSetIterable iter X.env x = pure x := by intro _; rfl) : DN X c ρ (.ListComp elt [⟨tg, iter, ifs, 0⟩] scope pos) (items.filterMap f) :=
  dn_of (pe_lc hc hN (pi_w X) ok (bG_pg X scope tg) (bT_pt X scope ifs) (bE_pe X scope elt) hs) (ev_lc f hi hz h)
theorem dts_nil : DTs X c ρ [] true := fun σ B H S Q q => ⟨tYes, pts_nil, q B H (Stp.refl S.bh)⟩
theorem dts_one {e : Expr} {b : Bool} (h : DT X c ρ e b) : DTs X c ρ [e] b := fun σ B H S Q q => ⟨_, pts_one (pt_w X), h σ B H S Q q⟩
/-- no test -/
theorem dn_lcM (f : PyData → PyData) (hN : X.N.Nodup) (ok : BlkOk X.N X.env.scope scope own) (hi : DI X c ρ tg iter items) (ρf : PyData → List Sl) (js : List Nat)
    (h : ∀ (i : Nat) (x : PyData), items[i]? = some x → ∀ (s : Shared) (H' : Hp) (C : Addr) (cl : List (Str × Addr)) (fp : List Addr), DG (X.blk s H' scope (compEnvC scope cl C X.env) fp) c (wipeR ρ (own.map (·.2))) tg x (ρf x) js ∧ DE (X.blk s H' scope (compEnvC scope cl C X.env) fp) c (ρf x) elt (f x)) (hz : items.length ≤ 50000)
    (hjs : ∀ j ∈ js, j ∈ own.map (·.2) := by decide) (hc : X.calm = true := by rfl) (hs : ∀ x, foldedSetIterable iter X.env x = pure x := by intro _; rfl) : DN X c ρ (.ListComp elt [⟨tg, iter, [], 0⟩] scope pos) (items.map f) := by
  rw [← List.filterMap_eq_map]
  exact dn_lc _ hN ok hi (fun i x hx => ⟨ρf x, js, true, hjs, fun s H' C cl fp => ⟨(h i x hx s H' C cl fp).1, dts_nil, fun _ => ⟨f x, rfl, (h i x hx s H' C cl fp).2⟩, fun z => nomatch z⟩⟩) hz hc hs
end
end DD
/-! DD5: statements, bodies. -/
namespace DD
open PySem PySem.Spec L2
open PyProof.Rows hiding St
open Evl (Ex ex_rd ex_l ex_t fresh_back)

/-- with something else behind a statement -/
abbrev EndsD.then (E : EndsD) (M : List Sl → Prop) : EndsD := { E with nx := M }
theorem EndsOk.then {p : Pr} {c : Wd} {B : Hp} {E : EndsD} {D : Ends} {M : List Sl → Prop} {N : L2.St → Hp → Prop} (h : EndsOk p c B E D) (hn : ∀ ρ' σ' B' H', M ρ' → Ex B B' → Sx p c ρ' σ' B' H' → N σ' H') : EndsOk p c B (E.then M) { D with nx := N } := ⟨hn, h.rt, h.bk, h.ct⟩
section
variable {X : Cx} {c : Wd} {ρ ρ1 ρ' : List Sl} {e a b : Expr} {es : List Expr} {d da db : PyData} {ds : List PyData} {pos p2 : Pos} {rest : List Stmt} {E : EndsD} {M : List Sl → Prop}
theorem ds_nil (h : E.nx ρ) : DS X c ρ [] E := ds_of pss_nil fun σ B H S D q => q.nx ρ σ B H h (Ex.refl B) S
/-- weaker ends -/
theorem DS.mono {sts : List Stmt} {E' : EndsD} (h : DS X c ρ sts E) (h1 : ∀ ρ', E.nx ρ' → E'.nx ρ') (h2 : ∀ d ρ', E.rt d ρ' → E'.rt d ρ') (h3 : ∀ ρ', E.bk ρ' → E'.bk ρ') (h4 : ∀ ρ', E.ct ρ' → E'.ct ρ') : DS X c ρ sts E' := fun σ B H S D q =>
  h σ B H S D ⟨fun ρ' σ' B' H' z => q.nx ρ' σ' B' H' (h1 _ z), fun d v ρ' σ' B' H' z => q.rt d v ρ' σ' B' H' (h2 _ _ z), fun ρ' σ' B' H' z => q.bk ρ' σ' B' H' (h3 _ z), fun ρ' σ' B' H' z => q.ct ρ' σ' B' H' (h4 _ z)⟩
/-- a slot is forgotten -/
theorem ds_forget (j : Nat) {sts : List Stmt} (h : DS X c (ρ.set j .no) sts E) : DS X c ρ sts E := fun σ B H S D q => h σ B H S.drop D q
/-- an own list is from now on data -/
theorem Sx.freeze {p : Pr} {j : Nat} {σ : L2.St} {B H : Hp} (S : Sx p c ρ σ B H) (h : ρ[j]? = some (.own ds)) : ∃ B', Ex B B' ∧ Sx p c (ρ.set j (.d (.list ds))) σ B' H := by
  obtain ⟨r, xs, e, hb, h0, hh, rr⟩ := S.sl j _ h
  have eB : Ex B (upd B r (.lst xs)) := Ex.new hb
  have jl : j < σ.length := (List.getElem?_eq_some_iff.mp e).1
  have up : ∀ q, q ≠ r → (upd B r (.lst xs)) q = B q := fun q n => upd_ne n
  refine ⟨_, eB, S.b0.trans eB, ?_, S.h0, fun q hq => ?_, fun q t => ?_, by rw [List.length_set]; exact S.len, fun i s hs => ?_, fun i k q hik h1 h2 h3 => ?_⟩
  · intro q o ho
    by_cases w : q = r
    · subst w; rw [upd_same] at ho; cases ho; exact hh
    · rw [up q w] at ho; exact S.bh q o ho
  · by_cases w : q = r
    · subst w; exact .inr h0
    · rw [up q w] at hq; exact S.fr q hq
  · obtain ⟨t1, t2, t3⟩ := S.tk q t
    rw [up q (fun w => t3 (w ▸ h0))]
    exact ⟨t1, t2, t3⟩
  · by_cases hij : j = i
    · subst hij
      rw [List.getElem?_set_self (by rw [← S.len]; exact jl)] at hs
      cases hs
      exact ⟨_, e, .lst upd_same (rr.mono eB)⟩
    · rw [List.getElem?_set_ne hij] at hs
      have q := S.sl i s hs
      cases s with
      | no => trivial
      | d d =>
        obtain ⟨v, e1, r1⟩ := q
        exact ⟨v, e1, r1.mono eB⟩
      | seq es =>
        obtain ⟨a, xs, e1, hs, r1⟩ := q
        exact ⟨a, xs, e1, Evl.ex_l eB hs, r1.mono eB⟩
      | tin n => exact q
      | own es =>
        obtain ⟨r2, ys, e2, hb2, h02, hh2, rr2⟩ := q
        refine ⟨r2, ys, e2, ?_, h02, hh2, rr2.mono eB⟩
        rw [up r2 (fun w => S.sep j i r hij (by rw [h]; rfl) (by rw [hs]; rfl) e (w ▸ e2))]
        exact hb2
      | dict kvs =>
        obtain ⟨r2, ys, e2, hb2, h02, hh2, rr2⟩ := q
        refine ⟨r2, ys, e2, ?_, h02, hh2, rr2.mono eB⟩
        rw [up r2 (fun w => S.sep j i r hij (by rw [h]; rfl) (by rw [hs]; rfl) e (w ▸ e2))]
        exact hb2
  · have nj : ∀ i : Nat, ((ρ.set j (Sl.d (.list ds)))[i]?.map Sl.owned) = some true → (ρ[i]?.map Sl.owned) = some true := fun i hi => by
      by_cases hij : j = i
      · subst hij
        rw [List.getElem?_set_self (by rw [← S.len]; exact jl)] at hi
        cases hi
      · rw [List.getElem?_set_ne hij] at hi
        exact hi
    exact S.sep i k q hik (nj i h1) (nj k h2) h3
/-- an own list may be handed on -/
theorem ds_freeze (j : Nat) {sts : List Stmt} (h : ρ[j]? = some (.own ds)) (k : DS X c (ρ.set j (.d (.list ds))) sts E) : DS X c ρ sts E := fun σ B H S D q => by
  obtain ⟨B', e, S'⟩ := S.freeze h
  exact k σ B' H S' D (q.up e)

/-! ### assignments -/
theorem ds_set (i : Nat) {x : Str} {px : Pos} (he : DE X c ρ e d) (k : DS X c (ρ.set i (.d d)) rest E) (hN : X.N.Nodup) (hi : X.N[i]? = some x := by rfl) (hx : Loc X.env.scope x := by first | exact Or.inl rfl | exact Or.inr rfl)
    (hs : swapsWith e (some (.Name x px)) pos.line X.env = pure false := by rfl) (hf : X.fn x = true ∨ X.env.scope.names.lookup x = some .local := by first | exact .inl rfl | exact .inr rfl) : DS X c ρ (.Assign [.Name x px] e pos :: rest) E :=
  ds_of (pss_cons (ps_set hN hi hx (pe_w X) hs hf) (pss_w X)) fun σ B H S D q => he σ B H S _ fun v B1 H1 s1 r1 => k (σ.set i (some v)) B1 H1 ((S.stp s1).putD r1) D (q.up s1.b)
theorem Sx.putN {p : Pr} {i : Nat} {a : Addr} {xs : List V} {σ : L2.St} {B H : Hp} (S : Sx p c ρ σ B H) (hb : B a = none) (h0 : c.H0 a = none) (hh : H a = some (.lst xs)) (r : RpL p.K B xs ds) (new : ∀ (j : Nat), (ρ[j]?.map Sl.owned) = some true → σ[j]? ≠ some (some (.ref a))) :
    Sx p c (ρ.set i (.own ds)) (σ.set i (some (.ref a))) B H := S.put ⟨a, xs, rfl, hb, h0, hh, r⟩ fun _ j b _ hj e => by cases e; exact new j hj
/-- an address that is new stands in no owned slot -/
theorem Sx.newN {p : Pr} {σ : L2.St} {B H : Hp} (S : Sx p c ρ σ B H) {a : Addr} (h : H a = none) (j : Nat) (hj : (ρ[j]?.map Sl.owned) = some true) : σ[j]? ≠ some (some (.ref a)) := fun e => by
  cases q : ρ[j]? with
  | none => rw [q] at hj; cases hj
  | some s =>
    rw [q] at hj
    have z := S.sl j s q
    rw [e] at z
    cases s with
    | own ds =>
      obtain ⟨b, xs, e1, _, _, hh, _⟩ := z
      cases e1
      rw [h] at hh; cases hh
    | dict ds =>
      obtain ⟨b, xs, e1, _, _, hh, _⟩ := z
      cases e1
      rw [h] at hh; cases hh
    | _ => cases hj
theorem ds_setN (i : Nat) {x : Str} {px : Pos} (he : DN X c ρ e ds) (k : DS X c (ρ.set i (.own ds)) rest E) (hN : X.N.Nodup) (hi : X.N[i]? = some x := by rfl) (hx : Loc X.env.scope x := by first | exact Or.inl rfl | exact Or.inr rfl)
    (hs : swapsWith e (some (.Name x px)) pos.line X.env = pure false := by rfl) (hf : X.fn x = true ∨ X.env.scope.names.lookup x = some .local := by first | exact .inl rfl | exact .inr rfl) : DS X c ρ (.Assign [.Name x px] e pos :: rest) E :=
  ds_of (pss_cons (ps_set hN hi hx (pe_w X) hs hf) (pss_w X)) fun σ B H S D q => he σ B H S _ fun v xs B1 H1 s1 hb hn hh r1 => k (σ.set i (some (.ref v))) B1 H1 ((S.stp s1).putN hb (S.h0n hn) hh r1 (S.newN hn)) D (q.up s1.b)
theorem ds_setX (i : Nat) {x : Str} {px : Pos} {P : PyData → List Sl → Prop} (he : DX X c ρ e P) (k : ∀ d ρ', P d ρ' → DS X c (ρ'.set i (.d d)) rest E) (hN : X.N.Nodup) (hi : X.N[i]? = some x := by rfl) (hx : Loc X.env.scope x := by first | exact Or.inl rfl | exact Or.inr rfl)
    (hs : swapsWith e (some (.Name x px)) pos.line X.env = pure false := by rfl) (hf : X.fn x = true ∨ X.env.scope.names.lookup x = some .local := by first | exact .inl rfl | exact .inr rfl) : DS X c ρ (.Assign [.Name x px] e pos :: rest) E :=
  ds_of (pss_cons (ps_set hN hi hx (pe_w X) hs hf) (pss_w X)) fun σ B H S D q => he σ B H S _ fun v B1 H1 d ρ' hP s1 S1 r1 => k d ρ' hP (σ.set i (some v)) B1 H1 (S1.putD r1) D (q.up s1.b)
/-- name = [.. for ..], a plain local -/
theorem ds_setLc (i : Nat) {y : Str} {py spos : Pos} {scope : Scope} {own : List (Str × Nat)} {tg iter elt : Expr} {ifs : List Expr} {items : List PyData} (f : PyData → Option PyData) (hN : X.N.Nodup) (ok : BlkOk X.N X.env.scope scope own) (hi : DI X c ρ tg iter items)
    (h : ∀ (i : Nat) (x : PyData), items[i]? = some x → LcT X c ρ scope (own.map (·.2)) tg elt ifs x (f x)) (hz : items.length ≤ 50000) (k : DS X c (ρ.set i (.d (.list (items.filterMap f)))) rest E)
    (hsw : swapsWith (.ListComp elt [⟨tg, iter, ifs, 0⟩] scope pos) (some (.Name y py)) spos.line X.env = pure true) (hy : X.N[i]? = some y := by rfl) (hyl : X.env.scope.names.lookup y = some .local := by rfl)
    (hc : X.calm = true := by rfl) (hs : ∀ x, foldedSetIterable iter X.env x = pure x := by intro _; rfl) : DS X c ρ (.Assign [.Name y py] (.ListComp elt [⟨tg, iter, ifs, 0⟩] scope pos) spos :: rest) E :=
  ds_of (pss_cons (ps_setLc hc hN hy hyl hsw (pi_w X) ok (bG_pg X scope tg) (bT_pt X scope ifs) (bE_pe X scope elt) hs) (pss_w X)) fun σ B H S D q => by
    show tLc (wI X tg iter) (bG X scope tg) (bT X scope ifs) (bE X scope elt) (own.map (·.2)) σ H fun x H1 => wSs X rest D (σ.set i (some x)) H1
    refine ev_lc f hi hz h σ B H S _ fun a xs B1 H1 s1 hb hn hh r => ?_
    have st2 : Ex B1 (upd B1 a (.lst xs)) := Ex.new hb
    refine k (σ.set i (some (.ref a))) (upd B1 a (.lst xs)) H1 ((S.stp ⟨s1.b.trans st2, fun b o e => ?_, s1.h, fun b e => ?_⟩).putD (.lst upd_same (r.mono st2))) D (q.up (s1.b.trans st2))
    · by_cases w : b = a
      · subst w; rw [upd_same] at e; cases e; exact hh
      · rw [upd_ne w] at e; exact s1.bh b o e
    · by_cases w : b = a
      · subst w; exact .inr hn
      · rw [upd_ne w] at e; exact s1.f b e
/-- a, b = x, y -/
theorem ds_par (i j : Nat) {x y : Str} {px py pt : Pos} {kt k2 pt2} (ha : DA X c ρ [a, b] [da, db]) (k : DS X c ((ρ.set i (.d da)).set j (.d db)) rest E) (hN : X.N.Nodup)
    (hw : swappedStores [.Tuple [.Name x px, .Name y py] kt pt] (.Tuple [a, b] k2 pt2) X.env = pure (some [x, y])) (hi : X.N[i]? = some x := by rfl) (hj : X.N[j]? = some y := by rfl) (hij : i ≠ j := by decide)
    (hx : X.env.scope.names.lookup x = some .local := by rfl) (hy : X.env.scope.names.lookup y = some .local := by rfl) (hc : X.calm = true := by rfl)
    (hs : swapsWithSole [.Tuple [.Name x px, .Name y py] kt pt] (.Tuple [a, b] k2 pt2) pos.line X.env = pure false := by rfl) : DS X c ρ (.Assign [.Tuple [.Name x px, .Name y py] kt pt] (.Tuple [a, b] k2 pt2) pos :: rest) E :=
  ds_of (pss_cons (ps_par hc hN hi hj hij hx hy (pa_w X) hw hs) (pss_w X)) fun σ B H S D q => ha σ B H S _ fun vs B1 H1 s1 r1 => by
    obtain ⟨v, w, rfl, r, r2⟩ := rp2 r1
    exact ⟨v, w, rfl, k _ B1 H1 (((S.stp s1).putD r).putD r2) D (q.up s1.b)⟩
/-- a, b, c = x, y, z -/
theorem ds_par3 (i j l : Nat) {x y z : Str} {e3 : Expr} {d3 : PyData} {px py pz pt : Pos} {kt k2 pt2} (ha : DA X c ρ [a, b, e3] [da, db, d3]) (k : DS X c (((ρ.set i (.d da)).set j (.d db)).set l (.d d3)) rest E) (hN : X.N.Nodup)
    (hw : swappedStores [.Tuple [.Name x px, .Name y py, .Name z pz] kt pt] (.Tuple [a, b, e3] k2 pt2) X.env = pure (some [x, y, z])) (hi : X.N[i]? = some x := by rfl) (hj : X.N[j]? = some y := by rfl) (hl : X.N[l]? = some z := by rfl) (hij : i ≠ j := by decide) (hil : i ≠ l := by decide) (hjl : j ≠ l := by decide)
    (hx : X.env.scope.names.lookup x = some .local := by rfl) (hy : X.env.scope.names.lookup y = some .local := by rfl) (hz : X.env.scope.names.lookup z = some .local := by rfl) (hc : X.calm = true := by rfl)
    (hs : swapsWithSole [.Tuple [.Name x px, .Name y py, .Name z pz] kt pt] (.Tuple [a, b, e3] k2 pt2) pos.line X.env = pure false := by rfl) : DS X c ρ (.Assign [.Tuple [.Name x px, .Name y py, .Name z pz] kt pt] (.Tuple [a, b, e3] k2 pt2) pos :: rest) E :=
  ds_of (pss_cons (ps_par3 hc hN hi hj hl hij hil hjl hx hy hz (pa_w X) hw hs) (pss_w X)) fun σ B H S D q => ha σ B H S _ fun vs B1 H1 s1 r1 => by
    cases r1 with
    | cons r t =>
      obtain ⟨v, w, rfl, r2, r3⟩ := rp2 t
      exact ⟨_, v, w, rfl, k _ B1 H1 ((((S.stp s1).putD r).putD r2).putD r3) D (q.up s1.b)⟩
/-- any other target: a tuple of names out of a value -/
theorem ds_unp {tg : Expr} {js : List Nat} (he : DE X c ρ e d) (hg : DG X c ρ tg d ρ' js) (k : DS X c ρ' rest E) (hs : swapsWithSole [tg] e pos.line X.env = pure false := by rfl) (hw : swappedStores [tg] e X.env = pure none := by rfl) (h1 : (assignEach [tg] X.env).map (·.2) = [assign tg X.env] := by rfl) : DS X c ρ (.Assign [tg] e pos :: rest) E :=
  ds_of (pss_cons (ps_asg (pe_w X) pg_w hs hw h1) (pss_w X)) fun σ B H S D q => he σ B H S _ fun v B1 H1 s1 r1 => hg σ B1 H1 v (S.stp s1) r1 _ fun σ' _ S' => k σ' B1 H1 S' D (q.up s1.b)
theorem ds_unpX {tg : Expr} {P : PyData → List Sl → Prop} (he : DX X c ρ e P) (k : ∀ d ρ1, P d ρ1 → ∃ ρ' js, DG X c ρ1 tg d ρ' js ∧ DS X c ρ' rest E) (hs : swapsWithSole [tg] e pos.line X.env = pure false := by rfl) (hw : swappedStores [tg] e X.env = pure none := by rfl) (h1 : (assignEach [tg] X.env).map (·.2) = [assign tg X.env] := by rfl) : DS X c ρ (.Assign [tg] e pos :: rest) E :=
  ds_of (pss_cons (ps_asg (pe_w X) pg_w hs hw h1) (pss_w X)) fun σ B H S D q => he σ B H S _ fun v B1 H1 d ρ1 hP s1 S1 r1 => by
    obtain ⟨ρ', js, hg, k⟩ := k d ρ1 hP
    exact hg σ B1 H1 v S1 r1 _ fun σ' _ S' => k σ' B1 H1 S' D (q.up s1.b)
theorem ds_aug (i : Nat) {x : Str} {px : Pos} {n m : Int} {op : Operator} {f : Int → Int → Int} (ho : PIp X op (ipI f)) (h : ρ[i]? = some (.d (.int n))) (he : DE X c ρ e (.int m)) (k : DS X c (ρ.set i (.d (.int (f n m)))) rest E) (hN : X.N.Nodup) (hi : X.N[i]? = some x := by rfl)
    (hx : Loc X.env.scope x := by first | exact Or.inl rfl | exact Or.inr rfl) (hf : X.fn x = true ∨ X.env.scope.names.lookup x = some .local := by first | exact .inl rfl | exact .inr rfl) : DS X c ρ (.AugAssign (.Name x px) op e pos :: rest) E :=
  ds_of (pss_cons (ps_aug hN hi hx (pe_w X) ho hf) (pss_w X)) fun σ B H S D q => by
    obtain ⟨v, e1, r⟩ := S.sl i _ h
    cases r
    exact ⟨.int n, e1, he σ B H S _ fun v B1 H1 s1 r1 => by
      cases r1
      exact ⟨n, m, rfl, rfl, k _ B1 H1 ((S.stp s1).putD (.int _)) D (q.up s1.b)⟩⟩

/-! ### return, if, for, while -/
theorem ds_ret (he : DE X c ρ e d) (h : E.rt d ρ) : DS X c ρ (.Return (some e) pos :: rest) E :=
  ds_of (pss_cons (ps_ret (pe_w X)) (pss_w X)) fun σ B H S D q => he σ B H S _ fun v B1 H1 s1 r1 => q.rt d v ρ σ B1 H1 h s1.b (S.stp s1) r1
theorem ds_retX {P : PyData → List Sl → Prop} (he : DX X c ρ e P) (h : ∀ d ρ', P d ρ' → E.rt d ρ') : DS X c ρ (.Return (some e) pos :: rest) E :=
  ds_of (pss_cons (ps_ret (pe_w X)) (pss_w X)) fun σ B H S D q => he σ B H S _ fun v B1 H1 d ρ' hP s1 S1 r1 => q.rt d v ρ' σ B1 H1 (h d ρ' hP) s1.b S1 r1
theorem ds_if {k : Bool} {A Bs : List Stmt} (M : List Sl → Prop) (ht : DT X c ρ e k) (h1 : k = true → DS X c ρ A (E.then M)) (h2 : k = false → DS X c ρ Bs (E.then M)) (k3 : ∀ ρ', M ρ' → DS X c ρ' rest E) : DS X c ρ (.If e A Bs pos :: rest) E :=
  ds_of (pss_cons (ps_if (pt_w X) (pss_w X) (pss_w X)) (pss_w X)) fun σ B H S D q => ht σ B H S _ fun B1 H1 s1 => by
    have q2 : EndsOk X.pr c B1 (E.then M) { D with nx := wSs X rest D } := (q.up s1.b).then fun ρ' σ' B' H' m e' S' => k3 ρ' m σ' B' H' S' D ((q.up s1.b).up e')
    cases k with
    | true => exact iteT (h1 rfl σ B1 H1 (S.stp s1) _ q2)
    | false => exact iteF (h2 rfl σ B1 H1 (S.stp s1) _ q2)
/-- an if whose body leaves -/
theorem ds_ifR {k : Bool} {A : List Stmt} (ht : DT X c ρ e k) (h1 : k = true → DS X c ρ A (E.then fun _ => False)) (h2 : k = false → DS X c ρ rest E) : DS X c ρ (.If e A [] pos :: rest) E := by
  refine ds_if (fun ρ' => k = false ∧ ρ' = ρ) ht (fun z => (h1 z).mono (fun _ h => False.elim h) (fun _ _ h => h) (fun _ h => h) (fun _ h => h)) (fun z => ds_nil ⟨z, rfl⟩) fun ρ' h => ?_
  obtain ⟨z, rfl⟩ := h
  exact h2 z
/-- one way is taken -/
theorem ds_ifT {A Bs : List Stmt} (ht : DT X c ρ e true) (M : List Sl → Prop) (h1 : DS X c ρ A (E.then M)) (k3 : ∀ ρ', M ρ' → DS X c ρ' rest E) : DS X c ρ (.If e A Bs pos :: rest) E := ds_if M ht (fun _ => h1) (fun z => nomatch z) k3
theorem ds_ifF {A : List Stmt} (ht : DT X c ρ e false) (k : DS X c ρ rest E) : DS X c ρ (.If e A [] pos :: rest) E := ds_ifR ht (fun z => nomatch z) fun _ => k
theorem ds_for {tg iter : Expr} {body : List Stmt} {items : List PyData} (hi : DI X c ρ tg iter items) (I : Nat → List Sl → Prop) (h0 : I 0 ρ)
    (hs : ∀ (i : Nat) (x : PyData) (ρ1 : List Sl), items[i]? = some x → I i ρ1 → ∃ ρ' js, DG X c ρ1 tg x ρ' js ∧ DS X c ρ' body { E with nx := I (i + 1), ct := I (i + 1), bk := fun ρ' => DS X c ρ' rest E }) (hd : ∀ ρ', I items.length ρ' → DS X c ρ' rest E)
    (hp : PassesOwn (model X.prog X.w) X.A X.env X.xe := by exact PassesOwn.never) (hc : X.calm = true := by rfl) (hst : ∀ x, foldedSetIterable iter X.env x = pure x := by intro _; rfl) : DS X c ρ (.For tg iter body [] pos :: rest) E :=
  ds_of (pss_cons (ps_for hp hc (pi_w X) pg_w (pss_w X) hst) (pss_w X)) fun σ B H S D q => hi σ B H S _ fun J B1 H1 s1 hw => by
    refine for_it hw (fun i σ' H' => ∃ B' ρ', Ex B1 B' ∧ Sx X.pr c ρ' σ' B' H' ∧ I i ρ') ⟨B1, ρ, Ex.refl B1, S.stp s1, h0⟩ (fun i σ' H' _ p => ?_) (fun i x σ' H' H'' hlt p y => ?_) (fun σ' H' p => ?_)
    · obtain ⟨B', ρ', e, S', _⟩ := p
      exact e.trans S'.bh
    · obtain ⟨B', ρ1, e, S', hI⟩ := p
      obtain ⟨B2, d, hd, st2, rx⟩ := y B' e S'.bh
      obtain ⟨ρ', js, hg, hb⟩ := hs i d ρ1 hd hI
      have e2 := e.trans st2.b
      refine hg σ' B2 H'' x (S'.stp st2) rx _ fun σ2 _ S2 => ?_
      refine hb σ2 B2 H'' S2 _ ⟨fun ρ3 σ3 B3 H3 m e3 S3 => ?_, fun d v ρ3 σ3 B3 H3 m e3 S3 r => q.rt d v ρ3 σ3 B3 H3 m (s1.b.trans (e2.trans e3)) S3 r, fun ρ3 σ3 B3 H3 m e3 S3 => m σ3 B3 H3 S3 D (q.up (s1.b.trans (e2.trans e3))), fun ρ3 σ3 B3 H3 m e3 S3 => ?_⟩
      · exact ⟨B3, ρ3, e2.trans e3, S3, m⟩
      · exact ⟨B3, ρ3, e2.trans e3, S3, m⟩
    · obtain ⟨B', ρ', e, S', hI⟩ := p
      exact hd ρ' hI σ' B' H' S' D (q.up (s1.b.trans e))
theorem ds_while {test : Expr} {body : List Stmt} (I : Nat → List Sl → Prop) (n0 : Nat) (h0 : I n0 ρ)
    (hs : ∀ (n : Nat) (ρ1 : List Sl), I n ρ1 → ∃ k, DT X c ρ1 test k ∧ (k = true → DS X c ρ1 body { E with nx := fun ρ' => ∃ m, m < n ∧ I m ρ', ct := fun ρ' => ∃ m, m < n ∧ I m ρ', bk := fun ρ' => DS X c ρ' rest E }) ∧ (k = false → DS X c ρ1 rest E))
    (hp : PassesOwn (model X.prog X.w) X.A X.env X.xe := by exact PassesOwn.never) : DS X c ρ (.While test body [] pos :: rest) E :=
  ds_of (pss_cons (ps_while hp (pt_w X) (pss_w X)) (pss_w X)) fun σ B H S D q => by
    refine ⟨fun n σ' H' => ∃ B' ρ', Ex B B' ∧ Sx X.pr c ρ' σ' B' H' ∧ I n ρ', ⟨n0, B, ρ, Ex.refl B, S, h0⟩, fun n σ' H' p => ?_⟩
    obtain ⟨B', ρ1, e, S', hI⟩ := p
    obtain ⟨k, ht, h1, h2⟩ := hs n ρ1 hI
    refine ht σ' B' H' S' _ fun B2 H2 s2 => ?_
    have e2 := e.trans s2.b
    cases k with
    | false => exact iteF (h2 rfl σ' B2 H2 (S'.stp s2) D (q.up e2))
    | true =>
      refine iteT ⟨fun σ3 H3 => ∃ m, m < n ∧ ∃ B' ρ', Ex B B' ∧ Sx X.pr c ρ' σ3 B' H3 ∧ I m ρ', fun σ3 H3 z => z, ?_⟩
      refine h1 rfl σ' B2 H2 (S'.stp s2) _ ⟨fun ρ3 σ3 B3 H3 m e3 S3 => ?_, fun d v ρ3 σ3 B3 H3 m e3 S3 r => q.rt d v ρ3 σ3 B3 H3 m (e2.trans e3) S3 r, fun ρ3 σ3 B3 H3 m e3 S3 => m σ3 B3 H3 S3 D (q.up (e2.trans e3)), fun ρ3 σ3 B3 H3 m e3 S3 => ?_⟩
      · obtain ⟨m, hm, hI⟩ := m
        exact ⟨m, hm, B3, ρ3, e2.trans e3, S3, hI⟩
      · obtain ⟨m, hm, hI⟩ := m
        exact ⟨m, hm, B3, ρ3, e2.trans e3, S3, hI⟩
end
end DD
/-! DD6: a def's promise by its body. -/
namespace DD
open PySem PySem.Spec L2
open PyProof.Rows hiding St
open Evl (Ex ex_rd ex_l ex_t fresh_back)
abbrev cxD (P : Program) (w : World) (K : PySem.W.Frag) (mg : Str → Option Value) (base : Heap) (N : List Str) (qual : Str) (st : Stmt) (f : Addr) (cdv : Value) (A : Around) (outer : List Env) (s : Shared) (H : Hp) (E : XK) : Cx := (cxOf CX0 P w K mg base N qual (defScope st) f cdv A outer s H E).nox
def startR (n : Nat) (ds : List PyData) : List Sl := ds.map Sl.d ++ List.replicate (n - ds.length) Sl.no
def endR (d : PyData) : EndsD := { nx := fun _ => d = .none, rt := fun d' _ => d' = d }
theorem RpL.some {K : PySem.W.Frag} {B : Hp} {vs : List V} {ds : List PyData} (r : RpL K B vs ds) {N : List Str} : (L2.start N vs).length = (startR N.length ds).length := by
  unfold L2.start startR
  simp [r.length]
theorem startR_sx {P : Program} {w : World} {K : PySem.W.Frag} {B H : Hp} {vs : List V} {ds : List PyData} (N : List Str) (e : Ex B H) (r : RpL K B vs ds) : Sx ⟨P, w, K⟩ ⟨B, H, none⟩ (startR N.length ds) (L2.start N vs) B H where
  b0 := Ex.refl B
  bh := e
  h0 := fun b o _ h => h
  fr := fun q h => .inl h
  tk := fun a h => nomatch h
  len := r.some
  sl := fun i s h => by
    unfold startR at h
    unfold L2.start
    by_cases hi : i < ds.length
    · rw [List.getElem?_append_left (by rw [List.length_map]; exact hi), List.getElem?_map, List.getElem?_eq_getElem hi] at h
      cases h
      obtain ⟨v, hv, rv⟩ := r.get (List.getElem?_eq_getElem hi)
      refine ⟨v, ?_, rv⟩
      rw [List.getElem?_append_left (by rw [List.length_map, r.length]; exact hi), List.getElem?_map, hv]
      rfl
    · rw [List.getElem?_append_right (by rw [List.length_map]; omega), List.length_map, List.getElem?_replicate] at h
      split at h
      · cases h; trivial
      · cases h
  sep := fun i j a _ h1 => by
    exfalso
    unfold startR at h1
    by_cases hi : i < ds.length
    · rw [List.getElem?_append_left (by rw [List.length_map]; exact hi), List.getElem?_map, List.getElem?_eq_getElem hi] at h1
      cases h1
    · rw [List.getElem?_append_right (by rw [List.length_map]; omega), List.length_map, List.getElem?_replicate] at h1
      split at h1 <;> cases h1
section
variable {P : Program} {w : World} {K : PySem.W.Frag} {mg : Str → Option Value} {base : Heap}
theorem fn_pure {x qual : Str} {st : Stmt} {f : Addr} {fd : FuncData} {N ps : List Str} {k : Nat} (R : List PyData → PyData → Prop) (F : Fun K x qual st f fd) (S : FnScope N ps (defScope st)) (hl : ∀ ds d, R ds d → ds.length = ps.length)
    (h : ∀ (cdv : Value) (A : Around) (outer : List Env) (s : Shared) (H : Hp) (E : XK), Room k (A.deeper (envOfC qual (defScope st) s.heap.objs.size f cdv)) → ∀ (c : Wd) (ds : List PyData) (d : PyData), R ds d →
      DS (cxD P w K mg base N qual st f cdv A outer s H E) c (startR N.length ds) (defBody st) (endR d)) : FnOk P w K mg base CX0 (k + 1) f fd ps (spD K R) := by
  refine F.ok S (fun vs H Q E z => ?_) (fun cdv A outer s H vs Q E hr z => ?_)
  · obtain ⟨B, ds, d, _, r, hR, _⟩ := z
    rw [r.length]
    exact hl ds d hR
  · obtain ⟨B, ds, d, e, r, hR, q⟩ := z
    refine ⟨_, pss_w _, h cdv A outer s H E hr ⟨B, H, none⟩ ds d hR _ B H (startR_sx N e r) _ ⟨fun ρ' σ' B' H' z _ S' => ?_, fun d' v ρ' σ' B' H' z _ S' rv => ?_, fun _ _ _ _ z => z.elim, fun _ _ _ _ z => z.elim⟩⟩
    · have z : d = .none := z
      subst z
      exact q .non B' H' ⟨S'.b0, S'.bh, fun b o h => S'.h0 b o (by simp) h, S'.fr⟩ .non
    · have z : d' = d := z
      subst z
      exact q v B' H' ⟨S'.b0, S'.bh, fun b o h => S'.h0 b o (by simp) h, S'.fr⟩ rv
theorem fn_def {x qual : Str} {st : Stmt} {f : Addr} {fd : FuncData} {ps : List Str} {k : Nat} {sp : Sp} (F : Fun K x qual st f fd) (G : FnOk P w K mg base CX0 k f fd ps sp) (hm : mg x = some (.ref f)) (hb : Binds K fd ps []) : DefOk P w K mg base x ps k sp := ⟨f, fd, G, hm, F.kp, hb⟩
end
/-- the built-ins are still themselves -/
structure Bi (mg : Str → Option Value) : Prop where
  len : mg "len" = none
  isinstance : mg "isinstance" = none
  tuple : mg "tuple" = none
  list : mg "list" = none
  int : mg "int" = none
  bool : mg "bool" = none
  str : mg "str" = none
  range : mg "range" = none
  max : mg "max" = none
  min : mg "min" = none
  all : mg "all" = none
  abs : mg "abs" = none
  enumerate : mg "enumerate" = none
  zip : mg "zip" = none
  sorted : mg "sorted" = none
/-- where a def stands -/
structure At (K : PySem.W.Frag) (mg : Str → Option Value) (x : Str) (st : Stmt) (ps : List Str) : Prop where
  ex : ∃ f fd, Fun K x x st f fd ∧ mg x = some (.ref f) ∧ Binds K fd ps []
theorem at_def {P : Program} {w : World} {K : PySem.W.Frag} {mg : Str → Option Value} {base : Heap} {x : Str} {st : Stmt} {ps N : List Str} {k : Nat} (T : At K mg x st ps) (R : List PyData → PyData → Prop) (S : FnScope N ps (defScope st)) (hl : ∀ ds d, R ds d → ds.length = ps.length)
    (h : ∀ (f : Addr) (cdv : Value) (A : Around) (outer : List Env) (s : Shared) (H : Hp) (E : XK), Room k (A.deeper (envOfC x (defScope st) s.heap.objs.size f cdv)) → ∀ (c : Wd) (ds : List PyData) (d : PyData), R ds d →
      DS (cxD P w K mg base N x st f cdv A outer s H E) c (startR N.length ds) (defBody st) (endR d)) : DefOk P w K mg base x ps (k + 1) (spD K R) := by
  obtain ⟨f, fd, F, hm, hb⟩ := T.ex
  exact ⟨f, fd, fn_pure R F S hl (h f), hm, F.kp, hb⟩
end DD
/-! DD7: more rules: chains, constants of the module, own lists. -/
namespace DD
open PySem PySem.Spec L2
open PyProof.Rows hiding St
open Evl (Ex ex_rd ex_l ex_t fresh_back)
section
variable {X : Cx} {c : Wd} {ρ ρ' : List Sl} {e a b e3 : Expr} {es : List Expr} {d da db d3 : PyData} {ds : List PyData} {p pos p2 : Pos} {i j : Int} {rest : List Stmt} {E : EndsD}
/-! ### a < b < c -/
theorem ev_chain {op op' : CmpOp} {k l : Bool} {r r' : R2} (ha : DE X c ρ a da) (hb : DE X c ρ b db) (hc : DE X c ρ e3 d3) (h1 : OpD X.K r da db (.bool k)) (h2 : OpD X.K r' db d3 (.bool l)) : EV X.pr c (tChain r r' (wE X a) (wE X b) (wE X e3)) ρ (.bool (k && l)) := fun σ B H S Q q =>
  ha σ B H S _ fun x B1 H1 s1 r1 => hb σ B1 H1 (S.stp s1) _ fun y B2 H2 s2 r2 => h1 x y B2 H2 _ s2.bh (r1.mono s2.b) r2 fun v B3 H3 s3 r3 => by
    cases r3
    refine ⟨k, rfl, ?_⟩
    have s := (s1.trans s2).trans s3
    cases k with
    | false => exact iteF (q _ B3 H3 s (.bl _))
    | true => exact iteT (hc σ B3 H3 (S.stp s) _ fun w B4 H4 s4 r4 => h2 y w B4 H4 Q s4.bh (r2.mono (s3.b.trans s4.b)) r4 fun v B5 H5 s5 r5 => q v B5 H5 ((s.trans s4).trans s5) r5)
theorem de_chain {op op' : CmpOp} {k l : Bool} (ha : DE X c ρ a da) (hb : DE X c ρ b db) (hc : DE X c ρ e3 d3) (h1 : CmpOk X op da db k) (h2 : CmpOk X op' db d3 l) (hm : lastMarks [op, op'] [b, e3] = false := by with_unfolding_all rfl) : DE X c ρ (.Compare a [op, op'] [b, e3] pos) (.bool (k && l)) := by
  obtain ⟨r, ho, h1⟩ := h1
  obtain ⟨r', ho', h2⟩ := h2
  exact de_of (pe_chain ho ho' (pe_w X) (pe_w X) (pe_w X) hm) (ev_chain (op := op) (op' := op') ha hb hc h1 h2)
theorem dt_chain {op op' : CmpOp} {k l : Bool} (ha : DE X c ρ a da) (hb : DE X c ρ b db) (hc : DE X c ρ e3 d3) (h1 : CmpOk X op da db k) (h2 : CmpOk X op' db d3 l) (hm : lastMarks [op, op'] [b, e3] = false := by with_unfolding_all rfl) : DT X c ρ (.Compare a [op, op'] [b, e3] pos) (k && l) := by
  obtain ⟨r, ho, h1⟩ := h1
  obtain ⟨r', ho', h2⟩ := h2
  exact dt_of (pt_chain ho ho' (pe_w X) (pe_w X) (pe_w X) hm) fun σ B H S Q q => ev_chain (op := op) (op' := op') ha hb hc h1 h2 σ B H S _ fun v B' H' st rv => by
    cases rv
    exact ⟨_, rfl, q B' H' st⟩

/-! ### isinstance, the answer reckoned from the data -/
inductive Ty5 where
  | int | bool | tuple | list | str
def Ty5.name : Ty5 → String
  | .int => "int"
  | .bool => "bool"
  | .tuple => "tuple"
  | .list => "list"
  | .str => "str"
def isiD : PyData → Ty5 → Bool
  | .int _, .int => true
  | .bool _, .int => true
  | .bool _, .bool => true
  | .tuple _, .tuple => true
  | .list _, .list => true
  | .str _, .str => true
  | _, _ => false
theorem kit5 (d : PyData) (T : Ty5) : kitB (tyD d) T.name = some (isiD d T) := by
  cases d <;> cases T <;> (dsimp only [tyD, isiD, Ty5.name]; decide +kernel)
theorem de_is5 (T : Ty5) {x : Str} {p3 : Pos} (hm : X.mg "isinstance" = none) (hm2 : X.mg x = none) (ha : DE X c ρ a d) (hx : bootBuiltins x = some (.type T.name) := by decide +kernel) (hg : Gl X "isinstance" := by rfl) (hg2 : Gl X x := by rfl)
    (hn : x ≠ "__name__" := by decide) (hd : (x == ("__debug__" : Str)) = false := by decide) (hs : starEach [a, .Name x p3] X.env = (false, eval a X.env) :: starEach [.Name x p3] X.env := by rfl) (hpl : (backTo pos (starEach [.Name x p3] X.env)).any (·.1) = false := by rfl)
    (hs2 : starEach [.Name x p3] X.env = (false, eval (.Name x p3) X.env) :: starEach [] X.env := by rfl) : DE X c ρ (.Call (.Name "isinstance" p) [a, .Name x p3] [] pos) (.bool (isiD d T)) :=
  de_isi hm hm2 hx ha (kit5 d T) hg hg2 hn hd hs hpl hs2
theorem de_is55 (T U : Ty5) {x y : Str} {p3 p4 p5 : Pos} {kk} (hm : X.mg "isinstance" = none) (hm2 : X.mg x = none) (hm3 : X.mg y = none) (ha : DE X c ρ a d) (hx : bootBuiltins x = some (.type T.name) := by decide +kernel) (hy : bootBuiltins y = some (.type U.name) := by decide +kernel)
    (hg : Gl X "isinstance" := by rfl) (hg2 : Gl X x := by rfl) (hg3 : Gl X y := by rfl) (hn : x ≠ "__name__" := by decide) (hd : (x == ("__debug__" : Str)) = false := by decide) (hn2 : y ≠ "__name__" := by decide) (hd2 : (y == ("__debug__" : Str)) = false := by decide)
    (hs : starEach [a, .Tuple [.Name x p3, .Name y p4] kk p5] X.env = (false, eval a X.env) :: starEach [.Tuple [.Name x p3, .Name y p4] kk p5] X.env := by rfl) (hpl : (backTo pos (starEach [.Tuple [.Name x p3, .Name y p4] kk p5] X.env)).any (·.1) = false := by rfl)
    (hs2 : starEach [.Tuple [.Name x p3, .Name y p4] kk p5] X.env = (false, eval (.Tuple [.Name x p3, .Name y p4] kk p5) X.env) :: starEach [] X.env := by rfl) (hs3 : starEach [.Name x p3, .Name y p4] X.env = (false, eval (.Name x p3) X.env) :: starEach [.Name y p4] X.env := by rfl)
    (hs4 : starEach [.Name y p4] X.env = (false, eval (.Name y p4) X.env) :: starEach [] X.env := by rfl) : DE X c ρ (.Call (.Name "isinstance" p) [a, .Tuple [.Name x p3, .Name y p4] kk p5] [] pos) (.bool (isiD d T || isiD d U)) :=
  de_isi2 hm hm2 hm3 hx hy ha (kit5 d T) (kit5 d U) hg hg2 hg3 hn hd hn2 hd2 hs hpl hs2 hs3 hs4

/-! ### constants of the module -/
theorem de_gstr {x z : Str} (h : ∃ t, X.mg x = some (.str z t)) (hg : Gl X x := by rfl) (hd : (x == ("__debug__" : Str)) = false := by decide) : DE X c ρ (.Name x pos) (.str z) := by
  obtain ⟨t, h⟩ := h
  exact de_glob (v := .str z) hg h ⟨t, rfl⟩ (fun _ => .str z) hd
theorem de_gint {x : Str} {z : Int} (h : ∃ t, X.mg x = some (.int z t)) (hg : Gl X x := by rfl) (hd : (x == ("__debug__" : Str)) = false := by decide) : DE X c ρ (.Name x pos) (.int z) := by
  obtain ⟨t, h⟩ := h
  exact de_glob (v := .int z) hg h ⟨t, rfl⟩ (fun _ => .int z) hd
/-- a tuple of ints of the top -/
def GTup (K : PySem.W.Frag) (mg : Str → Option Value) (x : Str) (ns : List Int) : Prop := ∃ r, mg x = some (.ref r) ∧ ∀ H, SqT K H r (ns.map V.int)
theorem de_gtup {x : Str} {ns : List Int} (h : GTup X.K X.mg x ns) (hg : Gl X x := by rfl) (hd : (x == ("__debug__" : Str)) = false := by decide) : DE X c ρ (.Name x pos) (.tuple (ns.map PyData.int)) := by
  obtain ⟨r, h, hs⟩ := h
  exact de_glob (v := .ref r) hg h rfl (fun B => .tup (hs B) (RpL.of_ints ns)) hd

/-! ### own lists -/
theorem ev_own {n : Nat} {ds : List PyData} (h : ρ[n]? = some (.own ds)) {σ : L2.St} {B H : Hp} (S : Sx X.pr c ρ σ B H) : ∃ r xs, σ[n]? = some (some (.ref r)) ∧ H r = some (.lst xs) ∧ RpL X.K B xs ds := by
  obtain ⟨r, xs, e, _, _, hh, rr⟩ := S.sl n _ h
  exact ⟨r, xs, e, hh, rr⟩
theorem de_ownIx (n : Nat) {x : Str} {px : Pos} (h : ρ[n]? = some (.own ds)) (hb : DE X c ρ b (.int i)) (hd : atI ds i = some d) (hs : PlainIx b := by exact fun _ _ => rfl) (hN : X.N[n]? = some x := by rfl)
    (hv : Vis X.env.scope x := by first | exact Or.inl rfl | exact Or.inr (Or.inl rfl) | exact Or.inr (Or.inr rfl)) (hdb : (x == ("__debug__" : Str)) = false := by decide) (hcd : (x == ("__classdict__" : Str)) = false := by decide) : DE X c ρ (.Subscript (.Name x px) b pos) d :=
  de_of (pe_ix ix_list (pe_var hN hv hdb hcd) (pe_w X) hs) fun σ B H S Q q => by
    obtain ⟨r, xs, e, hh, rr⟩ := ev_own h S
    refine ⟨.ref r, e, hb σ B H S _ fun y B1 H1 s1 ry => ?_⟩
    cases ry
    obtain ⟨v, hv, rv⟩ := atI_rp rr hd
    exact ⟨r, xs, i, v, rfl, rfl, SqL.of (s1.h _ _ hh), hv, q v B1 H1 s1 (rv.mono s1.b)⟩
theorem de_ownLen (hm : X.mg "len" = none) (n : Nat) {x : Str} {px : Pos} (h : ρ[n]? = some (.own ds)) (hg : Gl X "len" := by rfl) (hN : X.N[n]? = some x := by rfl)
    (hv : Vis X.env.scope x := by first | exact Or.inl rfl | exact Or.inr (Or.inl rfl) | exact Or.inr (Or.inr rfl)) (hdb : (x == ("__debug__" : Str)) = false := by decide) (hcd : (x == ("__classdict__" : Str)) = false := by decide)
    (hs : starEach [.Name x px] X.env = (false, eval (.Name x px) X.env) :: starEach [] X.env := by rfl) : DE X c ρ (.Call (.Name "len" p) [.Name x px] [] pos) (.int ds.length) :=
  de_of (pe_callB call_len_seq hg hm PySem.boot_len (pa_cons (pe_var hN hv hdb hcd) pa_nil hs) (by decide) (by decide) hs rfl) fun σ B H S Q q => by
    obtain ⟨r, xs, e, hh, rr⟩ := ev_own h S
    exact ⟨.ref r, e, r, xs, rfl, .inl (SqL.of hh), by rw [rr.length]; exact q _ B H (Stp.refl S.bh) (.int _)⟩
theorem de_ownTup (hm : X.mg "tuple" = none) (n : Nat) {x : Str} {px : Pos} (h : ρ[n]? = some (.own ds)) (hg : Gl X "tuple" := by rfl) (hN : X.N[n]? = some x := by rfl)
    (hv : Vis X.env.scope x := by first | exact Or.inl rfl | exact Or.inr (Or.inl rfl) | exact Or.inr (Or.inr rfl)) (hdb : (x == ("__debug__" : Str)) = false := by decide) (hcd : (x == ("__classdict__" : Str)) = false := by decide)
    (hs : starEach [.Name x px] X.env = (false, eval (.Name x px) X.env) :: starEach [] X.env := by rfl) : DE X c ρ (.Call (.Name "tuple" p) [.Name x px] [] pos) (.tuple ds) :=
  de_of (pe_callTy call_tuple_of hg hm (by decide +kernel) (pa_cons (pe_var hN hv hdb hcd) pa_nil hs) (by decide) (by decide) hs rfl) fun σ B H S Q q => by
    obtain ⟨r, xs, e, hh, rr⟩ := ev_own h S
    exact ⟨.ref r, e, r, xs, rfl, .inl ⟨SqL.of hh, fun l hl => q _ _ _ (Stp.new S.bh _ hl) (.tup (SqT.of upd_same) (rr.mono (Ex.new (free_of S.bh hl))))⟩⟩
theorem dn_ownSl (n : Nat) {x : Str} {px : Pos} {lo hi : Option Expr} {l hh : Option Int} (h : ρ[n]? = some (.own ds)) (hl : DO X c ρ lo l) (hh' : DO X c ρ hi hh) (hN : X.N[n]? = some x := by rfl)
    (hv : Vis X.env.scope x := by first | exact Or.inl rfl | exact Or.inr (Or.inl rfl) | exact Or.inr (Or.inr rfl)) (hdb : (x == ("__debug__" : Str)) = false := by decide) (hcd : (x == ("__classdict__" : Str)) = false := by decide) : DN X c ρ (.Subscript (.Name x px) (.Slice lo hi none p2) pos) (cutD ds l hh) :=
  dn_of (pe_slice sl_list (pe_var hN hv hdb hcd) (po_w X) (po_w X)) fun σ B H S Q q => by
    obtain ⟨r, xs, e, hr, rr⟩ := ev_own h S
    refine ⟨.ref r, e, hl σ B H S _ fun B2 H2 s2 => hh' σ B2 H2 (S.stp s2) _ fun B3 H3 s3 => ?_⟩
    have st := s2.trans s3
    exact ⟨r, xs, rfl, SqL.of (st.h _ _ hr), fun p hp => q p _ B3 _ (st.trans (stp_new0 s3.bh _ hp)) (free_of s3.bh hp) (fresh_back st.h hp) upd_same ((rr.mono st.b).cut l hh)⟩
/-- what changes of the own list in the slot n -/
theorem Sx.chg {p : Pr} {n : Nat} {σ : L2.St} {B H : Hp} {r : Addr} {ys : List V} {ds2 : List PyData} (S : Sx p c ρ σ B H) (h : ρ[n]? = some (.own ds)) (hr : σ[n]? = some (some (.ref r))) (rr : RpL p.K B ys ds2) : Sx p c (ρ.set n (.own ds2)) σ B (upd H r (.lst ys)) := by
  obtain ⟨r', xs, e, hb, h0, hh, _⟩ := S.sl n _ h
  rw [hr] at e
  cases e
  have nl : n < ρ.length := (List.getElem?_eq_some_iff.mp h).1
  have up : ∀ q o, q ≠ r → H q = some o → (upd H r (.lst ys)) q = some o := fun q o w e => by rw [upd_ne w]; exact e
  refine ⟨S.b0, fun q o e => ?_, fun q o t e => ?_, S.fr, fun q t => ?_, by rw [List.length_set]; exact S.len, fun i s hs => ?_, fun i k q hik h1 h2 h3 => ?_⟩
  · exact up q o (fun w => by rw [w, hb] at e; cases e) (S.bh q o e)
  · exact up q o (fun w => by rw [w, h0] at e; cases e) (S.h0 q o t e)
  · obtain ⟨t1, t2, t3⟩ := S.tk q t
    refine ⟨t1, ?_, t3⟩
    have nq : q ≠ r := fun w => t3 (w ▸ h0)
    rw [upd_ne nq]
    exact t2
  · by_cases hij : n = i
    · subst hij
      rw [List.getElem?_set_self nl] at hs
      cases hs
      exact ⟨r, ys, hr, hb, h0, upd_same, rr⟩
    · rw [List.getElem?_set_ne hij] at hs
      have q := S.sl i s hs
      cases s with
      | no => trivial
      | d d => exact q
      | seq es => exact q
      | tin m =>
        obtain ⟨a, e1, t, x, y, k, e2, z⟩ := q
        exact ⟨a, e1, t, x, y, k, up a _ (fun w => (S.tk a t).2.2 (w ▸ h0)) e2, z⟩
      | own es =>
        obtain ⟨r2, zs, e2, hb2, h02, hh2, rr2⟩ := q
        exact ⟨r2, zs, e2, hb2, h02, up r2 _ (fun w => S.sep n i r hij (by rw [h]; rfl) (by rw [hs]; rfl) hr (w ▸ e2)) hh2, rr2⟩
      | dict kvs =>
        obtain ⟨r2, zs, e2, hb2, h02, hh2, rr2⟩ := q
        exact ⟨r2, zs, e2, hb2, h02, up r2 _ (fun w => S.sep n i r hij (by rw [h]; rfl) (by rw [hs]; rfl) hr (w ▸ e2)) hh2, rr2⟩
  · have nj : ∀ i : Nat, ((ρ.set n (Sl.own ds2))[i]?.map Sl.owned) = some true → (ρ[i]?.map Sl.owned) = some true := fun i hi => by
      by_cases hij : n = i
      · subst hij; rw [h]; rfl
      · rw [List.getElem?_set_ne hij] at hi
        exact hi
    exact S.sep i k q hik (nj i h1) (nj k h2) h3
theorem ds_app (n : Nat) {x : Str} {px ap cp : Pos} (h : ρ[n]? = some (.own ds)) (he : DE X c ρ e d) (hz : ds.length < 100000) (k : DS X c (ρ.set n (.own (ds ++ [d]))) rest E) (hN : X.N[n]? = some x := by rfl)
    (hv : Vis X.env.scope x := by first | exact Or.inl rfl | exact Or.inr (Or.inl rfl) | exact Or.inr (Or.inr rfl)) (hdb : (x == ("__debug__" : Str)) = false := by decide) (hcd : (x == ("__classdict__" : Str)) = false := by decide)
    (hbase : attributeBase (.Name x px) "append" X.env (eval (.Name x px) X.env) = eval (.Name x px) X.env := by rfl)
    (hfew : ((backTo cp (starEach [e] X.env)).all (fun x => !x.1) && (backToKw cp (keywordEach [] X.env)).all (fun x => x.1.isSome) && decide (([e] : List Expr).length + ([] : List Keyword).length + (if ([] : List Keyword).isEmpty then 0 else 1) < 30)) = true := by rfl)
    (hline : (ap.endLine == cp.line) = true := by rfl) (hs : starEach [e] X.env = (false, eval e X.env) :: starEach [] X.env := by rfl)
    (hsw : swapsWith (.Call (.Attribute (.Name x px) "append" ap) [e] [] cp) none pos.line X.env = pure false := by rfl) : DS X c ρ (.Expr (.Call (.Attribute (.Name x px) "append" ap) [e] [] cp) pos :: rest) E :=
  ds_of (pss_cons (ps_expr (pe_bm PySem.F.plainAttrs_list PySem.F.slot_list_append PySem.F.type_list_append mt_append (pe_var hN hv hdb hcd) (pa_cons (pe_w X) pa_nil hs) hbase hfew hline hs rfl) hsw) (pss_w X)) fun σ B H S D q => by
    obtain ⟨r, xs, e, hr, rr⟩ := ev_own h S
    refine ⟨.ref r, e, .inl ⟨rfl, xs, SqL.of hr⟩, he σ B H S _ fun y B1 H1 s1 ry => ?_⟩
    exact ⟨r, xs, y, rfl, rfl, s1.h _ _ hr, by rw [rr.length]; exact line_lt hz, k σ B1 _ ((S.stp s1).chg h e ((rr.mono s1.b).append (.cons ry .nil))) D (q.up s1.b)⟩
end
end DD
/-! M1: the rays, states, deeds in plain Lean: what the program computes. -/
namespace DD
/-- four numbers: a + b w + c w w + d w w w -/
structure V4 where
  a : Int
  b : Int
  c : Int
  d : Int
  deriving DecidableEq, Repr
namespace V4
def zero : V4 := ⟨0, 0, 0, 0⟩
def root (v : V4) : V4 := ⟨v.b - v.d, v.a + v.c, v.b + v.d, v.c - v.a⟩
def half (v : V4) : V4 := ⟨(v.b - v.d) / 2, (v.a + v.c) / 2, (v.b + v.d) / 2, (v.c - v.a) / 2⟩
def even (v : V4) : Bool := decide ((v.a + v.c) % 2 = 0) && decide ((v.b + v.d) % 2 = 0)
def add (v u : V4) : V4 := ⟨v.a + u.a, v.b + u.b, v.c + u.c, v.d + u.d⟩
def neg (v : V4) : V4 := ⟨-v.a, -v.b, -v.c, -v.d⟩
def tw (v : V4) : V4 := ⟨-v.d, v.a, v.b, v.c⟩
def rootN : Nat → V4 → V4
  | 0, v => v
  | n + 1, v => rootN n v.root
def scale (n : Int) (v : V4) : V4 := ⟨v.a * n, v.b * n, v.c * n, v.d * n⟩
end V4
structure Ray where
  v : V4
  k : Nat
  deriving DecidableEq, Repr
namespace Ray
def zero : Ray := ⟨V4.zero, 0⟩
def one : Ray := ⟨⟨1, 0, 0, 0⟩, 0⟩
/-- as often as it goes -/
def shL : Nat → V4 → Ray
  | 0, v => ⟨v, 0⟩
  | k + 1, v => if v.even = true then shL k v.half else ⟨v, k + 1⟩
def shorten (v : V4) (k : Nat) : Ray := if v = V4.zero then zero else shL k v
def sum (r s : Ray) : Ray := shorten ((V4.rootN (max r.k s.k - r.k) r.v).add (V4.rootN (max r.k s.k - s.k) s.v)) (max r.k s.k)
def tw (r : Ray) : Ray := ⟨r.v.tw, r.k⟩
def neg (r : Ray) : Ray := ⟨r.v.neg, r.k⟩
def over (r : Ray) : Ray := shorten r.v (r.k + 1)
end Ray
abbrev Stt := List Ray
inductive Deed where
  | turn (i : Nat)
  | swap (i j : Nat)
  | mix (i j : Nat)
  deriving DecidableEq, Repr
def Deed.ok (n : Nat) : Deed → Bool
  | .turn i => decide (i < n)
  | .swap i j => decide (i < j) && decide (j < n)
  | .mix i j => decide (i < j) && decide (j < n)
def Deed.isMix : Deed → Bool
  | .mix _ _ => true
  | _ => false
def Stt.at (s : Stt) (i : Nat) : Ray := s.getD i Ray.zero
def led (s : Stt) : Deed → Stt
  | .turn i => s.set i (s.at i).tw
  | .swap i j => (s.set i (s.at j)).set j (s.at i)
  | .mix i j => (s.set i ((s.at i).sum (s.at j)).over).set j ((s.at i).sum (s.at j).neg).over
def ledAll (s : Stt) (ds : List Deed) : Stt := ds.foldl led s
def lone (n i : Nat) : Stt := (List.replicate n Ray.zero).set i Ray.one
abbrev Row := List Stt
def lones (n : Nat) : Row := (List.range n).map (lone n)
def ledRow (r : Row) (g : Deed) : Row := r.map fun s => led s g
/-- the rows behind 0, 1, .. deeds -/
def rowsFrom : Row → List Deed → List Row
  | r, [] => [r]
  | r, g :: gs => r :: rowsFrom (ledRow r g) gs
def rows (n : Nat) (gs : List Deed) : List Row := rowsFrom (lones n) gs
/-- the least pair of like rows -/
def behindOf {α : Type} [DecidableEq α] (x : α) : List α → Nat → Option Nat
  | [], _ => none
  | y :: ys, n => if x = y then some n else behindOf x ys (n + 1)
def firstFrom {α : Type} [DecidableEq α] : List α → Nat → Option (Nat × Nat)
  | [], _ => none
  | x :: xs, n => match behindOf x xs (n + 1) with
    | some m => some (n, m)
    | none => firstFrom xs (n + 1)
def first {α : Type} [DecidableEq α] (rs : List α) : Option (Nat × Nat) := firstFrom rs 0
def firstIdle (n : Nat) (gs : List Deed) : Option (Nat × Nat) := first (rows n gs)
end DD
/-! M2: lengths, bounds, rows. -/
namespace DD
def KB (m : Nat) (s : Stt) : Prop := ∀ r ∈ s, r.k ≤ m
def mixN (gs : List Deed) : Nat := (gs.filter Deed.isMix).length
theorem mixN_cons (g : Deed) (gs : List Deed) : mixN (g :: gs) = (if g.isMix = true then 1 else 0) + mixN gs := by
  unfold mixN
  rw [List.filter_cons]
  split <;> simp <;> omega
theorem KB.mono {m n : Nat} {s : Stt} (h : KB m s) (e : m ≤ n) : KB n s := fun r hr => Nat.le_trans (h r hr) e
theorem KB.at {m : Nat} {s : Stt} (h : KB m s) (i : Nat) : (s.at i).k ≤ m := by
  unfold Stt.at
  rw [List.getD_eq_getElem?_getD]
  cases e : s[i]? with
  | none => exact Nat.zero_le _
  | some r => exact h r (List.mem_of_getElem? e)
theorem KB.set {m : Nat} {s : Stt} (h : KB m s) {i : Nat} {r : Ray} (hr : r.k ≤ m) : KB m (s.set i r) := fun q hq => by
  rcases List.mem_or_eq_of_mem_set hq with h1 | h1
  · exact h q h1
  · rw [h1]; exact hr
theorem shL_k' (k : Nat) : ∀ v : V4, (Ray.shL k v).k ≤ k := by
  induction k with
  | zero => intro v; exact Nat.le_refl _
  | succ k ih =>
    intro v
    show (if v.even = true then Ray.shL k v.half else ⟨v, k + 1⟩ : Ray).k ≤ k + 1
    split
    · exact Nat.le_succ_of_le (ih _)
    · exact Nat.le_refl _
theorem shorten_k' (v : V4) (k : Nat) : (Ray.shorten v k).k ≤ k := by
  unfold Ray.shorten
  split
  · exact Nat.zero_le _
  · exact shL_k' k v
theorem led_len (s : Stt) (g : Deed) : (led s g).length = s.length := by
  cases g <;> simp [led]
theorem led_kb {m : Nat} {s : Stt} (h : KB m s) (g : Deed) : KB (m + (if g.isMix = true then 1 else 0)) (led s g) := by
  cases g with
  | turn i => exact h.set (h.at i)
  | swap i j => exact (h.set (h.at j)).set (h.at i)
  | mix i j =>
    have h1 : KB (m + 1) s := h.mono (Nat.le_succ m)
    have b : ∀ r q : Ray, r.k ≤ m → q.k ≤ m → (Ray.sum r q).over.k ≤ m + 1 := fun r q hr hq => by
      have a1 := shorten_k' ((V4.rootN (max r.k q.k - r.k) r.v).add (V4.rootN (max r.k q.k - q.k) q.v)) (max r.k q.k)
      have a2 := shorten_k' (Ray.sum r q).v ((Ray.sum r q).k + 1)
      have a3 : (Ray.sum r q).k ≤ max r.k q.k := a1
      have a4 : (Ray.sum r q).over.k ≤ (Ray.sum r q).k + 1 := a2
      omega
    exact (h1.set (b _ _ (h.at i) (h.at j))).set (b _ _ (h.at i) (h.at j))
theorem ledAll_len : ∀ (gs : List Deed) (s : Stt), (ledAll s gs).length = s.length
  | [], s => rfl
  | g :: gs, s => (ledAll_len gs (led s g)).trans (led_len s g)
theorem ledAll_kb : ∀ (gs : List Deed) (m : Nat) (s : Stt), KB m s → KB (m + mixN gs) (ledAll s gs)
  | [], m, s, h => h
  | g :: gs, m, s, h => by
    have := ledAll_kb gs _ _ (led_kb h g)
    rw [mixN_cons, ← Nat.add_assoc]
    exact this
theorem ledAll_snoc (gs : List Deed) (g : Deed) (s : Stt) : ledAll s (gs ++ [g]) = led (ledAll s gs) g := by
  unfold ledAll
  rw [List.foldl_append]
  rfl
theorem ledAll_append (gs hs : List Deed) (s : Stt) : ledAll s (gs ++ hs) = ledAll (ledAll s gs) hs := by
  unfold ledAll
  rw [List.foldl_append]
theorem lone_len (n i : Nat) : (lone n i).length = n := by simp [lone]
theorem lone_kb (n i : Nat) : KB 0 (lone n i) := fun r hr => by
  rcases List.mem_or_eq_of_mem_set hr with h1 | h1
  · rw [List.eq_of_mem_replicate h1]; exact Nat.le_refl _
  · rw [h1]; exact Nat.le_refl _
/-- a row of n states of n rays, k up to m -/
def RB (n m : Nat) (r : Row) : Prop := r.length = n ∧ ∀ s ∈ r, s.length = n ∧ KB m s
theorem lones_rb (n : Nat) : RB n 0 (lones n) := ⟨by simp [lones], fun s hs => by
  obtain ⟨i, _, rfl⟩ := List.mem_map.mp hs
  exact ⟨lone_len n i, lone_kb n i⟩⟩
theorem ledRow_rb {n m : Nat} {r : Row} (h : RB n m r) (g : Deed) : RB n (m + (if g.isMix = true then 1 else 0)) (ledRow r g) := ⟨by simp [ledRow, h.1], fun s hs => by
  obtain ⟨t, ht, rfl⟩ := List.mem_map.mp hs
  obtain ⟨h1, h2⟩ := h.2 t ht
  exact ⟨(led_len t g).trans h1, led_kb h2 g⟩⟩
def rowAt (r : Row) (gs : List Deed) : Row := gs.foldl ledRow r
theorem rowAt_snoc (r : Row) (gs : List Deed) (g : Deed) : rowAt r (gs ++ [g]) = ledRow (rowAt r gs) g := by
  unfold rowAt
  rw [List.foldl_append]
  rfl
theorem rowAt_append (r : Row) (gs hs : List Deed) : rowAt r (gs ++ hs) = rowAt (rowAt r gs) hs := by
  unfold rowAt
  rw [List.foldl_append]
theorem rowAt_rb {n : Nat} : ∀ (gs : List Deed) (m : Nat) (r : Row), RB n m r → RB n (m + mixN gs) (rowAt r gs)
  | [], m, r, h => h
  | g :: gs, m, r, h => by
    have := rowAt_rb gs _ _ (ledRow_rb h g)
    rw [mixN_cons, ← Nat.add_assoc]
    exact this
theorem rowAt_map : ∀ (gs : List Deed) (r : Row), rowAt r gs = r.map fun s => ledAll s gs
  | [], r => by simp [rowAt, ledAll]
  | g :: gs, r => by
    show rowAt (ledRow r g) gs = _
    rw [rowAt_map gs]
    simp [ledRow, ledAll, List.map_map, Function.comp_def]
theorem rowsFrom_len : ∀ (gs : List Deed) (r : Row), (rowsFrom r gs).length = gs.length + 1
  | [], r => rfl
  | g :: gs, r => by
    show (rowsFrom (ledRow r g) gs).length + 1 = _
    rw [rowsFrom_len gs]
    rfl
theorem rowsFrom_get : ∀ (gs : List Deed) (r : Row) (i : Nat), i ≤ gs.length → (rowsFrom r gs)[i]? = some (rowAt r (gs.take i))
  | [], r, i, h => by
    have : i = 0 := by simpa using h
    subst this
    rfl
  | g :: gs, r, 0, h => rfl
  | g :: gs, r, i + 1, h => by
    show (rowsFrom (ledRow r g) gs)[i]? = _
    rw [rowsFrom_get gs (ledRow r g) i (by simpa using h)]
    rfl
theorem rowsFrom_take : ∀ (gs : List Deed) (r : Row) (i : Nat), i ≤ gs.length → (rowsFrom r gs).take (i + 1) = rowsFrom r (gs.take i)
  | [], r, i, h => by
    have : i = 0 := by simpa using h
    subst this
    rfl
  | g :: gs, r, 0, h => rfl
  | g :: gs, r, i + 1, h => by
    show r :: (rowsFrom (ledRow r g) gs).take (i + 1) = r :: rowsFrom (ledRow r g) (gs.take i)
    rw [rowsFrom_take gs (ledRow r g) i (by simpa using h)]
theorem rowsFrom_snoc : ∀ (gs : List Deed) (r : Row) (g : Deed), rowsFrom r (gs ++ [g]) = rowsFrom r gs ++ [rowAt r (gs ++ [g])]
  | [], r, g => rfl
  | h :: gs, r, g => by
    show r :: rowsFrom (ledRow r h) (gs ++ [g]) = r :: (rowsFrom (ledRow r h) gs ++ [rowAt (ledRow r h) (gs ++ [g])])
    rw [rowsFrom_snoc gs]
theorem rows_rb {n : Nat} {gs : List Deed} {r : Row} (h : r ∈ rows n gs) : RB n (mixN gs) r := by
  obtain ⟨i, hi, e⟩ := List.getElem_of_mem h
  have hl : (rows n gs).length = gs.length + 1 := rowsFrom_len gs _
  have g := rowsFrom_get gs (lones n) i (by omega)
  have e2 : (rows n gs)[i]? = some r := by rw [List.getElem?_eq_getElem hi, e]
  have e3 : r = rowAt (lones n) (gs.take i) := Option.some.inj (e2.symm.trans g)
  rw [e3]
  have b := rowAt_rb (gs.take i) 0 _ (lones_rb n)
  have le : mixN (gs.take i) ≤ mixN gs := by
    unfold mixN
    exact ((List.take_sublist i gs).filter _).length_le
  refine ⟨b.1, fun s hs => ⟨(b.2 s hs).1, (b.2 s hs).2.mono (by omega)⟩⟩
end DD
/-! D1: facts of data: sizes, depth, ==, lists as tuples; the rays, states, deeds as data. -/
namespace DD
open PySem PySem.Spec L2
open PyProof.Rows hiding St
/-- nested at most n deep, no dict, at most 1000 members each; b: True and False may stand there; l: lists may -/
def okn (b l : Bool) : Nat → PyData → Bool
  | _, .none => true
  | _, .int _ => true
  | _, .bool _ => b
  | _, .str x => PyData.strOk x
  | n + 1, .tuple xs => decide (xs.length ≤ 1000) && xs.all (okn b l n)
  | n + 1, .list xs => l && (decide (xs.length ≤ 1000) && xs.all (okn b l n))
  | 0, .tuple _ => false
  | 0, .list _ => false
  | _, .dict _ => false
theorem lay_all {b l : Bool} {n : Nat} (h : ∀ d, okn b l n d = true → d.canLay0 = true ∧ d.depth ≤ n) : ∀ xs : List PyData, xs.all (okn b l n) = true → PyData.canLayAll0 xs = true ∧ PyData.depthAll xs ≤ n
  | [], _ => ⟨by simp only [PyData.canLayAll0], by simp only [PyData.depthAll]; omega⟩
  | x :: xs, e => by
    rw [List.all_cons, Bool.and_eq_true] at e
    obtain ⟨h1, h2⟩ := h x e.1
    obtain ⟨h3, h4⟩ := lay_all h xs e.2
    constructor
    · simp only [PyData.canLayAll0, h1, h3, Bool.and_self]
    · simp only [PyData.depthAll]; omega
theorem okn_lay {b l : Bool} : ∀ (n : Nat) (d : PyData), okn b l n d = true → d.canLay0 = true ∧ d.depth ≤ n
  | n, .none, _ => ⟨by simp only [PyData.canLay0], by simp only [PyData.depth]; omega⟩
  | n, .int _, _ => ⟨by simp only [PyData.canLay0], by simp only [PyData.depth]; omega⟩
  | n, .bool _, _ => ⟨by simp only [PyData.canLay0], by simp only [PyData.depth]; omega⟩
  | n, .str x, h => ⟨by
      have h : PyData.strOk x = true := by cases n <;> simpa only [okn] using h
      simpa only [PyData.canLay0] using h, by simp only [PyData.depth]; omega⟩
  | n + 1, .tuple xs, h => by
    simp only [okn, Bool.and_eq_true] at h
    obtain ⟨h1, h2⟩ := lay_all (okn_lay n) xs h.2
    exact ⟨by simpa only [PyData.canLay0] using h1, by simp only [PyData.depth]; omega⟩
  | n + 1, .list xs, h => by
    simp only [okn, Bool.and_eq_true] at h
    obtain ⟨h1, h2⟩ := lay_all (okn_lay n) xs h.2.2
    exact ⟨by simpa only [PyData.canLay0] using h1, by simp only [PyData.depth]; omega⟩
  | 0, .tuple _, h => by simp [okn] at h
  | 0, .list _, h => by simp [okn] at h
  | 0, .dict _, h => by simp [okn] at h
  | _ + 1, .dict _, h => by simp [okn] at h
theorem okn_shaped {b l : Bool} {n : Nat} {d : PyData} (h : okn b l n d = true) (hn : n ≤ 64 := by decide) : SeqAt.shaped d = true := by
  obtain ⟨h1, h2⟩ := okn_lay n d h
  show (d.canLay0 && decide (d.depth ≤ 64)) = true
  rw [h1, decide_eq_true (by omega)]
  rfl
theorem eqv_all {n : Nat} {l : Bool} (h : ∀ d e, okn false l n d = true → okn false l n e = true → (PyData.eqv d e = true ↔ d = e)) : ∀ xs ys : List PyData, xs.all (okn false l n) = true → ys.all (okn false l n) = true → (PyData.eqvAll xs ys = true ↔ xs = ys)
  | [], [], _, _ => by simp [PyData.eqvAll]
  | [], _ :: _, _, _ => by simp [PyData.eqvAll]
  | _ :: _, [], _, _ => by simp [PyData.eqvAll]
  | x :: xs, y :: ys, h1, h2 => by
    rw [List.all_cons, Bool.and_eq_true] at h1 h2
    simp only [PyData.eqvAll, Bool.and_eq_true, h x y h1.1 h2.1, eqv_all h xs ys h1.2 h2.2, List.cons.injEq]
theorem eqv_ok {l : Bool} : ∀ (n : Nat) (d e : PyData), okn false l n d = true → okn false l n e = true → (PyData.eqv d e = true ↔ d = e) := by
  intro n
  induction n with
  | zero => intro d e h1 h2; cases d <;> cases e <;> simp_all [okn, PyData.eqv]
  | succ n ih =>
    intro d e h1 h2
    cases d <;> cases e <;> simp only [okn, Bool.and_eq_true] at h1 h2 <;> first
      | (simp only [PyData.eqv, eqv_all ih _ _ h1.2 h2.2, PyData.tuple.injEq]; done)
      | (simp only [PyData.eqv, eqv_all ih _ _ h1.2.2 h2.2.2, PyData.list.injEq]; done)
      | simp_all [PyData.eqv]
theorem eqv_dec {l : Bool} {n : Nat} {d e : PyData} (h1 : okn false l n d = true) (h2 : okn false l n e = true) {q : Prop} [Decidable q] (hq : d = e ↔ q) : PyData.eqv d e = decide q := by
  rw [Bool.eq_iff_iff, eqv_ok n d e h1 h2, decide_eq_true_iff]
  exact hq
theorem okn_mono {b l : Bool} : ∀ {n m : Nat} {d : PyData}, okn b l n d = true → n ≤ m → okn b l m d = true := by
  intro n
  induction n with
  | zero => intro m d h _; cases d <;> cases m <;> simp_all [okn]
  | succ n ih =>
    intro m d h hm
    cases m with
    | zero => omega
    | succ m =>
      cases d <;> simp only [okn, Bool.and_eq_true, List.all_eq_true] at h ⊢ <;> first
        | exact ⟨h.1, fun x hx => ih (h.2 x hx) (by omega)⟩
        | exact ⟨h.1, h.2.1, fun x hx => ih (h.2.2 x hx) (by omega)⟩
        | exact h
        | cases h
/-- more may stand there -/
theorem okn_wide {b l b' l' : Bool} (hb : b = true → b' = true) (hl : l = true → l' = true) : ∀ {n : Nat} {d : PyData}, okn b l n d = true → okn b' l' n d = true := by
  intro n
  induction n with
  | zero => intro d h; cases d <;> simp_all [okn]
  | succ n ih =>
    intro d h
    cases d <;> simp only [okn, Bool.and_eq_true, List.all_eq_true] at h ⊢ <;> first
      | exact ⟨h.1, fun x hx => ih (h.2 x hx)⟩
      | exact ⟨hl h.1, h.2.1, fun x hx => ih (h.2.2 x hx)⟩
      | exact hb h
      | exact h
      | cases h
/-! ### lists as tuples -/
def tup : Nat → PyData → PyData
  | n + 1, .tuple xs => .tuple (xs.map (tup n))
  | n + 1, .list xs => .tuple (xs.map (tup n))
  | _, d => d
theorem tup_mono {b l : Bool} : ∀ {n m : Nat} {d : PyData}, okn b l n d = true → n ≤ m → tup m d = tup n d := by
  intro n
  induction n with
  | zero => intro m d h _; cases d <;> cases m <;> simp_all [okn, tup]
  | succ n ih =>
    intro m d h hm
    cases m with
    | zero => omega
    | succ m =>
      cases d <;> simp only [okn, Bool.and_eq_true, List.all_eq_true] at h <;> first
        | rfl
        | (simp only [tup]; congr 1; exact List.map_congr_left fun x hx => ih (h.2 x hx) (by omega))
        | (simp only [tup]; congr 1; exact List.map_congr_left fun x hx => ih (h.2.2 x hx) (by omega))
/-- tuples as lists -/
def lis : Nat → PyData → PyData
  | n + 1, .tuple xs => .list (xs.map (lis n))
  | n + 1, .list xs => .list (xs.map (lis n))
  | _, d => d
theorem tup_id {b : Bool} : ∀ {n : Nat} {d : PyData}, okn b false n d = true → tup n d = d := by
  intro n
  induction n with
  | zero => intro d _; cases d <;> rfl
  | succ n ih =>
    intro d h
    cases d <;> simp only [okn, Bool.and_eq_true, List.all_eq_true] at h <;> first
      | rfl
      | (simp only [tup]; congr 1; exact (List.map_congr_left fun x hx => ih (h.2 x hx)).trans (List.map_id _))
      | simp at h
theorem tup_lis {b : Bool} : ∀ {n : Nat} {d : PyData}, okn b false n d = true → tup n (lis n d) = d := by
  intro n
  induction n with
  | zero => intro d _; cases d <;> rfl
  | succ n ih =>
    intro d h
    cases d <;> simp only [okn, Bool.and_eq_true, List.all_eq_true] at h <;> first
      | rfl
      | (simp only [lis, tup, List.map_map]; congr 1; exact (List.map_congr_left fun x hx => ih (h.2 x hx)).trans (List.map_id _))
      | simp at h
theorem lis_ok {b : Bool} : ∀ {n : Nat} {d : PyData}, okn b false n d = true → okn b true n (lis n d) = true := by
  intro n
  induction n with
  | zero => intro d h; cases d <;> simp_all [okn, lis]
  | succ n ih =>
    intro d h
    cases d <;> simp only [okn, lis, Bool.and_eq_true, List.all_eq_true, List.length_map, List.mem_map, true_and] at h ⊢ <;> first
      | exact h
      | (refine ⟨h.1, ?_⟩; rintro y ⟨x, hx, rfl⟩; exact ih (h.2 x hx))
      | simp at h
/-! ### rays, states, deeds -/
def encV (v : V4) : PyData := .tuple [.int v.a, .int v.b, .int v.c, .int v.d]
def encR (r : Ray) : PyData := .tuple [.int r.v.a, .int r.v.b, .int r.v.c, .int r.v.d, .int (r.k : Int)]
def encS (s : Stt) : PyData := .tuple (s.map encR)
def encRow (r : Row) : PyData := .tuple (r.map encS)
def encG : Deed → PyData
  | .turn i => .tuple [.str "turn", .int (i : Nat)]
  | .swap i j => .tuple [.str "swap", .int (i : Nat), .int (j : Nat)]
  | .mix i j => .tuple [.str "mix", .int (i : Nat), .int (j : Nat)]
def encGs (gs : List Deed) : PyData := .tuple (gs.map encG)
theorem encV_ok (v : V4) : okn false false 1 (encV v) = true := by simp [encV, okn]
theorem encR_ok (r : Ray) : okn false false 1 (encR r) = true := by simp [encR, okn]
theorem encV_inj {v u : V4} : encV v = encV u ↔ v = u := by
  obtain ⟨a, b, c, d⟩ := v
  obtain ⟨a', b', c', d'⟩ := u
  simp [encV]
theorem encR_inj {v u : Ray} : encR v = encR u ↔ v = u := by
  obtain ⟨⟨a, b, c, d⟩, k⟩ := v
  obtain ⟨⟨a', b', c', d'⟩, k'⟩ := u
  simp only [encR, PyData.tuple.injEq, List.cons.injEq, PyData.int.injEq, and_true, Ray.mk.injEq, V4.mk.injEq]
  constructor
  · rintro ⟨h1, h2, h3, h4, h5⟩
    exact ⟨⟨h1, h2, h3, h4⟩, by omega⟩
  · rintro ⟨⟨h1, h2, h3, h4⟩, h5⟩
    exact ⟨h1, h2, h3, h4, by omega⟩
theorem map_inj {α β : Type} {f : α → β} (h : ∀ x y, f x = f y ↔ x = y) : ∀ {xs ys : List α}, xs.map f = ys.map f ↔ xs = ys
  | [], [] => by simp
  | [], _ :: _ => by simp
  | _ :: _, [] => by simp
  | x :: xs, y :: ys => by simp only [List.map_cons, List.cons.injEq, h, map_inj h]
theorem encS_inj {s t : Stt} : encS s = encS t ↔ s = t := by
  simp only [encS, PyData.tuple.injEq, map_inj (fun _ _ => encR_inj)]
theorem encRow_inj {s t : Row} : encRow s = encRow t ↔ s = t := by
  simp only [encRow, PyData.tuple.injEq, map_inj (fun _ _ => encS_inj)]
theorem encS_ok {s : Stt} (h : s.length ≤ 1000) : okn false false 2 (encS s) = true := by
  simp only [encS, okn, List.length_map, Bool.and_eq_true, decide_eq_true_eq, List.all_eq_true, List.mem_map]
  refine ⟨h, ?_⟩
  rintro _ ⟨r, _, rfl⟩
  exact encR_ok r
theorem encRow_ok {s : Row} (h : s.length ≤ 1000) (h2 : ∀ t ∈ s, t.length ≤ 1000) : okn false false 3 (encRow s) = true := by
  simp only [encRow, okn, List.length_map, Bool.and_eq_true, decide_eq_true_eq, List.all_eq_true, List.mem_map]
  refine ⟨h, ?_⟩
  rintro _ ⟨r, hr, rfl⟩
  exact encS_ok (h2 r hr)
theorem str_turn : PyData.strOk ("turn" : Str) = true := by decide +kernel
theorem str_swap : PyData.strOk ("swap" : Str) = true := by decide +kernel
theorem str_mix : PyData.strOk ("mix" : Str) = true := by decide +kernel
theorem encG_ok (g : Deed) : okn false false 1 (encG g) = true := by
  cases g <;> simp [encG, okn, str_turn, str_swap, str_mix]
theorem ne_turn_swap : ("turn" : Str) ≠ "swap" := by decide +kernel
theorem ne_turn_mix : ("turn" : Str) ≠ "mix" := by decide +kernel
theorem ne_swap_mix : ("swap" : Str) ≠ "mix" := by decide +kernel
theorem encG_inj {g h : Deed} : encG g = encG h ↔ g = h := by
  cases g <;> cases h <;> simp [encG, ne_turn_swap, ne_turn_mix, ne_swap_mix, ne_turn_swap.symm, ne_turn_mix.symm, ne_swap_mix.symm] <;> omega
theorem encGs_inj {g h : List Deed} : encGs g = encGs h ↔ g = h := by
  simp only [encGs, PyData.tuple.injEq, map_inj (fun _ _ => encG_inj)]
theorem encGs_ok {s : List Deed} (h : s.length ≤ 1000) : okn false false 2 (encGs s) = true := by
  simp only [encGs, okn, List.length_map, Bool.and_eq_true, decide_eq_true_eq, List.all_eq_true, List.mem_map]
  refine ⟨h, ?_⟩
  rintro _ ⟨r, _, rfl⟩
  exact encG_ok r
/-! ### and back -/
def decR : PyData → Ray
  | .tuple [.int a, .int b, .int c, .int d, .int k] => ⟨⟨a, b, c, d⟩, k.toNat⟩
  | _ => Ray.zero
def decS : PyData → Stt
  | .tuple xs => xs.map decR
  | _ => []
def decRow : PyData → Row
  | .tuple xs => xs.map decS
  | _ => []
theorem decR_enc (r : Ray) : decR (encR r) = r := rfl
theorem decS_enc (s : Stt) : decS (encS s) = s := by
  show (s.map encR).map decR = s
  rw [List.map_map]
  exact (List.map_congr_left fun r _ => decR_enc r).trans (List.map_id _)
theorem decRow_enc (s : Row) : decRow (encRow s) = s := by
  show (s.map encS).map decS = s
  rw [List.map_map]
  exact (List.map_congr_left fun r _ => decS_enc r).trans (List.map_id _)
theorem atI_neg1 {α : Type} {xs : List α} (h : xs ≠ []) : atI xs (-1) = xs[xs.length - 1]? := by
  have hl : 0 < xs.length := List.length_pos_iff.mpr h
  unfold atI ixN
  rw [if_neg (by decide), if_pos (by omega)]
  show xs[((-1 : Int) + (xs.length : Int)).toNat]? = _
  rw [show ((-1 : Int) + (xs.length : Int)).toNat = xs.length - 1 by omega]
theorem cut_neg (xs : List PyData) (m : Nat) (h : m ≤ xs.length) (h0 : 0 < m) : cutD xs (some (-(m : Int))) none = xs.drop (xs.length - m) := by
  unfold cutD
  have e : HT.sIx xs.length 0 (some (-(m : Int))) = xs.length - m := by
    show (if (-(m : Int)) < 0 then ((-(m : Int)) + (xs.length : Int)).toNat else _) = _
    rw [if_pos (by omega)]
    omega
  rw [e, HT.sIx_none]
  exact List.take_of_length_le (by rw [List.length_drop]; omega)
end DD
/-! DD8: dicts of one's own whose keys are nested tuples, whose values are ints. -/
namespace DD
open PySem PySem.Spec L2
open PyProof.Rows hiding St
open Evl (Ex ex_rd ex_l ex_t fresh_back)
/-! ### keys -/
theorem nks_map : ∀ ds : List PyData, nks ds = ds.map nk
  | [] => rfl
  | d :: ds => by
    show nk d :: nks ds = _
    rw [nks_map ds]
    rfl
theorem nested_all {h : Heap} {K : PySem.W.Frag} {H : Hp} (f : ∀ d v u, Rp K H v d → RelV v u → okn false false n d = true → NestedIs h (nk d) u) : ∀ (ds : List PyData) (vs : List V) (us : List Value), RpL K H vs ds → Vals vs us → ds.all (okn false false n) = true → NestedAll h (nks ds) us
  | [], _, _, .nil, .nil, _ => .nil
  | d :: ds, _, _, .cons r t, .cons q s, e => by
    rw [List.all_cons, Bool.and_eq_true] at e
    exact .cons (f d _ _ r q e.1) (nested_all f ds _ _ t s e.2)
theorem nested_of {X : Cx} {pins : List (Addr × Obj)} {σ : L2.St} {H : Hp} {s : Shared} (I : Inv X pins σ H s) : ∀ (n : Nat) (d : PyData) (v : V) (u : Value), Rp X.K H v d → RelV v u → okn false false n d = true → NestedIs s.heap (nk d) u := by
  have tupc : ∀ (n : Nat) (d : PyData) (v : V) (u : Value), (∀ xs, d = .tuple xs → ∃ m, n = m + 1 ∧ ∀ d v u, Rp X.K H v d → RelV v u → okn false false m d = true → NestedIs s.heap (nk d) u) → Rp X.K H v d → RelV v u → okn false false n d = true → NestedIs s.heap (nk d) u := by
    intro n d v u ih r q e
    cases r with
    | non => cases (show u = Value.none from q); exact .none
    | bl b => cases n <;> cases e
    | int i => obtain ⟨t, rfl⟩ := (show ∃ t, u = Value.int i t from q); exact .int i t
    | str x => obtain ⟨t, rfl⟩ := (show ∃ t, u = Value.str x t from q); exact .text x t
    | lst h r => cases n <;> simp [okn] at e
    | tup h r =>
      cases (show u = Value.ref _ from q)
      obtain ⟨m, rfl, ihm⟩ := ih _ rfl
      simp only [okn, Bool.and_eq_true] at e
      obtain ⟨its, rv, ⟨o, ho, hc, k, hd⟩, _⟩ := I.tuple h
      exact .tup ho hc hd (by
        show NestedAll s.heap (nks _) its.toArray.toList
        rw [List.toList_toArray]
        exact nested_all ihm _ _ _ r rv e.2)
  intro n
  induction n with
  | zero =>
    intro d v u r q e
    refine tupc 0 d v u (fun xs h => ?_) r q e
    subst h
    cases e
  | succ n ih => exact fun d v u r q e => tupc (n + 1) d v u (fun xs _ => ⟨n, rfl, ih⟩) r q e
theorem nk_depth_all {n : Nat} (h : ∀ d, okn false false n d = true → (nk d).depth ≤ n) : ∀ ds : List PyData, ds.all (okn false false n) = true → NestedKey.depthAll (nks ds) ≤ n
  | [], _ => by simp [nks, NestedKey.depthAll]
  | d :: ds, e => by
    rw [List.all_cons, Bool.and_eq_true] at e
    have h1 := h d e.1
    have h2 := nk_depth_all h ds e.2
    show NestedKey.depthAll (nk d :: nks ds) ≤ n
    simp only [NestedKey.depthAll]
    omega
theorem nk_depth : ∀ (n : Nat) (d : PyData), okn false false n d = true → (nk d).depth ≤ n := by
  intro n
  induction n with
  | zero => intro d e; cases d <;> simp [okn] at e <;> simp [nk, NestedKey.depth]
  | succ n ih =>
    intro d e
    cases d <;> simp only [okn, Bool.and_eq_true] at e <;> first
      | (have h := nk_depth_all ih _ e.2; simp only [nk, NestedKey.depth]; omega)
      | (simp [nk, NestedKey.depth]; done)
      | cases e.1
      | cases e
theorem nk_inj_all {n : Nat} (h : ∀ d e, okn false false n d = true → okn false false n e = true → nk d = nk e → d = e) : ∀ ds es : List PyData, ds.all (okn false false n) = true → es.all (okn false false n) = true → nks ds = nks es → ds = es
  | [], [], _, _, _ => rfl
  | [], _ :: _, _, _, q => by simp [nks] at q
  | _ :: _, [], _, _, q => by simp [nks] at q
  | d :: ds, e :: es, h1, h2, q => by
    rw [List.all_cons, Bool.and_eq_true] at h1 h2
    simp only [nks, List.cons.injEq] at q
    rw [h d e h1.1 h2.1 q.1, nk_inj_all h ds es h1.2 h2.2 q.2]
theorem nk_inj : ∀ (n : Nat) (d e : PyData), okn false false n d = true → okn false false n e = true → nk d = nk e → d = e := by
  intro n
  induction n with
  | zero => intro d e h1 h2 q; cases d <;> cases e <;> simp_all [okn, nk]
  | succ n ih =>
    intro d e h1 h2 q
    cases d <;> cases e <;> simp only [okn, Bool.and_eq_true] at h1 h2 <;> simp only [nk, NestedKey.tup.injEq, NestedKey.num.injEq, NestedKey.text.injEq] at q <;> first
      | exact absurd h1 Bool.false_ne_true
      | exact absurd h2 Bool.false_ne_true
      | exact absurd h1.1 Bool.false_ne_true
      | exact absurd h2.1 Bool.false_ne_true
      | (rw [nk_inj_all ih _ _ h1.2 h2.2 q]; done)
      | (rw [q]; done)
      | rfl
      | cases q
/-! ### what a dict holds -/
def lookD (kvs : List (PyData × Int)) (d : PyData) : Option Int := (kvs.find? fun q => decide (nk q.1 = nk d)).map (·.2)
def putD (kvs : List (PyData × Int)) (d : PyData) (n : Int) : List (PyData × Int) := if (lookD kvs d).isSome = true then kvs.map (fun q => if nk q.1 = nk d then (q.1, n) else q) else kvs ++ [(d, n)]
def lookE (es : List (NestedKey × Addr × Int)) (k : NestedKey) : Option Int := (es.find? fun q => decide (q.1 = k)).map (·.2.2)
def putE (es : List (NestedKey × Addr × Int)) (k : NestedKey) (b : Addr) (n : Int) : List (NestedKey × Addr × Int) := if (lookE es k).isSome = true then es.map (fun q => if q.1 = k then (q.1, q.2.1, n) else q) else es ++ [(k, b, n)]
theorem KeysOk.look {K : PySem.W.Frag} {B : Hp} (d : PyData) : ∀ {kvs : List (PyData × Int)} {es : List (NestedKey × Addr × Int)}, KeysOk K B kvs es → lookE es (nk d) = lookD kvs d
  | _, _, .nil => rfl
  | _, _, .cons (b := r) (a := q) h t => by
    unfold lookE lookD
    rw [List.find?_cons, List.find?_cons, h.1]
    by_cases e : nk q.1 = nk d
    · rw [decide_eq_true e]
      simp [h.2.1]
    · rw [decide_eq_false e]
      exact KeysOk.look d t
theorem KeysOk.put {K : PySem.W.Frag} {B : Hp} {d : PyData} {b : Addr} {n : Int} (hb : Rp K B (.ref b) d) {kvs : List (PyData × Int)} {es : List (NestedKey × Addr × Int)} (h : KeysOk K B kvs es) : KeysOk K B (putD kvs d n) (putE es (nk d) b n) := by
  unfold putD putE
  rw [h.look d]
  split
  · have mp : ∀ {as : List (PyData × Int)} {bs : List (NestedKey × Addr × Int)}, KeysOk K B as bs → KeysOk K B (as.map (fun q => if nk q.1 = nk d then (q.1, n) else q)) (bs.map (fun q => if q.1 = nk d then (q.1, q.2.1, n) else q)) := by
      intro as bs h
      unfold KeysOk at h ⊢
      induction h with
      | nil => exact .nil
      | @cons q r qs rs h t ih =>
        rw [List.map_cons, List.map_cons, h.1]
        refine .cons ?_ ih
        by_cases e : nk q.1 = nk d
        · rw [if_pos e, if_pos e]; exact ⟨rfl, rfl, h.2.2⟩
        · rw [if_neg e, if_neg e]; exact h
    exact mp h
  · unfold KeysOk at h ⊢
    have app : ∀ {as : List (PyData × Int)} {bs : List (NestedKey × Addr × Int)}, Paired (fun (q : PyData × Int) (r : NestedKey × Addr × Int) => r.1 = nk q.1 ∧ r.2.2 = q.2 ∧ Rp K B (.ref r.2.1) q.1) as bs → Paired (fun (q : PyData × Int) (r : NestedKey × Addr × Int) => r.1 = nk q.1 ∧ r.2.2 = q.2 ∧ Rp K B (.ref r.2.1) q.1) (as ++ [(d, n)]) (bs ++ [(nk d, b, n)]) := by
      intro as bs h
      induction h with
      | nil => exact .cons ⟨rfl, rfl, hb⟩ .nil
      | cons h t ih => exact .cons h ih
    exact app h
theorem putE_len (es : List (NestedKey × Addr × Int)) (k : NestedKey) (b : Addr) (n : Int) : (putE es k b n).length ≤ es.length + 1 := by
  unfold putE
  split <;> simp
/-- the key at b -/
def KeyAt (K : PySem.W.Frag) (H : Hp) (b : Addr) (k : NestedKey) : Prop := ∃ n d, n ≤ 8 ∧ okn false false n d = true ∧ Rp K H (.ref b) d ∧ k = nk d
theorem KeyAt.is {X : Cx} {pins : List (Addr × Obj)} {σ : L2.St} {H : Hp} {s : Shared} (I : Inv X pins σ H s) {b : Addr} {k : NestedKey} (h : KeyAt X.K H b k) : (nestedKind X.prog X.w).is s.heap k b := by
  obtain ⟨n, d, hn, e, r, rfl⟩ := h
  exact ⟨nested_of I n d _ _ r rfl e, Nat.le_trans (nk_depth n d e) hn⟩
abbrev PrE : List (NestedKey × Addr × Int) → List (NestedKey × Addr × Value) → Prop := Paired (fun (q : NestedKey × Addr × Int) (r : NestedKey × Addr × Value) => q.1 = r.1 ∧ q.2.1 = r.2.1 ∧ RelV (.int q.2.2) r.2.2)
theorem PrE.at {k : NestedKey} : ∀ {es : List (NestedKey × Addr × Int)} {xs : List (NestedKey × Addr × Value)}, PrE es xs → RelO ((lookE es k).map V.int) ((atKey xs k).map (·.2)) ∧ (atKey xs k).isSome = (lookE es k).isSome
  | _, _, .nil => ⟨trivial, rfl⟩
  | _, _, .cons (a := q) (b := r) h t => by
    unfold lookE atKey
    rw [List.find?_cons, List.find?_cons, h.1]
    by_cases e : r.1 = k
    · rw [decide_eq_true e]
      exact ⟨h.2.2, rfl⟩
    · rw [decide_eq_false e]
      exact PrE.at t
theorem PrE.put {k : NestedKey} {b : Addr} {n : Int} {u : Value} (ru : RelV (.int n) u) {es : List (NestedKey × Addr × Int)} {xs : List (NestedKey × Addr × Value)} (h : PrE es xs) : PrE (putE es k b n) (storedH xs k b u) := by
  unfold putE storedH
  rw [h.at.2]
  split
  · have mp : ∀ {as : List (NestedKey × Addr × Int)} {bs : List (NestedKey × Addr × Value)}, PrE as bs → PrE (as.map (fun q => if q.1 = k then (q.1, q.2.1, n) else q)) (bs.map (putAt k u)) := by
      intro as bs h
      induction h with
      | nil => exact .nil
      | @cons q r qs rs h t ih =>
        rw [List.map_cons, List.map_cons]
        refine .cons ?_ ih
        unfold putAt
        rw [h.1]
        by_cases e : r.1 = k
        · rw [if_pos e, if_pos e]; exact ⟨rfl, h.2.1, ru⟩
        · rw [if_neg e, if_neg e]; exact h
    exact mp h
  · have app : ∀ {as : List (NestedKey × Addr × Int)} {bs : List (NestedKey × Addr × Value)}, PrE as bs → PrE (as ++ [(k, b, n)]) (bs ++ [(k, b, u)]) := by
      intro as bs h
      induction h with
      | nil => exact .cons ⟨rfl, rfl, ru⟩ .nil
      | cons h t ih => exact .cons h ih
    exact app h
section
variable {X : Cx} {pins : List (Addr × Obj)} {σ : L2.St} {H : Hp} {s : Shared} {a b : Addr} {es : List (NestedKey × Addr × Int)} {k : NestedKey}
theorem raw_at (I : Inv X pins σ H s) (h : H a = some (RawDict X.pr a es)) (hk : ∀ q ∈ es, KeyAt X.K H q.2.1 q.1) : (a == sysModules) = false ∧ ∃ xs, s.heap.DictOfH (nestedKind X.prog X.w) a xs ∧ PrE es xs := by
  obtain ⟨⟨h0, o, des, ep, h1, h2, h3, vs, h4, h5, h6⟩, _⟩ := I.hok a _ h
  refine ⟨h0, vs, ⟨o, des, ep, h1, h2, h3, h4, fun x hx => ?_, h5⟩, h6⟩
  have all : ∀ {l : List (NestedKey × Addr × Int)} {m : List (NestedKey × Addr × Value)}, PrE l m → (∀ q ∈ l, KeyAt X.K H q.2.1 q.1) → ∀ x ∈ m, (nestedKind X.prog X.w).is s.heap x.1 x.2.1 := by
    intro l m q
    induction q with
    | nil => intro _ x hx; exact nomatch hx
    | @cons p q ps qs hq t ih =>
      intro hl x hx
      rcases List.mem_cons.mp hx with e | hx
      · subst e
        have := hl p List.mem_cons_self
        rw [hq.1, hq.2.1] at this
        exact this.is I
      · exact ih (fun q hq => hl q (List.mem_cons_of_mem _ hq)) x hx
  exact all h6 hk x hx
theorem raw_ok {h' : Heap} {P : Program} {w : World} {K : PySem.W.Frag} {H' : Hp} {xs : List (NestedKey × Addr × Value)} (h0 : (a == sysModules) = false) (dd : h'.DictOfH (nestedKind P w) a xs) (r : PrE es xs) : ObjOk P w H' h' a (RawDict ⟨P, w, K⟩ a es) := by
  obtain ⟨o, des, ep, h1, h2, h3, h4, _, h5⟩ := dd
  refine ⟨⟨h0, o, des, ep, h1, h2, h3, xs, h4, h5, r⟩, ⟨o, h1⟩, ?_⟩
  rintro g1 g2 ⟨q0, o', des', ep', q1, q2⟩ st
  exact ⟨q0, o', des', ep', st _ q1, q2⟩
theorem rd_in {A : Around} {E : Value → Shared → Prop} {Q : Value → Shared → Prop} (hu : A.units + 20 < cLine) (I : Inv X pins σ H s) (h : H a = some (RawDict X.pr a es)) (hk : ∀ q ∈ es, KeyAt X.K H q.2.1 q.1) (hb : KeyAt X.K H b k) (hq : ∀ s', Inv X pins σ H s' → Q (.bool (lookE es k).isSome) s') : wpAny (model X.prog X.w) A (compareOp .In (.ref b) (.ref a)) Q E s := by
  obtain ⟨h0, xs, dd, r⟩ := raw_at I h hk
  refine wpAny_in_heap (knd := nestedKind X.prog X.w) (show A.units + 1 + 8 < cLine by omega) (hb.is I) h0 dd ?_
  rw [r.at.2]
  exact hq _ (I.tok _)
theorem rd_get {A : Around} {E : Value → Shared → Prop} {Q : Value → Shared → Prop} {n : Int} (hu : A.units + 20 < cLine) (I : Inv X pins σ H s) (h : H a = some (RawDict X.pr a es)) (hk : ∀ q ∈ es, KeyAt X.K H q.2.1 q.1) (hb : KeyAt X.K H b k) (hn : lookE es k = some n) (hq : ∀ w' s', Inv X pins σ H s' → RelV (.int n) w' → Q w' s') : wpAny (model X.prog X.w) A (getItem (.ref a) (.ref b)) Q E s := by
  obtain ⟨h0, xs, dd, r⟩ := raw_at I h hk
  have q := (r.at (k := k)).1
  rw [hn] at q
  cases e : atKey xs k with
  | none => rw [e] at q; exact q.elim
  | some p =>
    rw [e] at q
    exact wpAny_getItem_heap (knd := nestedKind X.prog X.w) (show A.units + 1 + 8 < cLine by omega) (hb.is I) dd e (hq _ _ (I.tok _) q)
theorem rd_set {A : Around} {E : Value → Shared → Prop} {Q : Unit → Shared → Prop} {n : Int} {u : Value} (hu : A.units + 20 < cLine) (I : Inv X pins σ H s) (h : H a = some (RawDict X.pr a es)) (hk : ∀ q ∈ es, KeyAt X.K H q.2.1 q.1) (hb : KeyAt X.K H b k) (ru : RelV (.int n) u) (hz : es.length ≤ 100000) (hq : ∀ s', Inv X pins σ (upd H a (RawDict X.pr a (putE es k b n))) s' → Q () s') : wpAny (model X.prog X.w) A (setItem (.ref a) (.ref b) u) Q E s := by
  obtain ⟨h0, xs, dd, r⟩ := raw_at I h hk
  have hz : xs.length ≤ sizeLine := by rw [← Paired.length r]; exact line_of hz
  refine wpAny_setItem_heap (knd := nestedKind X.prog X.w) (hsz := hz) (show A.units + 1 + 8 < cLine by omega) (hb.is I) dd fun h' dd' hs => hq _ ?_
  obtain ⟨o, des, ep, h1, _⟩ := id dd'
  exact d_write I (by rw [h]; exact True.intro) hs ⟨o, h1⟩ (raw_ok h0 dd' (r.put ru))
end
/-! ### readings -/
def tRIn (p : Pr) (ty td : TE) : TE := fun σ H Q => ty σ H fun y H1 => td σ H1 fun x H2 => ∃ a es b k, x = .ref a ∧ y = .ref b ∧ H2 a = some (RawDict p a es) ∧ (∀ q ∈ es, KeyAt p.K H2 q.2.1 q.1) ∧ KeyAt p.K H2 b k ∧ Q (.bl (lookE es k).isSome) H2
def tRGet (p : Pr) (td ty : TE) : TE := fun σ H Q => td σ H fun x H1 => ty σ H1 fun y H2 => ∃ a es b k n, x = .ref a ∧ y = .ref b ∧ H2 a = some (RawDict p a es) ∧ (∀ q ∈ es, KeyAt p.K H2 q.2.1 q.1) ∧ KeyAt p.K H2 b k ∧ lookE es k = some n ∧ Q (.int n) H2
def tRPut (p : Pr) (td ty tv : TE) : TS := fun D σ H => tv σ H fun v H1 => td σ H1 fun x H2 => ty σ H2 fun y H3 => ∃ a es b k n, x = .ref a ∧ y = .ref b ∧ v = .int n ∧ H3 a = some (RawDict p a es) ∧ (∀ q ∈ es, KeyAt p.K H3 q.2.1 q.1) ∧ KeyAt p.K H3 b k ∧ es.length ≤ 100000 ∧ D.nx σ (upd H3 a (RawDict p a (putE es k b n)))
def tRNew (p : Pr) : TE := fun _ H Q => ∀ a, H a = none → Q (.ref a) (upd H a (RawDict p a []))
section
variable {X : Cx} {i o value : Expr} {ty td tv : TE} {pos pos' : Pos}
theorem pc_rin (hu : X.A.units + 20 < cLine) (hi : PE X i ty) (ho : PE X o td) : PC X .In i o (tRIn X.pr ty td) := by
  refine ⟨fun pins s σ H Q I h => ?_⟩
  refine thn (hi.run pins s σ H _ I h) fun iv s1 ⟨y, H1, I1, ry, q1⟩ => thn (ho.run pins s1 σ H1 _ I1 q1) fun u s2 ⟨x, H2, I2, rx, a, es, b, k, ex, ey, h1, h2, h3, q2⟩ => ?_
  subst ex ey
  obtain rfl : u = Value.ref a := rx
  obtain rfl : iv = Value.ref b := ry
  exact rd_in hu I2 h1 h2 h3 fun s3 I3 => ⟨.bl _, H2, I3, rfl, q2⟩
theorem pe_rget (hu : X.A.units + 20 < cLine) (ho : PE X o td) (hi : PE X i ty) (hs : NoSl i) : PE X (.Subscript o i pos) (tRGet X.pr td ty) := by
  refine ⟨fun pins s σ H Q I h => ?_⟩
  refine subD_of PySem.F.slot_dict_getitem.lookup hs (thn (ho.run pins s σ H _ I h) fun u s1 ⟨x, H1, I1, rx, q1⟩ => thn (hi.run pins s1 σ H1 _ I1 q1) fun iv s2 ⟨y, H2, I2, ry, a, es, b, k, n, ex, ey, h1, h2, h3, hn, q2⟩ => ?_)
  subst ex ey
  obtain rfl : u = Value.ref a := rx
  obtain rfl : iv = Value.ref b := ry
  obtain ⟨_, xs, dd, _⟩ := raw_at I2 h1 h2
  exact ⟨dd.typeIs, rd_get hu I2 h1 h2 h3 hn fun w' s3 I3 rw' => ⟨.int n, H2, I3, rw', q2⟩⟩
theorem ps_rput (hu : X.A.units + 20 < cLine) (ho : PE X o td) (hi : PE X i ty) (hv : PE X value tv) (hs : swapsWith value (some (.Subscript o i pos')) pos.line X.env = pure false) :
    PS X (.Assign [.Subscript o i pos'] value pos) (tRPut X.pr td ty tv) := by
  refine ⟨fun pins s σ H D I h => ?_⟩
  refine wpAny_Assign_Subscript (thn (hv.run pins s σ H _ I h) fun r s1 ⟨v, H1, I1, rv, q1⟩ => thn (ho.run pins s1 σ H1 _ I1 q1) fun u s2 ⟨x, H2, I2, rx, q2⟩ => thn (hi.run pins s2 σ H2 _ I2 q2) fun iv s3 ⟨y, H3, I3, ry, a, es, b, k, n, ex, ey, ev, h1, h2, h3, hz, q3⟩ => ?_) hs
  subst ex ey ev
  obtain rfl : u = Value.ref a := rx
  obtain rfl : iv = Value.ref b := ry
  exact rd_set hu I3 h1 h2 h3 rv hz fun s4 I4 => ⟨σ, _, I4, q3⟩
theorem pe_rnew : PE X (.Dict [] [] pos) (tRNew X.pr) := ⟨fun pins s σ H Q I h =>
  wpAny_Dict_empty ⟨.ref s.heap.objs.size, _, I.laid (a := s.heap.objs.size) (o := RawDict X.pr s.heap.objs.size []) (t' := s.toks) (fun _ _ q => Heap.get?_push_of_some _ q) (Nat.le_refl _) (raw_ok (xs := []) (beq_eq_false_iff_ne.mpr (Ne.symm (Nat.ne_of_lt I.big))) (Heap.DictOfH.new s.heap) .nil), rfl, h _ (I.hok.fresh (Nat.le_refl _))⟩⟩
end
/-! ### over the slots -/
section
variable {X : Cx} {c : Wd} {ρ : List Sl} {i e : Expr} {d : PyData} {kvs : List (PyData × Int)} {pos p pos' : Pos} {m n : Nat} {x : Str} {rest : List Stmt} {E : EndsD}
/-- all keys are nested tuples of ints, texts -/
def KeysFit (kvs : List (PyData × Int)) : Prop := ∀ q ∈ kvs, okn false false 8 q.1 = true
theorem keys_at {K : PySem.W.Frag} {B H : Hp} (eB : Ex B H) : ∀ {kvs : List (PyData × Int)} {es : List (NestedKey × Addr × Int)}, KeysOk K B kvs es → KeysFit kvs → ∀ q ∈ es, KeyAt K H q.2.1 q.1
  | _, _, .nil, _, q, hq => nomatch hq
  | _, _, .cons (a := a) (b := b) h t, f, q, hq => by
    rcases List.mem_cons.mp hq with e | hq
    · subst e
      exact ⟨8, a.1, Nat.le_refl _, f a List.mem_cons_self, h.2.2.mono eB, h.1⟩
    · exact keys_at eB t (fun z hz => f z (List.mem_cons_of_mem _ hz)) q hq
theorem KeysOk.len {K : PySem.W.Frag} {B : Hp} {kvs : List (PyData × Int)} {es : List (NestedKey × Addr × Int)} (h : KeysOk K B kvs es) : kvs.length = es.length := Paired.length h
theorem rp_ref {K : PySem.W.Frag} {B : Hp} {v : V} {xs : List PyData} (h : Rp K B v (.tuple xs)) : ∃ b, v = .ref b := by
  cases h with
  | tup _ _ => exact ⟨_, rfl⟩
theorem dt_inDict (n : Nat) {xs : List PyData} (hu : X.A.units + 20 < cLine) (h : ρ[n]? = some (.dict kvs)) (f : KeysFit kvs) (hi : DE X c ρ i (.tuple xs)) (hok : okn false false 8 (.tuple xs) = true) (hN : X.N[n]? = some x := by rfl)
    (hv : Vis X.env.scope x := by first | exact Or.inl rfl | exact Or.inr (Or.inl rfl) | exact Or.inr (Or.inr rfl)) (hdb : (x == ("__debug__" : Str)) = false := by decide) (hcd : (x == ("__classdict__" : Str)) = false := by decide) (hm : behindInMarks .In (.Name x p) = false := by rfl) : DT X c ρ (.Compare i [.In] [.Name x p] pos) (lookD kvs (.tuple xs)).isSome :=
  dt_of (pt_cmp (pc_rin hu (pe_w X) (pe_var hN hv hdb hcd)) hm) fun σ B H S Q q => hi σ B H S _ fun y B1 H1 s1 r1 => by
    obtain ⟨a, es, e, hb, h0, hh, rr⟩ := (S.stp s1).sl n _ h
    obtain ⟨b, rfl⟩ := rp_ref r1
    refine ⟨.ref a, e, a, es, b, nk (.tuple xs), rfl, rfl, hh, keys_at s1.bh rr f, ⟨8, _, Nat.le_refl _, hok, r1.mono s1.bh, rfl⟩, _, rfl, ?_⟩
    rw [rr.look]
    exact q B1 H1 s1
theorem de_getDict (n : Nat) {xs : List PyData} {z : Int} (hu : X.A.units + 20 < cLine) (h : ρ[n]? = some (.dict kvs)) (f : KeysFit kvs) (hi : DE X c ρ i (.tuple xs)) (hok : okn false false 8 (.tuple xs) = true) (hz : lookD kvs (.tuple xs) = some z) (hs : NoSl i := by exact fun _ _ => rfl) (hN : X.N[n]? = some x := by rfl)
    (hv : Vis X.env.scope x := by first | exact Or.inl rfl | exact Or.inr (Or.inl rfl) | exact Or.inr (Or.inr rfl)) (hdb : (x == ("__debug__" : Str)) = false := by decide) (hcd : (x == ("__classdict__" : Str)) = false := by decide) : DE X c ρ (.Subscript (.Name x p) i pos) (.int z) :=
  de_of (pe_rget hu (pe_var hN hv hdb hcd) (pe_w X) hs) fun σ B H S Q q => by
    obtain ⟨a, es, e, hb, h0, hh, rr⟩ := S.sl n _ h
    refine ⟨.ref a, e, hi σ B H S _ fun y B1 H1 s1 r1 => ?_⟩
    obtain ⟨b, rfl⟩ := rp_ref r1
    exact ⟨a, es, b, nk (.tuple xs), z, rfl, rfl, s1.h _ _ hh, keys_at s1.bh (rr.mono s1.b) f, ⟨8, _, Nat.le_refl _, hok, r1.mono s1.bh, rfl⟩, by rw [rr.look]; exact hz, q _ B1 H1 s1 (.int z)⟩
theorem Sx.chgD {p : Pr} {n : Nat} {σ : L2.St} {B H : Hp} {r : Addr} {es2 : List (NestedKey × Addr × Int)} {kvs2 : List (PyData × Int)} (S : Sx p c ρ σ B H) (h : ρ[n]? = some (.dict kvs)) (hr : σ[n]? = some (some (.ref r))) (rr : KeysOk p.K B kvs2 es2) : Sx p c (ρ.set n (.dict kvs2)) σ B (upd H r (RawDict p r es2)) := by
  obtain ⟨r', es, e, hb, h0, hh, _⟩ := S.sl n _ h
  rw [hr] at e
  cases e
  have nl : n < ρ.length := (List.getElem?_eq_some_iff.mp h).1
  have up : ∀ q o, q ≠ r → H q = some o → (upd H r (RawDict p r es2)) q = some o := fun q o w e => by rw [upd_ne w]; exact e
  refine ⟨S.b0, fun q o e => ?_, fun q o t e => ?_, S.fr, fun q t => ?_, by rw [List.length_set]; exact S.len, fun i s hs => ?_, fun i k q hik h1 h2 h3 => ?_⟩
  · exact up q o (fun w => by rw [w, hb] at e; cases e) (S.bh q o e)
  · exact up q o (fun w => by rw [w, h0] at e; cases e) (S.h0 q o t e)
  · obtain ⟨t1, t2, t3⟩ := S.tk q t
    refine ⟨t1, ?_, t3⟩
    have nq : q ≠ r := fun w => t3 (w ▸ h0)
    rw [upd_ne nq]
    exact t2
  · by_cases hij : n = i
    · subst hij
      rw [List.getElem?_set_self nl] at hs
      cases hs
      exact ⟨r, es2, hr, hb, h0, upd_same, rr⟩
    · rw [List.getElem?_set_ne hij] at hs
      have q := S.sl i s hs
      cases s with
      | no => trivial
      | d d => exact q
      | seq es => exact q
      | tin m =>
        obtain ⟨a, e1, t, x, y, k, e2, z⟩ := q
        exact ⟨a, e1, t, x, y, k, up a _ (fun w => (S.tk a t).2.2 (w ▸ h0)) e2, z⟩
      | own es =>
        obtain ⟨r2, zs, e2, hb2, h02, hh2, rr2⟩ := q
        exact ⟨r2, zs, e2, hb2, h02, up r2 _ (fun w => S.sep n i r hij (by rw [h]; rfl) (by rw [hs]; rfl) hr (w ▸ e2)) hh2, rr2⟩
      | dict kvs =>
        obtain ⟨r2, zs, e2, hb2, h02, hh2, rr2⟩ := q
        exact ⟨r2, zs, e2, hb2, h02, up r2 _ (fun w => S.sep n i r hij (by rw [h]; rfl) (by rw [hs]; rfl) hr (w ▸ e2)) hh2, rr2⟩
  · have nj : ∀ i : Nat, ((ρ.set n (Sl.dict kvs2))[i]?.map Sl.owned) = some true → (ρ[i]?.map Sl.owned) = some true := fun i hi => by
      by_cases hij : n = i
      · subst hij; rw [h]; rfl
      · rw [List.getElem?_set_ne hij] at hi
        exact hi
    exact S.sep i k q hik (nj i h1) (nj k h2) h3
theorem ds_putDict (n : Nat) {xs : List PyData} {z : Int} (hu : X.A.units + 20 < cLine) (h : ρ[n]? = some (.dict kvs)) (f : KeysFit kvs) (hl : kvs.length ≤ 100000) (he : DE X c ρ e (.int z)) (hi : DE X c ρ i (.tuple xs)) (hok : okn false false 8 (.tuple xs) = true) (k : DS X c (ρ.set n (.dict (putD kvs (.tuple xs) z))) rest E)
    (hs : swapsWith e (some (.Subscript (.Name x p) i pos')) pos.line X.env = pure false := by rfl) (hN : X.N[n]? = some x := by rfl)
    (hv : Vis X.env.scope x := by first | exact Or.inl rfl | exact Or.inr (Or.inl rfl) | exact Or.inr (Or.inr rfl)) (hdb : (x == ("__debug__" : Str)) = false := by decide) (hcd : (x == ("__classdict__" : Str)) = false := by decide) : DS X c ρ (.Assign [.Subscript (.Name x p) i pos'] e pos :: rest) E :=
  ds_of (pss_cons (ps_rput hu (pe_var hN hv hdb hcd) (pe_w X) (pe_w X) hs) (pss_w X)) fun σ B H S D q => he σ B H S _ fun v B1 H1 s1 r1 => by
    cases r1
    have S1 := S.stp s1
    obtain ⟨a, es, e, hb, h0, hh, rr⟩ := S1.sl n _ h
    refine ⟨.ref a, e, hi σ B1 H1 S1 _ fun y B2 H2 s2 r2 => ?_⟩
    obtain ⟨b, rfl⟩ := rp_ref r2
    have S2 := S1.stp s2
    exact ⟨a, es, b, nk (.tuple xs), z, rfl, rfl, rfl, s2.h _ _ hh, keys_at s2.bh (rr.mono s2.b) f, ⟨8, _, Nat.le_refl _, hok, r2.mono s2.bh, rfl⟩, by rw [← rr.len]; exact hl,
      k σ B2 _ (S2.chgD h e (KeysOk.put r2 (rr.mono s2.b))) D (q.up (s1.b.trans s2.b))⟩
end
end DD
/-! DD9: new dicts and lists into several names at once. -/
namespace DD
open PySem PySem.Spec L2
open PyProof.Rows hiding St
open Evl (Ex ex_rd ex_l ex_t fresh_back)
section
variable {X : Cx} {c : Wd} {ρ ρ' : List Sl} {e a b e1 e4 : Expr} {d da db d1 d4 : PyData} {ds es : List PyData} {pos p2 : Pos} {rest : List Stmt} {E : EndsD}
/-- a new dict is put into a slot -/
theorem Sx.putND {p : Pr} {i : Nat} {a : Addr} {σ : L2.St} {B H : Hp} (S : Sx p c ρ σ B H) (hb : B a = none) (h0 : c.H0 a = none) (hh : H a = some (RawDict p a [])) (new : ∀ (j : Nat), (ρ[j]?.map Sl.owned) = some true → σ[j]? ≠ some (some (.ref a))) :
    Sx p c (ρ.set i (.dict [])) (σ.set i (some (.ref a))) B H := S.put ⟨a, [], rfl, hb, h0, hh, .nil⟩ fun _ j b _ hj e => by cases e; exact new j hj
/-- an owned slot's object stands -/
theorem Sx.ownH {p : Pr} {σ : L2.St} {B H : Hp} (S : Sx p c ρ σ B H) {j : Nat} {r : Addr} (hj : (ρ[j]?.map Sl.owned) = some true) (e : σ[j]? = some (some (.ref r))) : H r ≠ none ∧ B r = none := by
  cases q : ρ[j]? with
  | none => rw [q] at hj; cases hj
  | some s =>
    rw [q] at hj
    have z := S.sl j s q
    rw [e] at z
    cases s with
    | own ds =>
      obtain ⟨b, xs, e1, h1, _, hh, _⟩ := z
      cases e1
      exact ⟨by rw [hh]; simp, h1⟩
    | dict ds =>
      obtain ⟨b, xs, e1, h1, _, hh, _⟩ := z
      cases e1
      exact ⟨by rw [hh]; simp, h1⟩
    | _ => cases hj
theorem notB {B H B' H' : Hp} (s : Stp B H B' H') {q : Addr} (hb : B q = none) (hh : H q ≠ none) : B' q = none := by
  cases z : B' q with
  | none => rfl
  | some o =>
    rcases s.f q (by rw [z]; simp) with k | k
    · exact absurd hb k
    · exact absurd k hh
/-- x, y = {}, e -/
theorem ds_parDN (i j : Nat) {x y : Str} {px py pt pd : Pos} {kt k2 pt2} (he : DE X c ρ b db) (k : DS X c ((ρ.set i (.dict [])).set j (.d db)) rest E) (hN : X.N.Nodup)
    (hw : swappedStores [.Tuple [.Name x px, .Name y py] kt pt] (.Tuple [.Dict [] [] pd, b] k2 pt2) X.env = pure (some [x, y])) (hi : X.N[i]? = some x := by rfl) (hj : X.N[j]? = some y := by rfl) (hij : i ≠ j := by decide)
    (hx : X.env.scope.names.lookup x = some .local := by rfl) (hy : X.env.scope.names.lookup y = some .local := by rfl) (hc : X.calm = true := by rfl) (hs1 : starEach [.Dict [] [] pd, b] X.env = (false, eval (.Dict [] [] pd) X.env) :: starEach [b] X.env := by rfl) (hs2 : starEach [b] X.env = (false, eval b X.env) :: starEach [] X.env := by rfl)
    (hs : swapsWithSole [.Tuple [.Name x px, .Name y py] kt pt] (.Tuple [.Dict [] [] pd, b] k2 pt2) pos.line X.env = pure false := by rfl) : DS X c ρ (.Assign [.Tuple [.Name x px, .Name y py] kt pt] (.Tuple [.Dict [] [] pd, b] k2 pt2) pos :: rest) E :=
  ds_of (pss_cons (ps_par hc hN hi hj hij hx hy (pa_cons pe_rnew (pa_cons (pe_w X) pa_nil hs2) hs1) hw hs) (pss_w X)) fun σ B H S D q => fun r hr => by
    have s0 : Stp B H B (upd H r (RawDict X.pr r [])) := stp_new0 S.bh _ hr
    refine he σ B _ (S.stp s0) _ fun v B1 H1 s1 r1 => ?_
    have hb1 : B1 r = none := notB s1 (free_of S.bh hr) (by rw [upd_same]; simp)
    refine ⟨.ref r, v, rfl, k _ B1 H1 ((((S.stp s0).stp s1).putND hb1 (S.h0n hr) (s1.h _ _ upd_same) (fun j hj e => ?_)).putD r1) D (q.up s1.b)⟩
    exact (S.ownH hj e).1 hr
/-- x, y = a new list, another -/
theorem ds_parNN (i j : Nat) {x y : Str} {px py pt : Pos} {kt k2 pt2} (ha : DN X c ρ a ds) (hb : DN X c ρ b es) (k : DS X c ((ρ.set i (.own ds)).set j (.own es)) rest E) (hN : X.N.Nodup)
    (hw : swappedStores [.Tuple [.Name x px, .Name y py] kt pt] (.Tuple [a, b] k2 pt2) X.env = pure (some [x, y])) (hi : X.N[i]? = some x := by rfl) (hj : X.N[j]? = some y := by rfl) (hij : i ≠ j := by decide)
    (hx : X.env.scope.names.lookup x = some .local := by rfl) (hy : X.env.scope.names.lookup y = some .local := by rfl) (hc : X.calm = true := by rfl) (hs1 : starEach [a, b] X.env = (false, eval a X.env) :: starEach [b] X.env := by rfl) (hs2 : starEach [b] X.env = (false, eval b X.env) :: starEach [] X.env := by rfl)
    (hs : swapsWithSole [.Tuple [.Name x px, .Name y py] kt pt] (.Tuple [a, b] k2 pt2) pos.line X.env = pure false := by rfl) : DS X c ρ (.Assign [.Tuple [.Name x px, .Name y py] kt pt] (.Tuple [a, b] k2 pt2) pos :: rest) E :=
  ds_of (pss_cons (ps_par hc hN hi hj hij hx hy (pa_cons (pe_w X) (pa_cons (pe_w X) pa_nil hs2) hs1) hw hs) (pss_w X)) fun σ B H S D q =>
    ha σ B H S _ fun r xs B1 H1 s1 hb1 hn1 hh1 r1 => hb σ B1 H1 (S.stp s1) _ fun t ys B2 H2 s2 hb2 hn2 hh2 r2 => by
      have S2 := (S.stp s1).stp s2
      have hb12 : B2 r = none := notB s2 hb1 (by rw [hh1]; simp)
      have rt : r ≠ t := fun w => by subst w; rw [hh1] at hn2; cases hn2
      have S3 := S2.putN (i := i) hb12 (S.h0n hn1) (s2.h _ _ hh1) (r1.mono s2.b) (fun j hj e => (S.ownH hj e).1 hn1)
      refine ⟨.ref r, .ref t, rfl, k _ B2 H2 (S3.putN hb2 ((S.stp s1).h0n hn2) hh2 r2 (fun l hl e => ?_)) D (q.up (s1.b.trans s2.b))⟩
      by_cases hil : i = l
      · subst hil
        by_cases hlen : i < σ.length
        · rw [List.getElem?_set_self hlen] at e
          cases e
          exact rt rfl
        · rw [List.getElem?_eq_none (by rw [List.length_set]; omega)] at e; cases e
      · rw [List.getElem?_set_ne hil] at hl e
        exact ((S.stp s1).ownH hl e).1 hn2
/-- x, y, z, u = e1, {}, [], e4 -/
theorem ds_par4 (i j l m : Nat) {x y z u : Str} {px py pz pu pt pd pl : Pos} {kt k2 pt2} (h1 : DE X c ρ e1 d1) (h4 : DE X c ρ e4 d4) (k : DS X c ((((ρ.set i (.d d1)).set j (.dict [])).set l (.own [])).set m (.d d4)) rest E) (hN : X.N.Nodup)
    (hg : PG X (.Tuple [.Name x px, .Name y py, .Name z pz, .Name u pu] kt pt) (gTup X.K 4 (gCons (gName i) (gCons (gName j) (gCons (gName l) (gCons (gName m) gNil)))))) (hjl : j ≠ l)
    (hs1 : starEach [e1, .Dict [] [] pd, .List [] pl, e4] X.env = (false, eval e1 X.env) :: starEach [.Dict [] [] pd, .List [] pl, e4] X.env := by rfl) (hs2 : starEach [.Dict [] [] pd, .List [] pl, e4] X.env = (false, eval (.Dict [] [] pd) X.env) :: starEach [.List [] pl, e4] X.env := by rfl)
    (hs3 : starEach [.List [] pl, e4] X.env = (false, eval (.List [] pl) X.env) :: starEach [e4] X.env := by rfl) (hs4 : starEach [e4] X.env = (false, eval e4 X.env) :: starEach [] X.env := by rfl)
    (hs : swapsWithSole [.Tuple [.Name x px, .Name y py, .Name z pz, .Name u pu] kt pt] (.Tuple [e1, .Dict [] [] pd, .List [] pl, e4] k2 pt2) pos.line X.env = pure false := by rfl) (hw : swappedStores [.Tuple [.Name x px, .Name y py, .Name z pz, .Name u pu] kt pt] (.Tuple [e1, .Dict [] [] pd, .List [] pl, e4] k2 pt2) X.env = pure none := by rfl)
    (ha : (assignEach [.Tuple [.Name x px, .Name y py, .Name z pz, .Name u pu] kt pt] X.env).map (·.2) = [assign (.Tuple [.Name x px, .Name y py, .Name z pz, .Name u pu] kt pt) X.env] := by rfl) : DS X c ρ (.Assign [.Tuple [.Name x px, .Name y py, .Name z pz, .Name u pu] kt pt] (.Tuple [e1, .Dict [] [] pd, .List [] pl, e4] k2 pt2) pos :: rest) E :=
  ds_of (pss_cons (ps_asg (pe_tup (pa_cons (pe_w X) (pa_cons pe_rnew (pa_cons (pe_lst pa_nil) (pa_cons (pe_w X) pa_nil hs4) hs3) hs2) hs1)) hg hs hw ha) (pss_w X)) fun σ B H S D q =>
    h1 σ B H S _ fun v1 B1 H1 s1 r1 => fun t ht => ⟨Nat.zero_le _, fun r hr => by
      have S1 := S.stp s1
      have st : Stp B1 H1 B1 (upd H1 t (RawDict X.pr t [])) := stp_new0 s1.bh _ ht
      have sr : Stp B1 (upd H1 t (RawDict X.pr t [])) B1 (upd (upd H1 t (RawDict X.pr t [])) r (.lst [])) := stp_new0 st.bh _ hr
      refine h4 σ B1 _ ((S1.stp st).stp sr) _ fun v4 B4 H4 s4 r4 => ?_
      have S4 := ((S1.stp st).stp sr).stp s4
      have htr : t ≠ r := fun w => by subst w; rw [upd_same] at hr; cases hr
      have bt1 : B1 t = none := free_of s1.bh ht
      have br1 : B1 r = none := free_of st.bh hr
      have bt : B4 t = none := notB s4 bt1 (by rw [upd_ne htr, upd_same]; simp)
      have br : B4 r = none := notB s4 br1 (by rw [upd_same]; simp)
      have Ht : H4 t = some (RawDict X.pr t []) := s4.h _ _ (by rw [upd_ne htr, upd_same])
      have Hr : H4 r = some (.lst []) := s4.h _ _ upd_same
      refine ⟨by show 4 ≤ sizeLine; decide, fun p hp => ?_⟩
      have sp : Stp B4 H4 B4 (upd H4 p (.tup [v1, .ref t, .ref r, v4])) := stp_new0 s4.bh _ hp
      have S5 := S4.stp sp
      have r1' : Rp X.K B4 v1 d1 := r1.mono s4.b
      have n0t : c.H0 t = none := S1.h0n ht
      have n0r : c.H0 r = none := (S1.stp st).h0n hr
      refine ⟨p, _, rfl, SqT.of upd_same, rfl, v1, _, rfl, .ref t, _, rfl, .ref r, _, rfl, v4, _, rfl, rfl, ?_⟩
      have A1 := S5.putD (i := i) r1'
      have A2 := A1.putND (i := j) (a := t) bt n0t (sp.h _ _ Ht) (fun n hn e => by
        have hn' : ((ρ[n]?.map Sl.owned) = some true) ∧ i ≠ n := by
          by_cases w : i = n
          · subst w
            by_cases hl : i < ρ.length
            · rw [List.getElem?_set_self hl] at hn; cases hn
            · rw [List.getElem?_eq_none (by rw [List.length_set]; omega)] at hn; cases hn
          · rw [List.getElem?_set_ne w] at hn; exact ⟨hn, w⟩
        rw [List.getElem?_set_ne hn'.2] at e
        exact (S1.ownH hn'.1 e).1 ht)
      have A3 := A2.putN (i := l) (a := r) (ds := []) (xs := []) br n0r (sp.h _ _ Hr) .nil (fun n hn e => by
        by_cases wj : j = n
        · subst wj
          by_cases hl : j < σ.length
          · rw [List.getElem?_set_self (by rw [List.length_set]; exact hl)] at e
            cases e
            exact htr rfl
          · rw [List.getElem?_eq_none (by rw [List.length_set, List.length_set]; omega)] at e; cases e
        · rw [List.getElem?_set_ne wj] at hn e
          have hn' : ((ρ[n]?.map Sl.owned) = some true) ∧ i ≠ n := by
            by_cases w : i = n
            · subst w
              by_cases hl : i < ρ.length
              · rw [List.getElem?_set_self hl] at hn; cases hn
              · rw [List.getElem?_eq_none (by rw [List.length_set]; omega)] at hn; cases hn
            · rw [List.getElem?_set_ne w] at hn; exact ⟨hn, w⟩
          rw [List.getElem?_set_ne hn'.2] at e
          exact ((S1.stp st).ownH hn'.1 e).1 hr)
      exact k _ B4 _ (A3.putD (i := m) r4) D (q.up (s1.b.trans s4.b))⟩
end
end DD
/-! DD10: extend by a list, by a tuple; a dict of the module; a name's item stored. -/
namespace DD
open PySem PySem.Spec L2
open PyProof.Rows hiding St
open Evl (Ex ex_rd ex_l ex_t fresh_back)
theorem extend_tupW (l : Addr) (items : Array Value) (n : Nat) (b : Addr) (items2 : Array Value) (n2 : Nat) (dd : Option Addr) (sl : Array (Option Value)) (hs0 : ¬(!items.isEmpty && Builtin.List.listTooLong (items.size + items2.size)) = true) (hs1 : items.size ≤ sizeLine) (hs2 : items.size + items2.size ≤ sizeLine + 1) :
    Meets (Builtin.«list.extend» ⟨[.ref l, .ref b], []⟩) (fun _ R s => s.heap.get? l = some { cls := .type "list", dict := none, data := .seq items n, slots := #[] } ∧ s.heap.get? b = some { cls := .type "tuple", dict := dd, data := .seq items2 n2, slots := sl } ∧ R (.ok (.ret Value.none)) { s with heap := s.heap.update l (Obj.mapSeq fun x => x ++ items2), toks := s.toks }) :=
  .of_wp fun prog w A R s h => by
    obtain ⟨hp, g, d, tk, os⟩ := s; obtain ⟨hl, hb, h⟩ := h; have f1 := AutoSeq1.idx_int; have f2 := AutoSeq1.sub_tuple_tuple; have f3 := AutoSeq1.sub_list_list; have f4 := AutoSeq1.sub_tuple_list; have f5 := AutoSeq1.sub_list_tuple;
    have hz' : (items ++ items2).size ≤ sizeLine + 1 := by rw [Array.size_append]; exact hs2
    wp_walk using (wpAny_updateSeq hl rfl (hz := hs1) (_hz' := hz')), wpAny_loadPart' hl, wpAny_loadPart' hb; exact ⟨_, rfl, h⟩
def rExtT (K : PySem.W.Frag) : V → List V → Hp → VK → Prop := fun x vs H Q => ∃ l b xs zs, x = .ref l ∧ vs = [.ref b] ∧ H l = some (.lst xs) ∧ SqT K H b zs ∧ xs.length + zs.length ≤ sizeLine ∧ Q .non (upd H l (.lst (xs ++ zs)))
theorem mt_extT {X : Cx} : MtM X "list.extend" (rExtT X.K) := by
  intro pins s σ H x vs v us Q I rx rv h
  obtain ⟨l, b, xs, zs, rfl, rfl, hH, hB, hz, q⟩ := h
  cases rx
  obtain ⟨u, rfl, ru⟩ := rv.one
  cases ru
  obtain ⟨z, its, n, r, hl, e⟩ := I.lstM hH
  obtain ⟨its2, r2, ⟨⟨cls, dd, data, sl⟩, ho, hc, n2, hd⟩, hs⟩ := I.tuple hB
  simp only at hc hd
  subst hc hd
  have hl2 : zs.length = its2.length := r2.length
  have hsz : its.toArray.size + its2.toArray.size ≤ sizeLine := by rw [List.size_toArray, List.size_toArray]; omega
  have hlong : ¬ (!its.toArray.isEmpty && Builtin.List.listTooLong (its.toArray.size + its2.toArray.size)) = true := by
    rw [notLongL hsz, Bool.and_false]
    exact Bool.false_ne_true
  refine call_meets PySem.F.slot_list_extend ⟨_, e, rfl⟩ PySem.F.entry_list_extend (PySem.F.args_list_extend_2 _ _)
    (extend_tupW l its.toArray n b its2.toArray n2 dd sl hlong (by rw [List.size_toArray]; omega) (by omega)) ⟨e, ho, ?_⟩
  refine ⟨.non, _, I.lset (its' := its ++ its2) hH e (by simp) (r.append r2) ?_, rfl, q⟩
  rw [List.length_append]
  omega
section
variable {X : Cx} {c : Wd} {ρ ρ' : List Sl} {e a b i : Expr} {d da db : PyData} {ds es : List PyData} {pos p2 : Pos} {rest : List Stmt} {E : EndsD}
theorem ds_extT (n : Nat) {x : Str} {px ap cp : Pos} (h : ρ[n]? = some (.own ds)) (he : DE X c ρ e (.tuple es)) (hz : ds.length + es.length ≤ 100000) (k : DS X c (ρ.set n (.own (ds ++ es))) rest E) (hN : X.N[n]? = some x := by rfl)
    (hv : Vis X.env.scope x := by first | exact Or.inl rfl | exact Or.inr (Or.inl rfl) | exact Or.inr (Or.inr rfl)) (hdb : (x == ("__debug__" : Str)) = false := by decide) (hcd : (x == ("__classdict__" : Str)) = false := by decide)
    (hbase : attributeBase (.Name x px) "extend" X.env (eval (.Name x px) X.env) = eval (.Name x px) X.env := by rfl)
    (hfew : ((backTo cp (starEach [e] X.env)).all (fun x => !x.1) && (backToKw cp (keywordEach [] X.env)).all (fun x => x.1.isSome) && decide (([e] : List Expr).length + ([] : List Keyword).length + (if ([] : List Keyword).isEmpty then 0 else 1) < 30)) = true := by rfl)
    (hline : (ap.endLine == cp.line) = true := by rfl) (hs : starEach [e] X.env = (false, eval e X.env) :: starEach [] X.env := by rfl)
    (hsw : swapsWith (.Call (.Attribute (.Name x px) "extend" ap) [e] [] cp) none pos.line X.env = pure false := by rfl) : DS X c ρ (.Expr (.Call (.Attribute (.Name x px) "extend" ap) [e] [] cp) pos :: rest) E :=
  ds_of (pss_cons (ps_expr (pe_bm PySem.F.plainAttrs_list PySem.F.slot_list_extend PySem.F.type_list_extend mt_extT (pe_var hN hv hdb hcd) (pa_cons (pe_w X) pa_nil hs) hbase hfew hline hs rfl) hsw) (pss_w X)) fun σ B H S D q => by
    obtain ⟨r, xs, e, hr, rr⟩ := ev_own h S
    refine ⟨.ref r, e, .inl ⟨rfl, xs, SqL.of hr⟩, he σ B H S _ fun y B1 H1 s1 ry => ?_⟩
    cases ry with
    | tup h1 r1 =>
      exact ⟨r, _, xs, _, rfl, rfl, s1.h _ _ hr, ex_t s1.bh h1, by rw [rr.length, r1.length]; exact line_of hz, k σ B1 _ ((S.stp s1).chg h e ((rr.mono s1.b).append r1)) D (q.up s1.b)⟩
theorem ds_extL (n : Nat) {x : Str} {px ap cp : Pos} (h : ρ[n]? = some (.own ds)) (he : DE X c ρ e (.list es)) (hz : ds.length + es.length ≤ 100000) (k : DS X c (ρ.set n (.own (ds ++ es))) rest E) (hN : X.N[n]? = some x := by rfl)
    (hv : Vis X.env.scope x := by first | exact Or.inl rfl | exact Or.inr (Or.inl rfl) | exact Or.inr (Or.inr rfl)) (hdb : (x == ("__debug__" : Str)) = false := by decide) (hcd : (x == ("__classdict__" : Str)) = false := by decide)
    (hbase : attributeBase (.Name x px) "extend" X.env (eval (.Name x px) X.env) = eval (.Name x px) X.env := by rfl)
    (hfew : ((backTo cp (starEach [e] X.env)).all (fun x => !x.1) && (backToKw cp (keywordEach [] X.env)).all (fun x => x.1.isSome) && decide (([e] : List Expr).length + ([] : List Keyword).length + (if ([] : List Keyword).isEmpty then 0 else 1) < 30)) = true := by rfl)
    (hline : (ap.endLine == cp.line) = true := by rfl) (hs : starEach [e] X.env = (false, eval e X.env) :: starEach [] X.env := by rfl)
    (hsw : swapsWith (.Call (.Attribute (.Name x px) "extend" ap) [e] [] cp) none pos.line X.env = pure false := by rfl) : DS X c ρ (.Expr (.Call (.Attribute (.Name x px) "extend" ap) [e] [] cp) pos :: rest) E :=
  ds_of (pss_cons (ps_expr (pe_bm PySem.F.plainAttrs_list PySem.F.slot_list_extend PySem.F.type_list_extend mt_extend (pe_var hN hv hdb hcd) (pa_cons (pe_w X) pa_nil hs) hbase hfew hline hs rfl) hsw) (pss_w X)) fun σ B H S D q => by
    obtain ⟨r, xs, e, hr, rr⟩ := ev_own h S
    refine ⟨.ref r, e, .inl ⟨rfl, xs, SqL.of hr⟩, he σ B H S _ fun y B1 H1 s1 ry => ?_⟩
    cases ry with
    | lst h1 r1 =>
      exact ⟨r, _, xs, _, rfl, rfl, s1.h _ _ hr, s1.bh _ _ h1, by rw [rr.length, r1.length]; exact line_of hz, k σ B1 _ ((S.stp s1).chg h e ((rr.mono s1.b).append r1)) D (q.up s1.b)⟩
/-- xs[i] = e, an own list -/
theorem ds_ownSet (n : Nat) {x : Str} {px ps : Pos} {k : Int} {j : Nat} (h : ρ[n]? = some (.own ds)) (he : DE X c ρ e d) (hi : DE X c ρ i (.int k)) (hj : ixN ds.length k = some j) (kk : DS X c (ρ.set n (.own (ds.set j d))) rest E) (hN : X.N[n]? = some x := by rfl)
    (hv : Vis X.env.scope x := by first | exact Or.inl rfl | exact Or.inr (Or.inl rfl) | exact Or.inr (Or.inr rfl)) (hdb : (x == ("__debug__" : Str)) = false := by decide) (hcd : (x == ("__classdict__" : Str)) = false := by decide)
    (hs : swapsWithSole [.Subscript (.Name x px) i ps] e pos.line X.env = pure false := by rfl) (hw : swappedStores [.Subscript (.Name x px) i ps] e X.env = pure none := by rfl) (h1 : (assignEach [.Subscript (.Name x px) i ps] X.env).map (·.2) = [assign (.Subscript (.Name x px) i ps) X.env] := by rfl)
    (ha : ∀ v, assign (.Subscript (.Name x px) i ps) X.env v = (do
      let ov ← holding [v] (eval (.Name x px) X.env)
      let iv ← holding [v, ov] (eval i X.env)
      standAt ps
      holding [v, ov, iv] (setItem ov iv v)
      release [v, ov, iv] []) := by exact fun _ => rfl) : DS X c ρ (.Assign [.Subscript (.Name x px) i ps] e pos :: rest) E :=
  ds_of (pss_cons (ps_asg (pe_w X) (pg_sub (pe_var hN hv hdb hcd) (pe_w X) set_list (ha := ha)) hs hw h1) (pss_w X)) fun σ B H S D q => he σ B H S _ fun v B1 H1 s1 r1 => by
    obtain ⟨r, xs, e, hr, rr⟩ := ev_own h (S.stp s1)
    refine ⟨.ref r, e, hi σ B1 H1 (S.stp s1) _ fun y B2 H2 s2 ry => ?_⟩
    cases ry
    exact ⟨r, xs, k, j, rfl, rfl, s2.h _ _ hr, by rw [rr.length]; exact hj, kk σ B2 _ (((S.stp s1).stp s2).chg h e (RpL.set (r1.mono s2.b) j (rr.mono s2.b))) D (q.up (s1.b.trans s2.b))⟩
/-! ### a dict of the module, its keys texts -/
/-- EIGHTHS -/
structure GEi (K : PySem.W.Frag) (w : World) (d : Addr) : Prop where
  ex : ∃ es n, KDict K w d es n
  at_ : ∀ (z : Str) (v : Int), (z, v) ∈ ([("T", 1), ("S", 2), ("Z", 4), ("CZ", 4), ("W", 1)] : List (Str × Int)) → ∃ t, PySem.W.nsIn K d z = some (some (.int v t))
  no : ∀ (z : Str), z ∈ (["H", "X", "CX"] : List Str) → PySem.W.nsIn K d z = some none
def GE (K : PySem.W.Frag) (w : World) (mg : Str → Option Value) : Prop := ∃ d, mg "EIGHTHS" = some (.ref d) ∧ GEi K w d
theorem dt_inE {z : Str} {r : Bool} {px : Pos} (G : GE X.K X.w X.mg) (ha : DE X c ρ a (.str z)) (hr : (r = true ∧ ∃ v, (z, v) ∈ ([("T", 1), ("S", 2), ("Z", 4), ("CZ", 4), ("W", 1)] : List (Str × Int))) ∨ (r = false ∧ z ∈ (["H", "X", "CX"] : List Str))) (hg : Gl X "EIGHTHS" := by rfl) (hm : behindInMarks .In (.Name "EIGHTHS" px) = false := by rfl) : DT X c ρ (.Compare a [.In] [.Name "EIGHTHS" px] pos) r := by
  obtain ⟨d, hmg, ⟨es, n, kd⟩, h1, h2⟩ := G
  refine dt_of (pt_cmpR (op_in_kd kd) (pe_w X) (pe_glob (v := .ref d) hg hmg rfl) hm) fun σ B H S Q q => ha σ B H S _ fun v B1 H1 s1 r1 => ?_
  cases r1
  rcases hr with ⟨rfl, v, hv⟩ | ⟨rfl, hv⟩
  · obtain ⟨t, ht⟩ := h1 z v hv
    exact ⟨z, _, rfl, rfl, ht, true, rfl, q B1 H1 s1⟩
  · exact ⟨z, _, rfl, rfl, h2 z hv, false, rfl, q B1 H1 s1⟩
theorem de_getE {z : Str} {v : Int} {px : Pos} (G : GE X.K X.w X.mg) (ha : DE X c ρ a (.str z)) (hv : (z, v) ∈ ([("T", 1), ("S", 2), ("Z", 4), ("CZ", 4), ("W", 1)] : List (Str × Int))) (hg : Gl X "EIGHTHS" := by rfl) (hs : PlainIx a := by exact fun _ _ => rfl) : DE X c ρ (.Subscript (.Name "EIGHTHS" px) a pos) (.int v) := by
  obtain ⟨d, hmg, ⟨es, n, kd⟩, h1, h2⟩ := G
  refine de_of (pe_ix ix_kdict (pe_glob (v := .ref d) hg hmg rfl) (pe_w X) hs) fun σ B H S Q q => ha σ B H S _ fun u B1 H1 s1 r1 => ?_
  cases r1
  obtain ⟨t, ht⟩ := h1 z v hv
  exact ⟨d, z, .int v, rfl, rfl, ⟨es, n, _, kd.at_, kd.lit, ht, t, rfl⟩, q _ B1 H1 s1 (.int v)⟩
end
end DD
/-! DD11: the source of draws: what may turn it, a def's promise with it. -/
namespace DD
open PySem PySem.Spec L2
open PyProof.Rows hiding St
open Evl (Ex ex_rd ex_l ex_t fresh_back)
def retinS (m : Nat) : Sl → Sl
  | .tin _ => .tin m
  | s => s
def retin (m : Nat) (ρ : List Sl) : List Sl := ρ.map (retinS m)
theorem retin_retin (m k : Nat) (ρ : List Sl) : retin m (retin k ρ) = retin m ρ := by
  unfold retin
  rw [List.map_map]
  exact List.map_congr_left fun s _ => by cases s <;> rfl
theorem retin_get (m : Nat) (ρ : List Sl) (i : Nat) : (retin m ρ)[i]? = (ρ[i]?).map (retinS m) := List.getElem?_map
theorem TinOk.mono {H : Hp} {a : Addr} {n m : Nat} (h : TinOk H a n) (e : n ≤ m) : TinOk H a m := by
  obtain ⟨x, y, k, h1, h2, h3, h4, h5, h6⟩ := h
  exact ⟨x, y, k, h1, h2, h3, h4, h5, by omega⟩
structure Ty (c : Wd) (B H B' H' : Hp) : Prop where
  b : Ex B B'
  bh : Ex B' H'
  h : ∀ b o, c.ta ≠ some b → H b = some o → H' b = some o
  f : ∀ q, B' q ≠ none → B q ≠ none ∨ H q = none
  t : ∀ a, c.ta = some a → H a ≠ none → H' a ≠ none
section
variable {p : Pr} {c : Wd} {ρ : List Sl} {σ : L2.St} {B H B' H' B1 H1 B2 H2 : Hp}
theorem Stp.ty (s : Stp B H B' H') : Ty c B H B' H' := ⟨s.b, s.bh, fun b o _ e => s.h b o e, s.f, fun a _ h z => h (fresh_back s.h z)⟩
theorem Ty.none (y : Ty c B H B' H') {q : Addr} (h : H' q = none) : H q = none := by
  cases e : H q with
  | none => rfl
  | some o =>
    by_cases z : c.ta = some q
    · exact absurd h (y.t q z (by rw [e]; simp))
    · rw [y.h q o z e] at h; cases h
theorem Ty.trans (a : Ty c B H B1 H1) (b : Ty c B1 H1 B2 H2) : Ty c B H B2 H2 :=
  ⟨a.b.trans b.b, b.bh, fun q o z e => b.h q o z (a.h q o z e), fun q h => by
    rcases b.f q h with z | z
    · exact a.f q z
    · exact .inr (a.none z), fun q z h => b.t q z (a.t q z h)⟩
theorem Sx.ty (S : Sx p c ρ σ B H) (y : Ty c B H B' H') (m : Nat) (ht : ∀ a, c.ta = some a → TinOk H' a m) : Sx p c (retin m ρ) σ B' H' where
  b0 := S.b0.trans y.b
  bh := y.bh
  h0 := fun b o t e => y.h _ _ t (S.h0 b o t e)
  fr := fun q h => by
    rcases y.f q h with z | z
    · exact S.fr q z
    · exact .inr (S.h0n z)
  tk := fun a t => by
    obtain ⟨h1, h2, h3⟩ := S.tk a t
    refine ⟨?_, y.t a t h2, h3⟩
    cases q : B' a with
    | none => rfl
    | some o =>
      rcases y.f a (by rw [q]; simp) with z | z
      · exact absurd h1 z
      · exact absurd z h2
  len := by unfold retin; rw [List.length_map]; exact S.len
  sl := fun i s e => by
    rw [retin_get] at e
    obtain ⟨s0, h0, rfl⟩ := Option.map_eq_some_iff.mp e
    have z := S.sl i s0 h0
    have own : ∀ a, c.H0 a = Option.none → c.ta ≠ some a := fun a h t => (S.tk a t).2.2 h
    have nb : ∀ a o, B a = Option.none → H a = some o → B' a = Option.none := fun a o hb hh => by
      cases q : B' a with
      | none => rfl
      | some o' =>
        rcases y.f a (by rw [q]; simp) with z | z
        · exact absurd hb z
        · rw [hh] at z; cases z
    cases s0 with
    | no => trivial
    | d d =>
      obtain ⟨v, e, r⟩ := z
      exact ⟨v, e, r.mono y.b⟩
    | own ds =>
      obtain ⟨a, xs, e, hb, h0, hh, r⟩ := z
      exact ⟨a, xs, e, nb a _ hb hh, h0, y.h _ _ (own a h0) hh, r.mono y.b⟩
    | seq ds =>
      obtain ⟨a, xs, e, hs, r⟩ := z
      exact ⟨a, xs, e, ex_l y.b hs, r.mono y.b⟩
    | tin n =>
      obtain ⟨a, e, t, _⟩ := z
      exact ⟨a, e, t, ht a t⟩
    | dict kvs =>
      obtain ⟨a, es, e, hb, h0, hh, r⟩ := z
      exact ⟨a, es, e, nb a _ hb hh, h0, y.h _ _ (own a h0) hh, r.mono y.b⟩
  sep := fun i j a hij h1 h2 h3 => by
    have k : ∀ l : Nat, ((retin m ρ)[l]?.map Sl.owned) = some true → (ρ[l]?.map Sl.owned) = some true := fun l h => by
      rw [retin_get, Option.map_map] at h
      rw [← h]
      cases ρ[l]? with
      | none => rfl
      | some s => cases s <;> rfl
    exact S.sep i j a hij (k i h1) (k j h2) h3
theorem Sx.tin {n : Nat} {i : Nat} (S : Sx p c ρ σ B H) (h : ρ[i]? = some (.tin n)) : ∃ a, σ[i]? = some (some (.ref a)) ∧ c.ta = some a ∧ TinOk H a n := S.sl i _ h
end
def EY (p : Pr) (c : Wd) (te : TE) (ρ : List Sl) (m : Nat) (R : PyData → Prop) : Prop := ∀ σ B H, Sx p c ρ σ B H → ∀ Q : VK, (∀ v B' H' d, R d → Ty c B H B' H' → Sx p c (retin m ρ) σ B' H' → Rp p.K B' v d → Q v H') → te σ H Q
def EYA (p : Pr) (c : Wd) (ta : TA) (ρ : List Sl) (m : Nat) (R : List PyData → Prop) : Prop := ∀ σ B H, Sx p c ρ σ B H → ∀ Q : List V → Hp → Prop, (∀ vs B' H' ds, R ds → Ty c B H B' H' → Sx p c (retin m ρ) σ B' H' → RpL p.K B' vs ds → Q vs H') → ta σ H Q
def DY (X : Cx) (c : Wd) (ρ : List Sl) (e : Expr) (m : Nat) (R : PyData → Prop) : Prop := EY X.pr c (wE X e) ρ m R
def DYA (X : Cx) (c : Wd) (ρ : List Sl) (es : List Expr) (m : Nat) (R : List PyData → Prop) : Prop := EYA X.pr c (wA X es) ρ m R
/-- a def that turns the source: the rest of its arguments, how often at most, what comes of it -/
def spY (K : PySem.W.Frag) (F : List PyData → Nat → (PyData → Prop) → Prop) : Sp := fun vs H Q _ => ∃ a vs' B ds n C R, vs = .ref a :: vs' ∧ Ex B H ∧ RpL K B vs' ds ∧ B a = none ∧ TinOk H a n ∧ F ds C R ∧ n + C ≤ 1000000 ∧
  ∀ v B' H' d, R d → Ex B B' → Ex B' H' → (∀ b o, b ≠ a → H b = some o → H' b = some o) → (∀ q, B' q ≠ none → B q ≠ none ∨ H q = none) → B' a = none → TinOk H' a (n + C) → Rp K B' v d → Q v H'
section
variable {X : Cx} {c : Wd} {ρ ρ' : List Sl} {e a b : Expr} {es : List Expr} {d da db : PyData} {ds : List PyData} {pos p p2 : Pos} {m m1 m2 n : Nat} {R R1 P2 : PyData → Prop} {Rs : List PyData → Prop} {rest : List Stmt} {E : EndsD}
theorem dy_of {t : TE} (h : PE X e t) (v : EY X.pr c t ρ m R) : DY X c ρ e m R := fun σ B H S Q q => ⟨t, h, v σ B H S Q q⟩
theorem DE.dy (h : DE X c ρ e d) (hd : R d) (hm : retin m ρ = ρ := by rfl) : DY X c ρ e m R := fun σ B H S Q q => h σ B H S _ fun v B1 H1 s1 r1 => q v B1 H1 d hd s1.ty (by rw [hm]; exact S.stp s1) r1
theorem DY.imp (h : DY X c ρ e m R1) (hr : ∀ d, R1 d → R d) : DY X c ρ e m R := fun σ B H S Q q => h σ B H S Q fun v B' H' d hd => q v B' H' d (hr d hd)
theorem dya_nil (h : Rs []) (hm : retin m ρ = ρ := by rfl) : DYA X c ρ [] m Rs := fun σ B H S Q q => ⟨_, pa_nil, q [] B H [] h (Stp.refl S.bh).ty (by rw [hm]; exact S) .nil⟩
theorem dya_cons (h : DY X c ρ e m1 R1) (hr : ∀ d, R1 d → DYA X c (retin m1 ρ) es m (fun ds => Rs (d :: ds))) (hs : starEach (e :: es) X.env = (false, eval e X.env) :: starEach es X.env := by rfl) : DYA X c ρ (e :: es) m Rs := fun σ B H S Q q =>
  ⟨_, pa_cons (pe_w X) (pa_w X) hs, h σ B H S _ fun v B1 H1 d hd y1 S1 r1 => hr d hd σ B1 H1 S1 _ fun vs B2 H2 ds hds y2 S2 r2 => q (v :: vs) B2 H2 (d :: ds) hds (y1.trans y2) (by rw [retin_retin] at S2; exact S2) (.cons (r1.mono y2.b) r2)⟩
/-- one pure argument, then the rest -/
theorem dya_de (h : DE X c ρ e d) (hr : DYA X c ρ es m (fun ds => Rs (d :: ds))) (hs : starEach (e :: es) X.env = (false, eval e X.env) :: starEach es X.env := by rfl) : DYA X c ρ (e :: es) m Rs := fun σ B H S Q q =>
  ⟨_, pa_cons (pe_w X) (pa_w X) hs, h σ B H S _ fun v B1 H1 s1 r1 => hr σ B1 H1 (S.stp s1) _ fun vs B2 H2 ds hds y2 S2 r2 => q (v :: vs) B2 H2 (d :: ds) hds (s1.ty.trans y2) S2 (.cons (r1.mono y2.b) r2)⟩
/-- f(tin, ..) -/
theorem dy_call {F : List PyData → Nat → (PyData → Prop) → Prop} {x tn : Str} {ps : List Str} {k C : Nat} {px : Pos} (D : DefOk X.prog X.w X.K X.mg X.base x ps k (spY X.K F)) (hr : Room k X.A) (h0 : ρ[0]? = some (.tin n)) (hle : n ≤ m1 := by exact Nat.le_refl _) (ha : DYA X c ρ es m1 Rs) (h : ∀ ds, Rs ds → ∃ R', F ds C R' ∧ ∀ d, R' d → R d) (hC : m1 + C ≤ 1000000)
    (hN : X.N[0]? = some tn := by rfl) (hv : Vis X.env.scope tn := by first | exact Or.inl rfl | exact Or.inr (Or.inl rfl) | exact Or.inr (Or.inr rfl)) (hdb1 : (tn == ("__debug__" : Str)) = false := by decide) (hcd : (tn == ("__classdict__" : Str)) = false := by decide)
    (hg : Gl X x := by rfl) (hdb : (x == ("__debug__" : Str)) = false := by decide)
    (he : starEach (.Name tn px :: es) X.env = (false, eval (.Name tn px) X.env) :: starEach es X.env := by rfl) (hpl : (backTo pos (starEach es X.env)).any (·.1) = false := by rfl) : DY X c ρ (.Call (.Name x p) (.Name tn px :: es) [] pos) (m1 + C) R :=
  dy_of (pe_callD D hr hg (pa_cons (pe_var (i := 0) hN hv hdb1 hcd) (pa_w X) he) hdb he hpl) fun σ B H S Q q => by
    obtain ⟨a, ea, ta, _⟩ := S.tin h0
    refine ⟨.ref a, ea, ha σ B H S _ fun vs B1 H1 ds hds y1 S1 r1 => ?_⟩
    obtain ⟨R', hF, hR⟩ := h ds hds
    have h1 : (retin m1 ρ)[0]? = some (.tin m1) := by rw [retin_get, h0]; rfl
    obtain ⟨a2, ea2, ta2, tin2⟩ := S1.tin h1
    have : a2 = a := by rw [ea] at ea2; cases ea2; rfl
    subst this
    refine ⟨a2, vs, B1, ds, m1, C, R', by rw [List.append_nil], S1.bh, r1, (S1.tk a2 ta2).1, tin2, hF, hC, fun v B' H' d hd e1 e2 hh hf hb ht rv => ?_⟩
    have y2 : Ty c B1 H1 B' H' := ⟨e1, e2, fun b o z => hh b o (fun w => z (by rw [w]; exact ta2)), hf, fun q z _ => by
      rw [ta2] at z; cases z
      obtain ⟨x, y, k, h1, _⟩ := ht
      rw [h1]; simp⟩
    have S2 := S1.ty y2 (m1 + C) (fun q z => by rw [ta2] at z; cases z; exact ht)
    rw [retin_retin] at S2
    exact q v B' H' d (hR d hd) (y1.trans y2) S2 rv
/-- what the stepping to a value does next -/
theorem EY.andThen {t : TE} {f : V → Hp → VK → Prop} (h : EY X.pr c t ρ m R1) (hf : ∀ d v B H (Q : VK), R1 d → Ex B H → Rp X.K B v d → (∀ v' B' H' d', R d' → Stp B H B' H' → Rp X.K B' v' d' → Q v' H') → f v H Q) : EY X.pr c (fun σ H Q => t σ H fun v H1 => f v H1 Q) ρ m R := fun σ B H S Q q =>
  h σ B H S _ fun v B1 H1 d hd y1 S1 r1 => hf d v B1 H1 Q hd S1.bh r1 fun v' B' H' d' hd' st rv => q v' B' H' d' hd' (y1.trans st.ty) (S1.stp st) rv
theorem dy_op {op : Operator} {r : R2} (ho : OpR X (binaryOp op) r) (ha : DY X c ρ a m1 R1) (hb : ∀ d, R1 d → DY X c (retin m1 ρ) b m P2) (h : ∀ da db, R1 da → P2 db → ∃ d, R d ∧ OpD X.K r da db d) : DY X c ρ (.BinOp a op b pos) m R :=
  dy_of (pe_op ho (pe_w X) (pe_w X)) fun σ B H S Q q => ha σ B H S _ fun x B1 H1 da hda y1 S1 r1 => hb da hda σ B1 H1 S1 _ fun y B2 H2 db hdb y2 S2 r2 => by
    obtain ⟨d, hd, hop⟩ := h da db hda hdb
    rw [retin_retin] at S2
    exact hop x y B2 H2 Q S2.bh (r1.mono y2.b) r2 fun v B' H' s3 r3 => q v B' H' d hd ((y1.trans y2).trans s3.ty) (S2.stp s3) r3
/-- the left side pure -/
theorem dy_opR {op : Operator} {r : R2} (ho : OpR X (binaryOp op) r) (ha : DE X c ρ a da) (hb : DY X c ρ b m P2) (h : ∀ db, P2 db → ∃ d, R d ∧ OpD X.K r da db d) : DY X c ρ (.BinOp a op b pos) m R :=
  dy_of (pe_op ho (pe_w X) (pe_w X)) fun σ B H S Q q => ha σ B H S _ fun x B1 H1 s1 r1 => hb σ B1 H1 (S.stp s1) _ fun y B2 H2 db hdb y2 S2 r2 => by
    obtain ⟨d, hd, hop⟩ := h db hdb
    exact hop x y B2 H2 Q S2.bh (r1.mono y2.b) r2 fun v B' H' s3 r3 => q v B' H' d hd ((s1.ty.trans y2).trans s3.ty) (S2.stp s3) r3
theorem dy_cmpL {op : CmpOp} {r : R2} (ho : OpR X (compareOp op) r) (ha : DY X c ρ a m R1) (hb : DE X c (retin m ρ) b db) (h : ∀ da, R1 da → ∃ d, R d ∧ OpD X.K r da db d) (hm : behindInMarks op b = false := by first | exact nomark _ | rfl) : DY X c ρ (.Compare a [op] [b] pos) m R :=
  dy_of (pe_cmpR ho (pe_w X) (pe_w X) hm) fun σ B H S Q q => ha σ B H S _ fun x B1 H1 da hda y1 S1 r1 => hb σ B1 H1 S1 _ fun y B2 H2 s2 r2 => by
    obtain ⟨d, hd, hop⟩ := h da hda
    exact hop x y B2 H2 Q s2.bh (r1.mono s2.b) r2 fun v B' H' s3 r3 => q v B' H' d hd ((y1.trans s2.ty).trans s3.ty) ((S1.stp s2).stp s3) r3
theorem dy_tup {x1} (h : DYA X c ρ es m Rs) (hR : ∀ ds, Rs ds → R (.tuple ds) ∧ ds.length ≤ 100000) : DY X c ρ (.Tuple es x1 pos) m R :=
  dy_of (pe_tup (pa_w X)) fun σ B H S Q q => h σ B H S _ fun vs B1 H1 ds hds y1 S1 r1 => ⟨by rw [r1.length]; exact line_of (hR ds hds).2, fun p hp => by
    have s2 := Stp.new S1.bh (.tup vs) hp
    exact q _ _ _ (.tuple ds) (hR ds hds).1 (y1.trans s2.ty) (S1.stp s2) (.tup (SqT.of upd_same) (r1.mono (Ex.new (free_of S1.bh hp))))⟩
theorem dy_lst (h : DYA X c ρ es m Rs) (hR : ∀ ds, Rs ds → R (.list ds) ∧ ds.length ≤ 100000) : DY X c ρ (.List es pos) m R :=
  dy_of (pe_lst (pa_w X)) fun σ B H S Q q => h σ B H S _ fun vs B1 H1 ds hds y1 S1 r1 => ⟨by rw [r1.length]; exact line_of (hR ds hds).2, fun p hp => by
    have s2 := Stp.new S1.bh (.lst vs) hp
    exact q _ _ _ (.list ds) (hR ds hds).1 (y1.trans s2.ty) (S1.stp s2) (.lst upd_same (r1.mono (Ex.new (free_of S1.bh hp))))⟩
theorem dy_cb {r : List V → Hp → VK → Prop} {x : Str} {ta : TA} (h : EYA X.pr c ta ρ m Rs) (hf : ∀ ds vs B H (Q : VK), Rs ds → Ex B H → RpL X.K B vs ds → (∀ v B' H' d, R d → Stp B H B' H' → Rp X.K B' v d → Q v H') → r vs H Q) : EY X.pr c (tCB r ta) ρ m R := fun σ B H S Q q =>
  h σ B H S _ fun vs B1 H1 ds hds y1 S1 r1 => hf ds vs B1 H1 Q hds S1.bh r1 fun v B' H' d hd st rv => q v B' H' d hd (y1.trans st.ty) (S1.stp st) rv
theorem dya_one (h : DY X c ρ a m R1) (hs : starEach [a] X.env = (false, eval a X.env) :: starEach [] X.env := by rfl) : DYA X c ρ [a] m (fun ds => ∃ d, ds = [d] ∧ R1 d) := fun σ B H S Q q =>
  ⟨_, pa_cons (pe_w X) (pa_w X) hs, h σ B H S _ fun v B1 H1 d hd y1 S1 r1 => ⟨_, pa_nil, q [v] B1 H1 [d] ⟨d, rfl, hd⟩ y1 S1 (.cons r1 .nil)⟩⟩
theorem dy_tupL (hm : X.mg "tuple" = none) (ha : DY X c ρ a m R1) (h : ∀ d, R1 d → ∃ ds, d = .list ds ∧ R (.tuple ds)) (hg : Gl X "tuple" := by rfl) (hs : starEach [a] X.env = (false, eval a X.env) :: starEach [] X.env := by rfl) : DY X c ρ (.Call (.Name "tuple" p) [a] [] pos) m R :=
  dy_of (pe_callTy call_tuple_of hg hm (by decide +kernel) (pa_w X) (by decide) (by decide) hs rfl) (dy_cb (x := "") (dya_one ha hs) fun ds vs B H Q hds e r0 q => by
    obtain ⟨d, rfl, hd⟩ := hds
    obtain ⟨ds, rfl, hR⟩ := h d hd
    obtain ⟨v, rfl, r⟩ := rp1 r0
    cases r with
    | lst h r => exact ⟨_, _, rfl, .inl ⟨SqL.of (e _ _ h), fun l hl => q _ _ _ _ hR (Stp.new e _ hl) (.tup (SqT.of upd_same) (r.mono (Ex.new (free_of e hl))))⟩⟩)
theorem dy_sorted (hm : X.mg "sorted" = none) (ha : DY X c ρ a m R1) (h : ∀ d, R1 d → ∃ ns : List Int, d = .list (ns.map .int) ∧ ∀ ms : List Int, ms.Perm ns → ms.Pairwise (· ≤ ·) → R (.list (ms.map .int))) (hg : Gl X "sorted" := by rfl) (hs : starEach [a] X.env = (false, eval a X.env) :: starEach [] X.env := by rfl) : DY X c ρ (.Call (.Name "sorted" p) [a] [] pos) m R :=
  dy_of (pe_callB cr_sortedI hg hm (by decide +kernel) (pa_w X) (by decide) (by decide) hs rfl) (dy_cb (x := "") (dya_one ha hs) fun ds vs B H Q hds e r0 q => by
    obtain ⟨d, rfl, hd⟩ := hds
    obtain ⟨ns, rfl, hR⟩ := h d hd
    obtain ⟨v, rfl, r⟩ := rp1 r0
    cases r with
    | lst h r =>
      have := r.ints
      subst this
      exact ⟨_, ns, rfl, SqL.of (e _ _ h), fun ms l h1 h2 hl => q _ _ _ _ (hR ms h1 h2) (Stp.new e _ hl) (.lst upd_same (.of_ints ms))⟩)
theorem dy_intB (hm : X.mg "int" = none) (ha : DY X c ρ a m R1) (h : ∀ d, R1 d → ∃ k : Bool, d = .bool k ∧ R (.int (if k = true then 1 else 0))) (hg : Gl X "int" := by rfl) (hs : starEach [a] X.env = (false, eval a X.env) :: starEach [] X.env := by rfl) : DY X c ρ (.Call (.Name "int" p) [a] [] pos) m R :=
  dy_of (pe_callTy call_int1 hg hm (by decide +kernel) (pa_w X) (by decide) (by decide) hs rfl) (dy_cb (x := "") (dya_one ha hs) fun ds vs B H Q hds e r0 q => by
    obtain ⟨d, rfl, hd⟩ := hds
    obtain ⟨k, rfl, hR⟩ := h d hd
    obtain ⟨v, rfl, r⟩ := rp1 r0
    cases r
    exact .inr ⟨k, rfl, q _ B H _ hR (Stp.refl e) (.int _)⟩)
/-- list[draw] -/
theorem dy_ix (ha : DE X c ρ a (.list ds)) (hb : DY X c ρ b m R1) (h : ∀ d, R1 d → ∃ i d', d = .int i ∧ atI ds i = some d' ∧ R d') (hs : PlainIx b := by exact fun _ _ => rfl) : DY X c ρ (.Subscript a b pos) m R :=
  dy_of (pe_ix ix_list (pe_w X) (pe_w X) hs) fun σ B H S Q q => ha σ B H S _ fun x B1 H1 s1 r1 => hb σ B1 H1 (S.stp s1) _ fun y B2 H2 d hd y2 S2 r2 => by
    obtain ⟨i, d', rfl, hat, hR⟩ := h d hd
    cases r2
    cases r1 with
    | lst h1 r1 =>
      obtain ⟨v, hv, rv⟩ := atI_rp r1 hat
      exact ⟨_, _, i, v, rfl, rfl, SqL.of (S2.bh _ _ (y2.b _ _ h1)), hv, q v B2 H2 d' hR (s1.ty.trans y2) S2 (rv.mono y2.b)⟩
/-! ### statements -/
theorem ds_setY (i : Nat) {x : Str} {px : Pos} (he : DY X c ρ e m R) (k : ∀ d, R d → DS X c ((retin m ρ).set i (.d d)) rest E) (hN : X.N.Nodup) (hi : X.N[i]? = some x := by rfl) (hx : Loc X.env.scope x := by first | exact Or.inl rfl | exact Or.inr rfl)
    (hs : swapsWith e (some (.Name x px)) pos.line X.env = pure false := by rfl) (hf : X.fn x = true ∨ X.env.scope.names.lookup x = some .local := by first | exact .inl rfl | exact .inr rfl) : DS X c ρ (.Assign [.Name x px] e pos :: rest) E :=
  ds_of (pss_cons (ps_set hN hi hx (pe_w X) hs hf) (pss_w X)) fun σ B H S D q => he σ B H S _ fun v B1 H1 d hd y1 S1 r1 => k d hd (σ.set i (some v)) B1 H1 (S1.putD r1) D (q.up y1.b)
theorem ds_retY (he : DY X c ρ e m R) (h : ∀ d, R d → E.rt d (retin m ρ)) : DS X c ρ (.Return (some e) pos :: rest) E :=
  ds_of (pss_cons (ps_ret (pe_w X)) (pss_w X)) fun σ B H S D q => he σ B H S _ fun v B1 H1 d hd y1 S1 r1 => q.rt d v _ σ B1 H1 (h d hd) y1.b S1 r1
theorem ds_unpY {tg : Expr} (he : DY X c ρ e m R) (k : ∀ d, R d → ∃ ρ' js, DG X c (retin m ρ) tg d ρ' js ∧ DS X c ρ' rest E) (hs : swapsWithSole [tg] e pos.line X.env = pure false := by rfl) (hw : swappedStores [tg] e X.env = pure none := by rfl) (h1 : (assignEach [tg] X.env).map (·.2) = [assign tg X.env] := by rfl) : DS X c ρ (.Assign [tg] e pos :: rest) E :=
  ds_of (pss_cons (ps_asg (pe_w X) pg_w hs hw h1) (pss_w X)) fun σ B H S D q => he σ B H S _ fun v B1 H1 d hd y1 S1 r1 => by
    obtain ⟨ρ', js, hg, k⟩ := k d hd
    exact hg σ B1 H1 v S1 r1 _ fun σ' _ S' => k σ' B1 H1 S' D (q.up y1.b)
theorem ds_parY (i j : Nat) {x y : Str} {px py pt : Pos} {kt k2 pt2} (ha : DYA X c ρ [a, b] m Rs) (k : ∀ ds, Rs ds → ∃ da db, ds = [da, db] ∧ DS X c (((retin m ρ).set i (.d da)).set j (.d db)) rest E) (hN : X.N.Nodup)
    (hw : swappedStores [.Tuple [.Name x px, .Name y py] kt pt] (.Tuple [a, b] k2 pt2) X.env = pure (some [x, y])) (hi : X.N[i]? = some x := by rfl) (hj : X.N[j]? = some y := by rfl) (hij : i ≠ j := by decide)
    (hx : X.env.scope.names.lookup x = some .local := by rfl) (hy : X.env.scope.names.lookup y = some .local := by rfl) (hc : X.calm = true := by rfl)
    (hs : swapsWithSole [.Tuple [.Name x px, .Name y py] kt pt] (.Tuple [a, b] k2 pt2) pos.line X.env = pure false := by rfl) : DS X c ρ (.Assign [.Tuple [.Name x px, .Name y py] kt pt] (.Tuple [a, b] k2 pt2) pos :: rest) E :=
  ds_of (pss_cons (ps_par hc hN hi hj hij hx hy (pa_w X) hw hs) (pss_w X)) fun σ B H S D q => ha σ B H S _ fun vs B1 H1 ds hds y1 S1 r1 => by
    obtain ⟨da, db, rfl, k⟩ := k ds hds
    obtain ⟨v, w, rfl, r, r2⟩ := rp2 r1
    exact ⟨v, w, rfl, k _ B1 H1 ((S1.putD r).putD r2) D (q.up y1.b)⟩
/-- if draw .. -/
theorem ds_ifY {A Bs : List Stmt} (M : List Sl → Prop) (ht : DY X c ρ e m (fun d => ∃ k : Bool, d = .bool k)) (h1 : DS X c (retin m ρ) A (E.then M)) (h2 : DS X c (retin m ρ) Bs (E.then M)) (k3 : ∀ ρ', M ρ' → DS X c ρ' rest E) (he : ∀ whole, isTrue e X.env whole = (do let v ← whole; standAt e.pos; holding [v] (truthy v)) := by intro _; rfl) : DS X c ρ (.If e A Bs pos :: rest) E :=
  ds_of (pss_cons (ps_if (pt_val (pe_w X) he) (pss_w X) (pss_w X)) (pss_w X)) fun σ B H S D q => ht σ B H S _ fun v B1 H1 d hd y1 S1 r1 => by
    obtain ⟨k, rfl⟩ := hd
    cases r1
    have q2 : EndsOk X.pr c B1 (E.then M) { D with nx := wSs X rest D } := (q.up y1.b).then fun ρ' σ' B' H' m e' S' => k3 ρ' m σ' B' H' S' D ((q.up y1.b).up e')
    refine ⟨k, rfl, ?_⟩
    cases k with
    | true => exact iteT (h1 σ B1 H1 S1 _ q2)
    | false => exact iteF (h2 σ B1 H1 S1 _ q2)
/-- found.append(pool.pop(draw)) -/
theorem ds_appPop {x y : Str} {px ap cp py ap2 cp2 : Pos} (n1 n2 : Nat) {ds es : List PyData} (hf : ρ[n1]? = some (.own ds)) (hp : ρ[n2]? = some (.own es)) (hne : n1 ≠ n2) (he : DY X c ρ e m R) (h : ∀ d, R d → ∃ (j : Nat) (u : PyData), d = .int j ∧ es[j]? = some u ∧ DS X c (((retin m ρ).set n2 (.own (es.eraseIdx j))).set n1 (.own (ds ++ [u]))) rest E) (hz : ds.length < 100000) (hz2 : es.length < 100000) (hN : X.N[n1]? = some x := by rfl) (hN2 : X.N[n2]? = some y := by rfl)
    (hv : Vis X.env.scope x := by first | exact Or.inl rfl | exact Or.inr (Or.inl rfl) | exact Or.inr (Or.inr rfl)) (hdb : (x == ("__debug__" : Str)) = false := by decide) (hcd : (x == ("__classdict__" : Str)) = false := by decide)
    (hv2 : Vis X.env.scope y := by first | exact Or.inl rfl | exact Or.inr (Or.inl rfl) | exact Or.inr (Or.inr rfl)) (hdb2 : (y == ("__debug__" : Str)) = false := by decide) (hcd2 : (y == ("__classdict__" : Str)) = false := by decide)
    (hbase : attributeBase (.Name x px) "append" X.env (eval (.Name x px) X.env) = eval (.Name x px) X.env := by rfl) (hbase2 : attributeBase (.Name y py) "pop" X.env (eval (.Name y py) X.env) = eval (.Name y py) X.env := by rfl)
    (hfew : ((backTo cp (starEach [.Call (.Attribute (.Name y py) "pop" ap2) [e] [] cp2] X.env)).all (fun x => !x.1) && (backToKw cp (keywordEach [] X.env)).all (fun x => x.1.isSome) && decide (([.Call (.Attribute (.Name y py) "pop" ap2) [e] [] cp2] : List Expr).length + ([] : List Keyword).length + (if ([] : List Keyword).isEmpty then 0 else 1) < 30)) = true := by rfl)
    (hfew2 : ((backTo cp2 (starEach [e] X.env)).all (fun x => !x.1) && (backToKw cp2 (keywordEach [] X.env)).all (fun x => x.1.isSome) && decide (([e] : List Expr).length + ([] : List Keyword).length + (if ([] : List Keyword).isEmpty then 0 else 1) < 30)) = true := by rfl)
    (hline : (ap.endLine == cp.line) = true := by rfl) (hline2 : (ap2.endLine == cp2.line) = true := by rfl)
    (hs : starEach [.Call (.Attribute (.Name y py) "pop" ap2) [e] [] cp2] X.env = (false, eval (.Call (.Attribute (.Name y py) "pop" ap2) [e] [] cp2) X.env) :: starEach [] X.env := by rfl) (hs2 : starEach [e] X.env = (false, eval e X.env) :: starEach [] X.env := by rfl)
    (hsw : swapsWith (.Call (.Attribute (.Name x px) "append" ap) [.Call (.Attribute (.Name y py) "pop" ap2) [e] [] cp2] [] cp) none pos.line X.env = pure false := by rfl) :
    DS X c ρ (.Expr (.Call (.Attribute (.Name x px) "append" ap) [.Call (.Attribute (.Name y py) "pop" ap2) [e] [] cp2] [] cp) pos :: rest) E :=
  ds_of (pss_cons (ps_expr (pe_bm PySem.F.plainAttrs_list PySem.F.slot_list_append PySem.F.type_list_append mt_append (pe_var hN hv hdb hcd) (pa_cons (pe_bm PySem.F.plainAttrs_list PySem.F.slot_list_pop PySem.F.type_list_pop mt_popAt (pe_var hN2 hv2 hdb2 hcd2) (pa_cons (pe_w X) pa_nil hs2) hbase2 hfew2 hline2 hs2 rfl) pa_nil hs) hbase hfew hline hs rfl) hsw) (pss_w X)) fun σ B H S D q => by
    obtain ⟨r, xs, e, hr, rr⟩ := ev_own hf S
    obtain ⟨r2, xs2, e2, hr2, rr2⟩ := ev_own hp S
    refine ⟨.ref r, e, .inl ⟨rfl, xs, SqL.of hr⟩, .ref r2, e2, .inl ⟨rfl, xs2, SqL.of hr2⟩, he σ B H S _ fun v B1 H1 d hd y1 S1 r1 => ?_⟩
    obtain ⟨j, u, rfl, hu, k⟩ := h d hd
    cases r1
    have hf1 : (retin m ρ)[n1]? = some (.own ds) := by rw [retin_get, hf]; rfl
    have hp1 : (retin m ρ)[n2]? = some (.own es) := by rw [retin_get, hp]; rfl
    obtain ⟨q2, ys2, e2', hq2, rq2⟩ := ev_own hp1 S1
    rw [e2] at e2'
    cases e2'
    obtain ⟨w, hw, rw'⟩ := rq2.get hu
    have jl : j < ys2.length := (List.getElem?_eq_some_iff.mp hw).1
    have yl : ys2.length < 100000 := by rw [rq2.length]; exact hz2
    have hsi : seqIndex? (j : Int) ys2.length = some j := (ixN_seq (by unfold ixN; rw [if_pos (by omega), if_pos (by omega), Int.toNat_natCast])).1
    refine ⟨r2, ys2, j, j, w, rfl, rfl, hq2, by omega, by omega, hsi, hw, ?_⟩
    have S2 := S1.chg hp1 e2 (rq2.erase j)
    have hf2 : ((retin m ρ).set n2 (.own (es.eraseIdx j)))[n1]? = some (.own ds) := by rw [List.getElem?_set_ne (Ne.symm hne)]; exact hf1
    obtain ⟨q1, ys1, e1', hq1, rq1⟩ := ev_own hf2 S2
    rw [e] at e1'
    cases e1'
    exact ⟨r, ys1, w, rfl, rfl, hq1, by rw [rq1.length]; exact line_lt hz, k σ B1 _ (S2.chg hf2 e (rq1.append (.cons rw' .nil))) D (q.up y1.b)⟩
end
/-! ### a def's promise -/
def TinLe (m : Nat) (ρ : List Sl) : Prop := ∃ n, ρ[0]? = some (.tin n) ∧ n ≤ m
def endY (m : Nat) (R : PyData → Prop) : EndsD := { nx := fun ρ' => R .none ∧ TinLe m ρ', rt := fun d ρ' => R d ∧ TinLe m ρ' }
section
variable {P : Program} {w : World} {K : PySem.W.Frag} {mg : Str → Option Value} {base : Heap}
theorem startY_sx {B H : Hp} {a : Addr} {n : Nat} {vs : List V} {ds : List PyData} {x : Str} (N : List Str) (e : Ex B H) (r : RpL K B vs ds) (hb : B a = none) (ht : TinOk H a n) : Sx ⟨P, w, K⟩ ⟨B, H, some a⟩ (.tin n :: startR N.length ds) (L2.start (x :: N) (.ref a :: vs)) B H where
  b0 := Ex.refl B
  bh := e
  h0 := fun b o _ h => h
  fr := fun q h => .inl h
  tk := fun b h => by
    cases h
    obtain ⟨x, y, k, h1, _⟩ := ht
    exact ⟨hb, by rw [h1]; simp, by show H a ≠ none; rw [h1]; simp⟩
  len := by
    have := r.some (N := N)
    unfold L2.start at this ⊢
    simp only [List.length_append, List.length_map, List.length_replicate, List.length_cons] at this ⊢
    omega
  sl := fun i s h => by
    have e2 : L2.start (x :: N) (.ref a :: vs) = some (.ref a) :: L2.start N vs := by
      unfold L2.start
      rw [List.map_cons, List.length_cons, List.length_cons, Nat.add_sub_add_right]
      rfl
    rw [e2]
    cases i with
    | zero =>
      have h : some (Sl.tin n) = some s := h
      cases h
      exact ⟨a, rfl, rfl, ht⟩
    | succ i =>
      rw [List.getElem?_cons_succ] at h
      have z := (startR_sx (P := P) (w := w) (K := K) N e r).sl i s h
      rw [List.getElem?_cons_succ]
      cases s with
      | no => trivial
      | d d => exact z
      | own ds =>
        exfalso
        unfold startR at h
        rcases List.mem_append.mp (List.mem_of_getElem? h) with q | q
        · obtain ⟨_, _, q⟩ := List.mem_map.mp q; cases q
        · cases List.eq_of_mem_replicate q
      | seq ds => exact z
      | tin n =>
        obtain ⟨_, _, z, _⟩ := z
        cases z
      | dict kvs =>
        exfalso
        unfold startR at h
        rcases List.mem_append.mp (List.mem_of_getElem? h) with q | q
        · obtain ⟨_, _, q⟩ := List.mem_map.mp q; cases q
        · cases List.eq_of_mem_replicate q
  sep := fun i j b _ h1 => by
    exfalso
    cases i with
    | zero => cases h1
    | succ i =>
      rw [List.getElem?_cons_succ] at h1
      cases q : (startR N.length ds)[i]? with
      | none => rw [q] at h1; cases h1
      | some s =>
        rw [q] at h1
        unfold startR at q
        rcases List.mem_append.mp (List.mem_of_getElem? q) with z | z
        · obtain ⟨_, _, rfl⟩ := List.mem_map.mp z; cases h1
        · rw [List.eq_of_mem_replicate z] at h1; cases h1
theorem at_defY {x y : Str} {st : Stmt} {ps N : List Str} {k : Nat} (T : At K mg x st (y :: ps)) (F : List PyData → Nat → (PyData → Prop) → Prop) (S : FnScope (y :: N) (y :: ps) (defScope st)) (hl : ∀ ds C R, F ds C R → ds.length = ps.length)
    (h : ∀ (f : Addr) (cdv : Value) (A : Around) (outer : List Env) (s : Shared) (H : Hp) (E : XK), Room k (A.deeper (envOfC x (defScope st) s.heap.objs.size f cdv)) → ∀ (c : Wd) (ds : List PyData) (n C : Nat) (R : PyData → Prop), F ds C R → n + C ≤ 1000000 →
      DS (cxD P w K mg base (y :: N) x st f cdv A outer s H E) c (.tin n :: startR N.length ds) (defBody st) (endY (n + C) R)) : DefOk P w K mg base x (y :: ps) (k + 1) (spY K F) := by
  obtain ⟨f, fd, Fn, hm, hb⟩ := T.ex
  refine ⟨f, fd, Fn.ok S (fun vs H Q E z => ?_) (fun cdv A outer s H vs Q E hr z => ?_), hm, Fn.kp, hb⟩
  · obtain ⟨a, vs', B, ds, n, C, R, rfl, _, r, _, _, hF, _⟩ := z
    rw [List.length_cons, List.length_cons, r.length, hl ds C R hF]
  · obtain ⟨a, vs', B, ds, n, C, R, rfl, e, r, hb, ht, hF, hn, q⟩ := z
    have fin : ∀ d v ρ' σ' B' H', R d → TinLe (n + C) ρ' → Sx ⟨P, w, K⟩ ⟨B, H, some a⟩ ρ' σ' B' H' → Rp K B' v d → Q v H' := fun d v ρ' σ' B' H' hR hT S' rv => by
      obtain ⟨n', hn', hle⟩ := hT
      obtain ⟨a', _, ta, ht'⟩ := S'.tin hn'
      cases ta
      exact q v B' H' d hR S'.b0 S'.bh (fun b o z hh => S'.h0 b o (fun w => z (by cases w; rfl)) hh) S'.fr (S'.tk a rfl).1 (ht'.mono hle) rv
    refine ⟨_, pss_w _, h f cdv A outer s H E hr ⟨B, H, some a⟩ ds n C R hF hn _ B H (startY_sx N e r hb ht) _ ⟨fun ρ' σ' B' H' z _ S' => ?_, fun d' v ρ' σ' B' H' z _ S' rv => ?_, fun _ _ _ _ z => z.elim, fun _ _ _ _ z => z.elim⟩⟩
    · exact fin .none .non ρ' σ' B' H' z.1 z.2 S' .non
    · exact fin d' v ρ' σ' B' H' z.1 z.2 S' rv
end
end DD
/-! DD12: comprehensions and loops that draw; the drawing def itself; a def that gives a new list. -/
namespace DD
open PySem PySem.Spec L2
open PyProof.Rows hiding St
open Evl (Ex ex_rd ex_l ex_t fresh_back)
section
variable {X : Cx} {c : Wd} {ρ ρ' : List Sl} {tg iter elt e a b : Expr} {es : List Expr} {d da db : PyData} {ds items : List PyData} {pos p p2 : Pos} {m m1 n C : Nat} {R R1 P2 : PyData → Prop} {rest : List Stmt} {E : EndsD} {scope : Scope} {own : List (Str × Nat)}
theorem TinOk.ne {H : Hp} {a : Addr} {n : Nat} (h : TinOk H a n) : H a ≠ none := by
  obtain ⟨x, y, k, h1, _⟩ := h
  rw [h1]; simp
theorem TinOk.upd {H : Hp} {a q : Addr} {n : Nat} {o : HO} (h : TinOk H a n) (hq : a ≠ q) : TinOk (L2.upd H q o) a n := by
  obtain ⟨x, y, k, h1, h2⟩ := h
  exact ⟨x, y, k, by rw [upd_ne hq]; exact h1, h2⟩
theorem ev_lcY {vs : List Nat} (h0 : ρ[0]? = some (.tin n)) (hi : DI X c ρ tg iter items) (hz : items.length ≤ 50000) (ρf : Nat → PyData → List Sl) (js : List Nat) (hjs : ∀ j ∈ js, j ∈ vs) (h0f : ∀ i x, ∃ k, (ρf i x)[0]? = some (.tin k))
    (h : ∀ (i : Nat) (x : PyData), items[i]? = some x → ∀ (s : Shared) (H' : Hp) (C' : Addr) (cl : List (Str × Addr)) (fp : List Addr), DG (X.blk s H' scope (compEnvC scope cl C' X.env) fp) c (wipeR (retin (n + i * C) ρ) vs) tg x (ρf i x) js ∧ DY (X.blk s H' scope (compEnvC scope cl C' X.env) fp) c (ρf i x) elt (n + (i + 1) * C) P2)
    (hR : ∀ ds, ds.length = items.length → (∀ d ∈ ds, P2 d) → R (.list ds)) : EY X.pr c (tLc (wI X tg iter) (bG X scope tg) (bT X scope []) (bE X scope elt) vs) ρ (n + items.length * C) R := fun σ B H S Q q => by
  refine hi σ B H S _ fun J B1 H1 s1 hw Dl hD => ?_
  have S1 := S.stp s1
  obtain ⟨ta, _, hta, htin⟩ := S1.tin h0
  have hb1 : B1 Dl = none := free_of s1.bh hD
  have hne : ta ≠ Dl := fun w => htin.ne (w ▸ hD)
  refine lc_it hw (fun i H' => ∃ B' acc ds, Ty c B1 H1 B' H' ∧ TinOk H' ta (n + i * C) ∧ B' Dl = none ∧ H' Dl = some (.lst acc) ∧ RpL X.K B' acc ds ∧ ds.length = i ∧ ∀ d ∈ ds, P2 d) ⟨B1, [], [], (stp_new0 s1.bh _ hD).ty, (htin.upd hne).mono (by omega), hb1, upd_same, .nil, rfl, by simp⟩ (fun i H' _ pp => ?_) (fun i x H' H'' hlt pp y => ?_) (fun H' pp => ?_)
  · obtain ⟨B', acc, ds, st, _⟩ := pp
    exact st.b.trans st.bh
  · obtain ⟨B', acc, ds, st, tk, hbD, hD', ra, hl, hP⟩ := pp
    obtain ⟨B2, d, hd, st2, rx⟩ := y B' st.b st.bh
    have tin2 : ∀ a, c.ta = some a → TinOk H'' a (n + i * C) := fun a ha => by
      rw [hta] at ha; cases ha
      obtain ⟨x, y, k, h1, h2⟩ := tk
      exact ⟨x, y, k, st2.h _ _ h1, h2⟩
    have y2 : Ty c B1 H1 B2 H'' := st.trans st2.ty
    have S2 := S1.ty y2 (n + i * C) tin2
    have hbD2 : B2 Dl = none := by
      cases z : B2 Dl with
      | none => rfl
      | some o =>
        rcases st2.f Dl (by rw [z]; simp) with k | k
        · exact absurd hbD k
        · rw [hD'] at k; cases k
    have hD2 : H'' Dl = some (.lst acc) := st2.h _ _ hD'
    show bG X scope tg x (wipe σ vs) H'' _
    intro sA HA CA clA fpA
    refine (h i d hd sA HA CA clA fpA).1 (wipe σ vs) B2 H'' x (S2.wipe vs) rx _ fun σ2 off S3 => ⟨off.wipe hjs, ?_⟩
    show bT X scope [] σ2 H'' _
    intro sB HB CB clB fpB
    refine dts_nil (X := X.blk sB HB scope (compEnvC scope clB CB X.env) fpB) (c := c) (ρ := ρf i d) σ2 B2 H'' S3 _ fun B3 H3 st3 => ?_
    refine iteT ?_
    show bE X scope elt σ2 H3 _
    intro sC HC CC clC fpC
    have hD3 : H3 Dl = some (.lst acc) := st3.h _ _ hD2
    have hbD3 : B3 Dl = none := by
      cases z : B3 Dl with
      | none => rfl
      | some o =>
        rcases st3.f Dl (by rw [z]; simp) with k | k
        · exact absurd hbD2 k
        · rw [hD2] at k; cases k
    refine (h i d hd sC HC CC clC fpC).2 σ2 B3 H3 (S3.stp st3) _ fun v B4 H4 d4 hd4 y4 S4 rv => ?_
    have hD4 : H4 Dl = some (.lst acc) := y4.h _ _ (fun w => hne (by rw [hta] at w; cases w; rfl)) hD3
    have hbD4 : B4 Dl = none := by
      cases z : B4 Dl with
      | none => rfl
      | some o =>
        rcases y4.f Dl (by rw [z]; simp) with k | k
        · exact absurd hbD3 k
        · rw [hD3] at k; cases k
    obtain ⟨k0, hk0⟩ := h0f i d
    have h04 : (retin (n + (i + 1) * C) (ρf i d))[0]? = some (.tin (n + (i + 1) * C)) := by rw [retin_get, hk0]; rfl
    obtain ⟨ta2, _, hta2, htin4⟩ := S4.tin h04
    have : ta2 = ta := by rw [hta] at hta2; cases hta2; rfl
    subst this
    have y14 : Ty c B1 H1 B4 H4 := (y2.trans st3.ty).trans y4
    have la : acc.length ≤ 50000 := by
      rw [ra.length]
      omega
    refine ⟨acc, hD4, line_lt (by omega), B4, acc ++ [v], ds ++ [d4], ⟨y14.b, fun b' o' e' => ?_, fun b' o' t' e' => ?_, y14.f, fun q' t' h' => ?_⟩, htin4.upd hne, hbD4, upd_same, (ra.mono ((st2.b.trans st3.b).trans y4.b)).append (.cons rv .nil), by rw [List.length_append, hl]; rfl, fun z hz => ?_⟩
    · rw [upd_ne (fun w => by rw [w, hbD4] at e'; cases e')]
      exact y14.bh b' o' e'
    · rw [upd_ne (fun w => by rw [w, hD] at e'; cases e')]
      exact y14.h b' o' t' e'
    · by_cases w : q' = Dl
      · rw [w, upd_same]; simp
      · rw [upd_ne w]; exact y14.t q' t' h'
    · rcases List.mem_append.mp hz with w | w
      · exact hP z w
      · rw [List.mem_singleton] at w; subst w; exact hd4
  · obtain ⟨B', acc, ds, st, tk, hbD, hD', ra, hl, hP⟩ := pp
    have yN : Ty c B H B' H' := s1.ty.trans st
    have hH : H Dl = none := fresh_back s1.h hD
    have yF : Ty c B H (upd B' Dl (.lst acc)) H' := ⟨yN.b.trans (Ex.new hbD), fun b o e => by
      by_cases w : b = Dl
      · subst w; rw [upd_same] at e; cases e; exact hD'
      · rw [upd_ne w] at e; exact yN.bh b o e, yN.h, fun b e => by
      by_cases w : b = Dl
      · subst w; exact .inr hH
      · rw [upd_ne w] at e; exact yN.f b e, yN.t⟩
    exact q (.ref Dl) (upd B' Dl (.lst acc)) H' (.list ds) (hR ds hl hP) yF (S.ty yF (n + items.length * C) (fun a ha => by rw [hta] at ha; cases ha; exact tk)) (.lst upd_same (ra.mono (Ex.new hbD)))
theorem dy_lc (h0 : ρ[0]? = some (.tin n)) (hN : X.N.Nodup) (ok : BlkOk X.N X.env.scope scope own) (hi : DI X c ρ tg iter items) (hz : items.length ≤ 50000) (ρf : Nat → PyData → List Sl) (js : List Nat) (h0f : ∀ i x, ∃ k, (ρf i x)[0]? = some (.tin k))
    (h : ∀ (i : Nat) (x : PyData), items[i]? = some x → ∀ (s : Shared) (H' : Hp) (C' : Addr) (cl : List (Str × Addr)) (fp : List Addr), DG (X.blk s H' scope (compEnvC scope cl C' X.env) fp) c (wipeR (retin (n + i * C) ρ) (own.map (·.2))) tg x (ρf i x) js ∧ DY (X.blk s H' scope (compEnvC scope cl C' X.env) fp) c (ρf i x) elt (n + (i + 1) * C) P2)
    (hR : ∀ ds, ds.length = items.length → (∀ d ∈ ds, P2 d) → R (.list ds)) (hm : m = n + items.length * C) (hjs : ∀ j ∈ js, j ∈ own.map (·.2) := by decide) (hc : X.calm = true := by rfl) (hs : ∀ x, foldedSetIterable iter X.env x = pure x := by intro _; rfl) : DY X c ρ (.ListComp elt [⟨tg, iter, [], 0⟩] scope pos) m R := by
  subst hm
  exact dy_of (pe_lc hc hN (pi_w X) ok (bG_pg X scope tg) (bT_pt X scope []) (bE_pe X scope elt) hs) (ev_lcY h0 hi hz ρf js hjs h0f h hR)
/-- for x in range(draw): each number of turns has its own invariant -/
theorem ds_forY {body : List Stmt} (hm : X.mg "range" = none) (ha : DY X c ρ a m R1) (hr : ∀ d, R1 d → ∃ i : Nat, d = .int i ∧ i < 1000000 ∧ ∃ I : Nat → List Sl → Prop, I 0 (retin m ρ) ∧
      (∀ (k : Nat) (ρ1 : List Sl), k < i → I k ρ1 → ∃ ρ' js, DG X c ρ1 tg (.int k) ρ' js ∧ DS X c ρ' body { E with nx := I (k + 1), ct := I (k + 1), bk := fun ρ' => DS X c ρ' rest E }) ∧ (∀ ρ', I i ρ' → DS X c ρ' rest E))
    (hg : Gl X "range" := by rfl) (hs : starEach [a] X.env = (false, eval a X.env) :: starEach [] X.env := by rfl) (hs1 : starEach [a] X.env = [(false, eval a X.env)] := by rfl)
    (hp : PassesOwn (model X.prog X.w) X.A X.env X.xe := by exact PassesOwn.never) (hc : X.calm = true := by rfl) (hst : ∀ x, foldedSetIterable (.Call (.Name "range" p) [a] [] p2) X.env x = pure x := by intro _; rfl) : DS X c ρ (.For tg (.Call (.Name "range" p) [a] [] p2) body [] pos :: rest) E :=
  ds_of (pss_cons (ps_for hp hc (pi_range1 hg hm (pa_w X) hs1) pg_w (pss_w X) hst) (pss_w X)) fun σ B H S D q => (dya_one ha hs) σ B H S _ fun vs B1 H1 ds hds y1 S1 r1 => by
    obtain ⟨d, rfl, hd⟩ := hds
    obtain ⟨i, rfl, hi, I, h0, hstep, hdone⟩ := hr d hd
    obtain ⟨v, rfl, r⟩ := rp1 r1
    cases r
    refine ⟨(i : Int), rfl, by omega, by omega, ?_⟩
    have hw : Wk X.K (Itr 0 (i : Int).toNat) B1 (upD 0 1 (i : Int).toNat) := wk_range
    refine for_it hw (fun k σ' H' => ∃ B' ρ', Ex B1 B' ∧ Sx X.pr c ρ' σ' B' H' ∧ I k ρ') ⟨B1, _, Ex.refl B1, S1, h0⟩ (fun k σ' H' _ p => ?_) (fun k x σ' H' H'' hlt p y => ?_) (fun σ' H' p => ?_)
    · obtain ⟨B', ρ', e, S', _⟩ := p
      exact e.trans S'.bh
    · obtain ⟨B', ρ1, e, S', hI⟩ := p
      obtain ⟨B2, d, hd, st2, rx⟩ := y B' e S'.bh
      rw [upD_len, Int.toNat_natCast] at hlt
      rw [upD_get (by rw [Int.toNat_natCast]; exact hlt)] at hd
      cases hd
      rw [Int.mul_one, Int.zero_add] at rx
      obtain ⟨ρ', js, hg, hb⟩ := hstep k ρ1 hlt hI
      have e2 := e.trans st2.b
      refine hg σ' B2 H'' x (S'.stp st2) rx _ fun σ2 _ S2 => ?_
      refine hb σ2 B2 H'' S2 _ ⟨fun ρ3 σ3 B3 H3 m e3 S3 => ?_, fun d v ρ3 σ3 B3 H3 m e3 S3 r => q.rt d v ρ3 σ3 B3 H3 m (y1.b.trans (e2.trans e3)) S3 r, fun ρ3 σ3 B3 H3 m e3 S3 => m σ3 B3 H3 S3 D (q.up (y1.b.trans (e2.trans e3))), fun ρ3 σ3 B3 H3 m e3 S3 => ?_⟩
      · exact ⟨B3, ρ3, e2.trans e3, S3, m⟩
      · exact ⟨B3, ρ3, e2.trans e3, S3, m⟩
    · obtain ⟨B', ρ', e, S', hI⟩ := p
      rw [upD_len, Int.toNat_natCast] at hI
      exact hdone ρ' hI σ' B' H' S' D (q.up (y1.b.trans e))
/-! ### a def that gives a new list -/
def spN (K : PySem.W.Frag) (F : List PyData → List PyData → Prop) : Sp := fun vs H Q _ => ∃ B ds es, Ex B H ∧ RpL K B vs ds ∧ F ds es ∧ ∀ a xs B' H', Stp B H B' H' → B' a = none → H a = none → H' a = some (.lst xs) → RpL K B' xs es → Q (.ref a) H'
def DSN (X : Cx) (c : Wd) (ρ : List Sl) (sts : List Stmt) (es : List PyData) : Prop := ∀ σ B H, Sx X.pr c ρ σ B H → ∀ D : Ends, (∀ a xs B' H', Stp B H B' H' → B' a = none → H a = none → H' a = some (.lst xs) → RpL X.K B' xs es → D.rt (.ref a) H') → wSs X sts D σ H
theorem dsn_ret (he : DN X c ρ e ds) : DSN X c ρ (.Return (some e) pos :: rest) ds := fun σ B H S D q => ⟨_, pss_cons (ps_ret (pe_w X)) (pss_w X), he σ B H S _ fun a xs B' H' st hb hn hh r => q a xs B' H' st hb hn hh r⟩
theorem dsn_set (i : Nat) {x : Str} {px : Pos} (he : DE X c ρ e d) (k : DSN X c (ρ.set i (.d d)) rest ds) (hN : X.N.Nodup) (hi : X.N[i]? = some x := by rfl) (hx : Loc X.env.scope x := by first | exact Or.inl rfl | exact Or.inr rfl)
    (hs : swapsWith e (some (.Name x px)) pos.line X.env = pure false := by rfl) (hf : X.fn x = true ∨ X.env.scope.names.lookup x = some .local := by first | exact .inl rfl | exact .inr rfl) : DSN X c ρ (.Assign [.Name x px] e pos :: rest) ds := fun σ B H S D q =>
  ⟨_, pss_cons (ps_set hN hi hx (pe_w X) hs hf) (pss_w X), he σ B H S _ fun v B1 H1 s1 r1 => k (σ.set i (some v)) B1 H1 ((S.stp s1).putD r1) D fun a xs B' H' st hb hn hh r => q a xs B' H' (s1.trans st) hb (fresh_back s1.h hn) hh r⟩
/-- g(f(..)): f gives a new list, g draws from it -/
theorem de_drawn {F : List PyData → Nat → (PyData → Prop) → Prop} {F2 : List PyData → List PyData → Prop} {x y : Str} {ps ps2 : List Str} {k k2 C : Nat} {pp pq : Pos} (D : DefOk X.prog X.w X.K X.mg X.base x ps k (spY X.K F)) (hr : Room k X.A) (D2 : DefOk X.prog X.w X.K X.mg X.base y ps2 k2 (spN X.K F2)) (hr2 : Room k2 X.A)
    (ha : DA X c ρ (a :: es) ds) {i j : Int} (h2 : F2 ds [.int i, .int j, .int 0]) (hi : 0 ≤ i) (hj : 0 ≤ j) (hj2 : j < 2 ^ 62) (hF : F [] C (fun d' => d' = d)) (hd : ∀ B B' v, Rp X.K B v d → Rp X.K B' v d) (hC : C ≤ 1000000) (hg : Gl X x := by rfl) (hg2 : Gl X y := by rfl) (hdb : (x == ("__debug__" : Str)) = false := by decide) (hdb2 : (y == ("__debug__" : Str)) = false := by decide)
    (he2 : starEach (a :: es) X.env = (false, eval a X.env) :: starEach es X.env := by rfl) (hpl2 : (backTo pq (starEach es X.env)).any (·.1) = false := by rfl)
    (he : starEach [.Call (.Name y pp) (a :: es) [] pq] X.env = (false, eval (.Call (.Name y pp) (a :: es) [] pq) X.env) :: starEach [] X.env := by rfl) (hpl : (backTo pos (starEach [] X.env)).any (·.1) = false := by rfl) : DE X c ρ (.Call (.Name x p) [.Call (.Name y pp) (a :: es) [] pq] [] pos) d :=
  de_of (pe_callD D hr hg (pa_cons (pe_callD D2 hr2 hg2 (pa_w X) hdb2 he2 hpl2) pa_nil he) hdb he hpl) fun σ B H S Q q => ha σ B H S _ fun vs B1 H1 s1 r1 => by
    rw [List.append_nil]
    refine ⟨B1, ds, _, s1.bh, r1, h2, fun l xs B2 H2 s2 hb hn hh r2 => ?_⟩
    have := (show RpL X.K B2 xs ([i, j, 0].map PyData.int) from r2).ints
    subst this
    refine ⟨l, [], B2, [], 0, C, _, rfl, s2.bh, .nil, hb, ⟨i, j, 0, hh, hi, hj, hj2, by omega, by omega⟩, hF, by omega, fun v B' H' d' hd' e1 e2 hh' hf hb' ht rv => ?_⟩
    subst hd'
    refine q v B1 H' ⟨s1.b, s2.b.trans (e1.trans e2), fun b o e => ?_, s1.f⟩ (hd _ _ _ rv)
    have hne : b ≠ l := fun w => by rw [w] at e; rw [fresh_back s1.h hn] at e; cases e
    exact hh' b o hne (s2.h b o (s1.h b o e))
end
/-! ### the drawing def's body: slot 0 stays where it is -/
def DSO (X : Cx) (c : Wd) (ρ : List Sl) (l : Addr) (sts : List Stmt) (E : PyData → List Sl → Prop) : Prop := ∀ σ B H, Sx X.pr c ρ σ B H → σ[0]? = some (some (.ref l)) → ∀ D : Ends, (∀ d v ρ' σ' B' H', E d ρ' → Ex B B' → Sx X.pr c ρ' σ' B' H' → σ'[0]? = some (some (.ref l)) → Rp X.K B' v d → D.rt v H') → wSs X sts D σ H
section
variable {X : Cx} {c : Wd} {ρ ρ' : List Sl} {e i : Expr} {d : PyData} {ds : List PyData} {pos p p2 : Pos} {l : Addr} {rest : List Stmt} {E : PyData → List Sl → Prop}
theorem dso_ret (he : DE X c ρ e d) (h : E d ρ) : DSO X c ρ l (.Return (some e) pos :: rest) E := fun σ B H S h0 D q =>
  ⟨_, pss_cons (ps_ret (pe_w X)) (pss_w X), he σ B H S _ fun v B1 H1 s1 r1 => q d v ρ σ B1 H1 h s1.b (S.stp s1) h0 r1⟩
theorem dso_set (i : Nat) {x : Str} {px : Pos} (he : DE X c ρ e d) (k : DSO X c (ρ.set i (.d d)) l rest E) (h0i : i ≠ 0) (hN : X.N.Nodup) (hi : X.N[i]? = some x := by rfl) (hx : Loc X.env.scope x := by first | exact Or.inl rfl | exact Or.inr rfl)
    (hs : swapsWith e (some (.Name x px)) pos.line X.env = pure false := by rfl) (hf : X.fn x = true ∨ X.env.scope.names.lookup x = some .local := by first | exact .inl rfl | exact .inr rfl) : DSO X c ρ l (.Assign [.Name x px] e pos :: rest) E := fun σ B H S h0 D q =>
  ⟨_, pss_cons (ps_set hN hi hx (pe_w X) hs hf) (pss_w X), he σ B H S _ fun v B1 H1 s1 r1 => k (σ.set i (some v)) B1 H1 ((S.stp s1).putD r1) (by rw [List.getElem?_set_ne h0i]; exact h0) D fun d v ρ' σ' B' H' hE e1 => q d v ρ' σ' B' H' hE (s1.b.trans e1)⟩
theorem dso_if {k : Bool} {A : List Stmt} (ht : DT X c ρ e k) (h1 : k = true → DSO X c ρ l A E) (h2 : k = false → DSO X c ρ l rest E) : DSO X c ρ l (.If e A [] pos :: rest) E := fun σ B H S h0 D q =>
  ⟨_, pss_cons (ps_if (pt_w X) (pss_w X) (pss_w X)) (pss_w X), ht σ B H S _ fun B1 H1 s1 => by
    cases k with
    | true => exact iteT (h1 rfl σ B1 H1 (S.stp s1) h0 _ fun d v ρ' σ' B' H' hE e1 => q d v ρ' σ' B' H' hE (s1.b.trans e1))
    | false => exact iteF ⟨_, pss_nil, h2 rfl σ B1 H1 (S.stp s1) h0 D fun d v ρ' σ' B' H' hE e1 => q d v ρ' σ' B' H' hE (s1.b.trans e1)⟩⟩
theorem dso_own {x : Str} {px ps : Pos} {k : Int} {j : Nat} (h : ρ[0]? = some (.own ds)) (he : DE X c ρ e d) (hi : DE X c ρ i (.int k)) (hj : ixN ds.length k = some j) (kk : DSO X c (ρ.set 0 (.own (ds.set j d))) l rest E) (hN : X.N[0]? = some x := by rfl)
    (hv : Vis X.env.scope x := by first | exact Or.inl rfl | exact Or.inr (Or.inl rfl) | exact Or.inr (Or.inr rfl)) (hdb : (x == ("__debug__" : Str)) = false := by decide) (hcd : (x == ("__classdict__" : Str)) = false := by decide)
    (hs : swapsWithSole [.Subscript (.Name x px) i ps] e pos.line X.env = pure false := by rfl) (hw : swappedStores [.Subscript (.Name x px) i ps] e X.env = pure none := by rfl) (h1 : (assignEach [.Subscript (.Name x px) i ps] X.env).map (·.2) = [assign (.Subscript (.Name x px) i ps) X.env] := by rfl)
    (ha : ∀ v, assign (.Subscript (.Name x px) i ps) X.env v = (do
      let ov ← holding [v] (eval (.Name x px) X.env)
      let iv ← holding [v, ov] (eval i X.env)
      standAt ps
      holding [v, ov, iv] (setItem ov iv v)
      release [v, ov, iv] []) := by exact fun _ => rfl) : DSO X c ρ l (.Assign [.Subscript (.Name x px) i ps] e pos :: rest) E := fun σ B H S h0 D q =>
  ⟨_, pss_cons (ps_asg (pe_w X) (pg_sub (pe_var hN hv hdb hcd) (pe_w X) set_list (ha := ha)) hs hw h1) (pss_w X), he σ B H S _ fun v B1 H1 s1 r1 => by
    obtain ⟨r, xs, e, hr, rr⟩ := ev_own h (S.stp s1)
    refine ⟨.ref r, e, hi σ B1 H1 (S.stp s1) _ fun y B2 H2 s2 ry => ?_⟩
    cases ry
    exact ⟨r, xs, k, j, rfl, rfl, s2.h _ _ hr, by rw [rr.length]; exact hj, kk σ B2 _ (((S.stp s1).stp s2).chg h e (RpL.set (r1.mono s2.b) j (rr.mono s2.b))) h0 D fun d v ρ' σ' B' H' hE e1 => q d v ρ' σ' B' H' hE ((s1.b.trans s2.b).trans e1)⟩⟩
end
section
variable {P : Program} {w : World} {K : PySem.W.Frag} {mg : Str → Option Value} {base : Heap}
theorem at_defN {x : Str} {st : Stmt} {ps N : List Str} {k : Nat} (T : At K mg x st ps) (F : List PyData → List PyData → Prop) (S : FnScope N ps (defScope st)) (hl : ∀ ds es, F ds es → ds.length = ps.length)
    (h : ∀ (f : Addr) (cdv : Value) (A : Around) (outer : List Env) (s : Shared) (H : Hp) (E : XK), Room k (A.deeper (envOfC x (defScope st) s.heap.objs.size f cdv)) → ∀ (c : Wd) (ds es : List PyData), F ds es →
      DSN (cxD P w K mg base N x st f cdv A outer s H E) c (startR N.length ds) (defBody st) es) : DefOk P w K mg base x ps (k + 1) (spN K F) := by
  obtain ⟨f, fd, Fn, hm, hb⟩ := T.ex
  refine ⟨f, fd, Fn.ok S (fun vs H Q E z => ?_) (fun cdv A outer s H vs Q E hr z => ?_), hm, Fn.kp, hb⟩
  · obtain ⟨B, ds, es, _, r, hF, _⟩ := z
    rw [r.length, hl ds es hF]
  · obtain ⟨B, ds, es, e, r, hF, q⟩ := z
    exact ⟨_, pss_w _, h f cdv A outer s H E hr ⟨B, H, none⟩ ds es hF _ B H (startR_sx N e r) _ fun a xs B' H' st hb hn hh rr => q a xs B' H' st hb hn hh rr⟩
/-- the heap without one object -/
def wo (H : Hp) (a : Addr) : Hp := fun q => if q = a then none else H q
theorem wo_ne {H : Hp} {a q : Addr} (h : q ≠ a) : wo H a q = H q := if_neg h
theorem wo_at {H : Hp} {a : Addr} : wo H a a = none := if_pos rfl
/-- the drawing def itself: the source is its own list -/
def endO (n : Nat) (R : PyData → Prop) : PyData → List Sl → Prop := fun d ρ' => R d ∧ ∃ x y k : Int, ρ'[0]? = some (.own [.int x, .int y, .int k]) ∧ 0 ≤ x ∧ 0 ≤ y ∧ y < 2 ^ 62 ∧ 0 ≤ k ∧ k ≤ (n : Int)
theorem at_defO {x y : Str} {st : Stmt} {ps N : List Str} {k : Nat} (T : At K mg x st (y :: ps)) (F : List PyData → Nat → (PyData → Prop) → Prop) (S : FnScope (y :: N) (y :: ps) (defScope st)) (hl : ∀ ds C R, F ds C R → ds.length = ps.length)
    (h : ∀ (f : Addr) (cdv : Value) (A : Around) (outer : List Env) (s : Shared) (H : Hp) (E : XK), Room k (A.deeper (envOfC x (defScope st) s.heap.objs.size f cdv)) → ∀ (c : Wd) (ds : List PyData) (n C : Nat) (R : PyData → Prop), F ds C R → n + C ≤ 1000000 → ∀ i j l : Int, 0 ≤ i → 0 ≤ j → j < 2 ^ 62 → 0 ≤ l → l ≤ (n : Int) →
      ∀ q : Addr, DSO (cxD P w K mg base (y :: N) x st f cdv A outer s H E) c (.own [.int i, .int j, .int l] :: startR N.length ds) q (defBody st) (endO (n + C) R)) : DefOk P w K mg base x (y :: ps) (k + 1) (spY K F) := by
  obtain ⟨f, fd, Fn, hm, hb⟩ := T.ex
  refine ⟨f, fd, Fn.ok S (fun vs H Q E z => ?_) (fun cdv A outer s H vs Q E hr z => ?_), hm, Fn.kp, hb⟩
  · obtain ⟨a, vs', B, ds, n, C, R, rfl, _, r, _, _, hF, _⟩ := z
    rw [List.length_cons, List.length_cons, r.length, hl ds C R hF]
  · obtain ⟨a, vs', B, ds, n, C, R, rfl, e, r, hb, ⟨i, j, l, hH, hi, hj, hj2, hl0, hln⟩, hF, hn, q⟩ := z
    have S0 : Sx ⟨P, w, K⟩ ⟨B, wo H a, none⟩ (.own [.int i, .int j, .int l] :: startR N.length ds) (L2.start (y :: N) (.ref a :: vs')) B H := by
      have Z := startR_sx (P := P) (w := w) (K := K) N e r
      have e2 : L2.start (y :: N) (.ref a :: vs') = some (.ref a) :: L2.start N vs' := by
        unfold L2.start
        rw [List.map_cons, List.length_cons, List.length_cons, Nat.add_sub_add_right]
        rfl
      have nown : ∀ (i : Nat), ((startR N.length ds)[i]?.map Sl.owned) ≠ some true := fun i h1 => by
        cases q : (startR N.length ds)[i]? with
        | none => rw [q] at h1; cases h1
        | some s =>
          rw [q] at h1
          unfold startR at q
          rcases List.mem_append.mp (List.mem_of_getElem? q) with z | z
          · obtain ⟨_, _, rfl⟩ := List.mem_map.mp z; cases h1
          · rw [List.eq_of_mem_replicate z] at h1; cases h1
      rw [e2]
      refine ⟨Ex.refl B, e, fun b o _ hh => ?_, fun q hq => .inl hq, (fun b hb => nomatch hb), by rw [List.length_cons, List.length_cons, r.some], fun t s ht => ?_, fun i' j' b hij h1 h2 h3 => ?_⟩
      · have hh : wo H a b = some o := hh
        have hne : b ≠ a := fun w => by rw [w, wo_at] at hh; cases hh
        rw [wo_ne hne] at hh
        exact hh
      · cases t with
        | zero =>
          have ht : some (Sl.own [.int i, .int j, .int l]) = some s := ht
          cases ht
          exact ⟨a, [.int i, .int j, .int l], rfl, hb, wo_at, hH, .cons (.int i) (.cons (.int j) (.cons (.int l) .nil))⟩
        | succ t =>
          rw [List.getElem?_cons_succ] at ht ⊢
          have z := Z.sl t s ht
          cases s with
          | no => trivial
          | d d => exact z
          | own ds => exact absurd (by rw [ht]; rfl) (nown t)
          | seq ds => exact z
          | tin n =>
            obtain ⟨_, _, z, _⟩ := z
            cases z
          | dict kvs => exact absurd (by rw [ht]; rfl) (nown t)
      · cases i' with
        | zero =>
          cases j' with
          | zero => exact absurd rfl hij
          | succ j' =>
            rw [List.getElem?_cons_succ] at h2
            exact absurd h2 (nown j')
        | succ i' =>
          rw [List.getElem?_cons_succ] at h1
          exact absurd h1 (nown i')
    have h00 : (L2.start (y :: N) (.ref a :: vs'))[0]? = some (some (.ref a)) := rfl
    refine ⟨_, pss_w _, h f cdv A outer s H E hr ⟨B, wo H a, none⟩ ds n C R hF hn i j l hi hj hj2 hl0 hln a _ B H S0 h00 _ fun d' v ρ' σ' B' H' z _ S' hs' rv => ?_⟩
    obtain ⟨hR, x', y', k', hsl, h1, h2, h3, h4, h5⟩ := z
    obtain ⟨a', xs, e1, hb', h0', hh, rr⟩ := S'.sl 0 _ hsl
    rw [hs'] at e1
    cases e1
    have := (show RpL K B' xs ([x', y', k'].map PyData.int) from rr).ints
    subst this
    refine q v B' H' d' hR S'.b0 S'.bh (fun b o hne hh => S'.h0 b o (by simp) ((wo_ne hne).trans hh)) (fun q hq => ?_) hb' ⟨x', y', k', hh, h1, h2, h3, h4, h5⟩ rv
    rcases S'.fr q hq with z | z
    · exact .inl z
    · by_cases w : q = a
      · rw [w] at hq; exact absurd hb' hq
      · exact .inr ((wo_ne w).symm.trans z)
end
end DD
/-! DD13: the script: a list of the outside, its pieces; defs that take it. -/
namespace DD
open PySem PySem.Spec L2
open PyProof.Rows hiding St
open Evl (Ex ex_rd ex_l ex_t fresh_back)
section
variable {X : Cx} {c : Wd} {ρ ρ' : List Sl} {e a b : Expr} {es : List Expr} {d da db : PyData} {ds ds0 es' : List PyData} {pos p p2 : Pos}
theorem dn_seqSl (n : Nat) {x : Str} {px : Pos} {lo hi : Option Expr} {l hh : Option Int} (h : ρ[n]? = some (.seq ds)) (hl : DO X c ρ lo l) (hh' : DO X c ρ hi hh) (hN : X.N[n]? = some x := by rfl)
    (hv : Vis X.env.scope x := by first | exact Or.inl rfl | exact Or.inr (Or.inl rfl) | exact Or.inr (Or.inr rfl)) (hdb : (x == ("__debug__" : Str)) = false := by decide) (hcd : (x == ("__classdict__" : Str)) = false := by decide) : DN X c ρ (.Subscript (.Name x px) (.Slice lo hi none p2) pos) (cutD ds l hh) :=
  dn_of (pe_slice sl_list (pe_var hN hv hdb hcd) (po_w X) (po_w X)) fun σ B H S Q q => by
    obtain ⟨r, xs, e, hs, rr⟩ := S.sl n _ h
    refine ⟨.ref r, e, hl σ B H S _ fun B2 H2 s2 => hh' σ B2 H2 (S.stp s2) _ fun B3 H3 s3 => ?_⟩
    have st := s2.trans s3
    exact ⟨_, _, rfl, ex_l s3.bh (ex_l st.b hs), fun p hp => q p _ B3 _ (st.trans (stp_new0 s3.bh _ hp)) (free_of s3.bh hp) (fresh_back st.h hp) upd_same ((rr.mono st.b).cut l hh)⟩
/-- a or b, lists -/
def orD (ds es : List PyData) : List PyData := if ds = [] then es else ds
theorem dn_or (ha : DN X c ρ a ds) (hb : DN X c ρ b es') : DN X c ρ (.BoolOp .Or [a, b] pos) (orD ds es') :=
  dn_of (pe_orT (pe_w X) (pe_one (pe_w X))) fun σ B H S Q q => ha σ B H S _ fun r xs B1 H1 s1 hb1 hn hh rr => by
    have el : xs.length = ds.length := rr.length
    refine ⟨!xs.isEmpty, .inl ⟨xs, SqL.of hh, rfl⟩, ?_⟩
    · by_cases h : ds = []
      · have hx : (!xs.isEmpty) = false := by
          have : xs = [] := List.length_eq_zero_iff.mp (by rw [el, h]; rfl)
          rw [this]; rfl
        rw [hx]
        refine iteF (hb σ B1 H1 (S.stp s1) _ fun r2 ys B2 H2 s2 hb2 hn2 hh2 rr2 => ?_)
        refine q r2 ys B2 H2 (s1.trans s2) hb2 (fresh_back s1.h hn2) hh2 ?_
        unfold orD
        rw [if_pos h]
        exact rr2
      · have hx : (!xs.isEmpty) = true := by
          cases xs with
          | nil => exact absurd (List.length_eq_zero_iff.mp el.symm) h
          | cons _ _ => rfl
        rw [hx]
        refine iteT (q r xs B1 H1 s1 hb1 hn hh ?_)
        unfold orD
        rw [if_neg h]
        exact rr
/-- a def whose first argument is the script -/
def spQ (K : PySem.W.Frag) (F : List PyData → List PyData → PyData → Prop) : Sp := fun vs H Q _ => ∃ r xs vs' B ds0 ds d, vs = .ref r :: vs' ∧ Ex B H ∧ SqL K B r xs ∧ RpL K B xs ds0 ∧ RpL K B vs' ds ∧ F ds0 ds d ∧ ∀ v B' H', Stp B H B' H' → Rp K B' v d → Q v H'
theorem de_callQ {F : List PyData → List PyData → PyData → Prop} {x tn : Str} {ps : List Str} {k : Nat} {px : Pos} (D : DefOk X.prog X.w X.K X.mg X.base x ps k (spQ X.K F)) (hr : Room k X.A) (h0 : ρ[0]? = some (.seq ds0)) (ha : DA X c ρ es ds) (h : F ds0 ds d)
    (hN : X.N[0]? = some tn := by rfl) (hv : Vis X.env.scope tn := by first | exact Or.inl rfl | exact Or.inr (Or.inl rfl) | exact Or.inr (Or.inr rfl)) (hdb1 : (tn == ("__debug__" : Str)) = false := by decide) (hcd : (tn == ("__classdict__" : Str)) = false := by decide)
    (hg : Gl X x := by rfl) (hdb : (x == ("__debug__" : Str)) = false := by decide)
    (he : starEach (.Name tn px :: es) X.env = (false, eval (.Name tn px) X.env) :: starEach es X.env := by rfl) (hpl : (backTo pos (starEach es X.env)).any (·.1) = false := by rfl) : DE X c ρ (.Call (.Name x p) (.Name tn px :: es) [] pos) d :=
  de_of (pe_callD D hr hg (pa_cons (pe_var (i := 0) hN hv hdb1 hcd) (pa_w X) he) hdb he hpl) fun σ B H S Q q => by
    obtain ⟨r, xs, e, hs, rr⟩ := S.sl 0 _ h0
    refine ⟨.ref r, e, ha σ B H S _ fun vs B1 H1 s1 r1 => ?_⟩
    exact ⟨r, xs, vs, B1, ds0, ds, d, by rw [List.append_nil], s1.bh, ex_l s1.b hs, rr.mono s1.b, r1, h, fun v B' H' st rv => q v B' H' (s1.trans st) rv⟩
end
section
variable {P : Program} {w : World} {K : PySem.W.Frag} {mg : Str → Option Value} {base : Heap}
theorem startQ_sx {B H : Hp} {a : Addr} {xs vs : List V} {ds0 ds : List PyData} {x : Str} (N : List Str) (e : Ex B H) (r : RpL K B vs ds) (hs : SqL K B a xs) (r0 : RpL K B xs ds0) : Sx ⟨P, w, K⟩ ⟨B, H, none⟩ (.seq ds0 :: startR N.length ds) (L2.start (x :: N) (.ref a :: vs)) B H := by
  have Z := startR_sx (P := P) (w := w) (K := K) N e r
  have e2 : L2.start (x :: N) (.ref a :: vs) = some (.ref a) :: L2.start N vs := by
    unfold L2.start
    rw [List.map_cons, List.length_cons, List.length_cons, Nat.add_sub_add_right]
    rfl
  rw [e2]
  refine ⟨Ex.refl B, e, fun b o _ hh => hh, fun q hq => .inl hq, (fun b hb => nomatch hb), by rw [List.length_cons, List.length_cons, r.some], fun t s ht => ?_, fun i' j' b hij h1 h2 h3 => ?_⟩
  · cases t with
    | zero =>
      have ht : some (Sl.seq ds0) = some s := ht
      cases ht
      exact ⟨a, xs, rfl, hs, r0⟩
    | succ t =>
      rw [List.getElem?_cons_succ] at ht ⊢
      exact Z.sl t s ht
  · have nown : ∀ (i : Nat), ((startR N.length ds)[i]?.map Sl.owned) ≠ some true := fun i h1 => by
      cases q : (startR N.length ds)[i]? with
      | none => rw [q] at h1; cases h1
      | some s =>
        rw [q] at h1
        unfold startR at q
        rcases List.mem_append.mp (List.mem_of_getElem? q) with z | z
        · obtain ⟨_, _, rfl⟩ := List.mem_map.mp z; cases h1
        · rw [List.eq_of_mem_replicate z] at h1; cases h1
    cases i' with
    | zero => cases h1
    | succ i' =>
      rw [List.getElem?_cons_succ] at h1
      exact absurd h1 (nown i')
theorem at_defQ {x y : Str} {st : Stmt} {ps N : List Str} {k : Nat} (T : At K mg x st (y :: ps)) (F : List PyData → List PyData → PyData → Prop) (S : FnScope (y :: N) (y :: ps) (defScope st)) (hl : ∀ ds0 ds d, F ds0 ds d → ds.length = ps.length)
    (h : ∀ (f : Addr) (cdv : Value) (A : Around) (outer : List Env) (s : Shared) (H : Hp) (E : XK), Room k (A.deeper (envOfC x (defScope st) s.heap.objs.size f cdv)) → ∀ (c : Wd) (ds0 ds : List PyData) (d : PyData), F ds0 ds d →
      DS (cxD P w K mg base (y :: N) x st f cdv A outer s H E) c (.seq ds0 :: startR N.length ds) (defBody st) (endR d)) : DefOk P w K mg base x (y :: ps) (k + 1) (spQ K F) := by
  obtain ⟨f, fd, Fn, hm, hb⟩ := T.ex
  refine ⟨f, fd, Fn.ok S (fun vs H Q E z => ?_) (fun cdv A outer s H vs Q E hr z => ?_), hm, Fn.kp, hb⟩
  · obtain ⟨r, xs, vs', B, ds0, ds, d, rfl, _, _, _, rr, hF, _⟩ := z
    rw [List.length_cons, List.length_cons, rr.length, hl ds0 ds d hF]
  · obtain ⟨r, xs, vs', B, ds0, ds, d, rfl, e, hs, r0, rr, hF, q⟩ := z
    refine ⟨_, pss_w _, h f cdv A outer s H E hr ⟨B, H, none⟩ ds0 ds d hF _ B H (startQ_sx N e rr hs r0) _ ⟨fun ρ' σ' B' H' z _ S' => ?_, fun d' v ρ' σ' B' H' z _ S' rv => ?_, fun _ _ _ _ z => z.elim, fun _ _ _ _ z => z.elim⟩⟩
    · have z : d = .none := z
      subst z
      exact q .non B' H' ⟨S'.b0, S'.bh, fun b o h => S'.h0 b o (by simp) h, S'.fr⟩ .non
    · have z : d' = d := z
      subst z
      exact q v B' H' ⟨S'.b0, S'.bh, fun b o h => S'.h0 b o (by simp) h, S'.fr⟩ rv
end
end DD
namespace DD
open PySem PySem.Spec L2
open PyProof.Rows hiding St
open Evl (Ex ex_rd ex_l ex_t fresh_back)
section
variable {X : Cx} {c : Wd} {ρ ρ' : List Sl} {e a b : Expr} {es : List Expr} {d da db : PyData} {ds ds0 es' : List PyData} {pos p p2 : Pos}
/-- list(range(n)) -/
theorem dn_listRg {i : Nat} {pr : Pos} (hml : X.mg "list" = none) (hmr : X.mg "range" = none) (ha : DE X c ρ a (.int i)) (hi : i ≤ 1000000) (hg : Gl X "list" := by rfl) (hg2 : Gl X "range" := by rfl) (hc : X.calm = true := by rfl) (na : starEach [a] X.env = (false, eval a X.env) :: starEach [] X.env := by rfl)
    (na2 : starEach [.Call (.Name "range" pr) [a] [] p2] X.env = (false, eval (.Call (.Name "range" pr) [a] [] p2) X.env) :: starEach [] X.env := by rfl) : DN X c ρ (.Call (.Name "list" p) [.Call (.Name "range" pr) [a] [] p2] [] pos) (upD 0 1 i) :=
  dn_of (pe_listRg hc hg hml (prg_1 hg2 hmr (pe_w X) na) na2) fun σ B H S Q q => ha σ B H S _ fun v B1 H1 s1 r1 => by
    cases r1
    refine ⟨_, rfl, RgOk.of_le (by omega) (by omega) (by omega) (by omega), fun l hl => q l _ B1 _ (s1.trans (stp_new0 s1.bh _ hl)) (free_of s1.bh hl) (fresh_back s1.h hl) upd_same ?_⟩
    have e : upD 0 1 i = (((List.range i).map fun j : Nat => (0 : Int) + (j : Nat)).map PyData.int) := by
      unfold upD
      rw [List.map_map]
      refine List.map_congr_left fun j _ => ?_
      show PyData.int (0 + (j : Nat) * 1) = PyData.int (0 + (j : Nat))
      rw [Int.mul_one]
    have e2 : rgV 0 (i : Int) = (((List.range i).map fun j : Nat => (0 : Int) + (j : Nat)).map V.int) := by
      unfold rgV
      rw [Int.sub_zero, Int.toNat_natCast, List.map_map]
      rfl
    rw [e, e2]
    exact .of_ints _
/-- {'W': 0, ..}.get(word, 1) -/
def gwL : List (Key × V) := [(.inr "W", .int 0), (.inr "CX", .int 2), (.inr "CZ", .int 2), (.inr "CCX", .int 3)]
def gwN (z : Str) : Nat := if z = ("W" : Str) then 0 else if z = ("CX" : Str) then 2 else if z = ("CZ" : Str) then 2 else if z = ("CCX" : Str) then 3 else 1
theorem gw_val (z : Str) : ((valV gwL (.inr z)).getD (.int 1)) = .int (gwN z : Nat) := by
  have k : ∀ x : Str, decide ((Sum.inr x : Key) = .inr z) = decide (z = x) := fun x => by
    by_cases h : z = x
    · rw [h]; simp
    · rw [decide_eq_false h, decide_eq_false]
      intro w
      exact h (Sum.inr.inj w).symm
  unfold valV gwL gwN
  simp only [List.find?_cons, List.find?_nil, k]
  by_cases h1 : z = ("W" : Str)
  · rw [decide_eq_true h1, if_pos h1]; rfl
  · rw [decide_eq_false h1, if_neg h1]
    by_cases h2 : z = ("CX" : Str)
    · rw [decide_eq_true h2, if_pos h2]; rfl
    · rw [decide_eq_false h2, if_neg h2]
      by_cases h3 : z = ("CZ" : Str)
      · rw [decide_eq_true h3, if_pos h3]; rfl
      · rw [decide_eq_false h3, if_neg h3]
        by_cases h4 : z = ("CCX" : Str)
        · rw [decide_eq_true h4, if_pos h4]; rfl
        · rw [decide_eq_false h4, if_neg h4]; rfl
theorem gw_merge : mergeK [] gwL = gwL := by decide +kernel
theorem de_getW {z : Str} {k1 k2 k3 k4 i1 i2 i3 i4 i5 : Nat} {q1 q2 q3 q4 r1 r2 r3 r4 r5 dp ap : Pos} (hu : X.A.units + 1 < cLine) (he : DE X c ρ e (.str z))
    (m : M2 X (.Dict [some (.Constant (.str "W") k1 q1), some (.Constant (.str "CX") k2 q2), some (.Constant (.str "CZ") k3 q3), some (.Constant (.str "CCX") k4 q4)] [.Constant (.int 0) i1 r1, .Constant (.int 2) i2 r2, .Constant (.int 2) i3 r3, .Constant (.int 3) i4 r4] dp) "get" ap e (.Constant (.int 1) i5 r5) pos) :
    DE X c ρ (.Call (.Attribute (.Dict [some (.Constant (.str "W") k1 q1), some (.Constant (.str "CX") k2 q2), some (.Constant (.str "CZ") k3 q3), some (.Constant (.str "CCX") k4 q4)] [.Constant (.int 0) i1 r1, .Constant (.int 2) i2 r2, .Constant (.int 2) i3 r3, .Constant (.int 3) i4 r4] dp) "get" ap) [e, .Constant (.int 1) i5 r5] [] pos) (.int (gwN z : Nat)) :=
  de_of (pe_dget2 hu (pe_disp (pps_cons pe_str pe_int (pps_cons pe_str pe_int (pps_cons pe_str pe_int (pps_cons pe_str pe_int pps_nil)))) rfl rfl (by simp) (Nat.le_of_ble_eq_true rfl)) (pe_w X) pe_int m) fun σ B H S Q q => by
    show tDisp _ σ H _
    intro l hl
    show (upd H l (.dK [])) l = some (.dK []) ∧ _
    refine ⟨upd_same, gwL, rfl, by decide, ?_⟩
    rw [gw_merge]
    have e1 : Ex H (upd (upd H l (.dK [])) l (.dK gwL)) := fun b o h => by
      have hne : b ≠ l := fun w => by rw [w, hl] at h; cases h
      rw [upd_ne hne, upd_ne hne]
      exact h
    have s0 : Stp B H B (upd (upd H l (.dK [])) l (.dK gwL)) := Stp.grow S.bh e1
    refine ⟨l, rfl, .inl ⟨gwL, Rd.of upd_same⟩, he σ B _ (S.stp s0) _ fun v B2 H2 s2 rv => ?_⟩
    cases rv
    refine ⟨valV gwL (.inr z), .inl ⟨gwL, .inr z, Rd.of (s2.h _ _ upd_same), rfl, rfl⟩, ?_⟩
    rw [gw_val]
    exact q _ B2 H2 (s0.trans s2) (.int _)
/-- a pure def, its arguments drawn -/
theorem dy_callD {Rf : List PyData → PyData → Prop} {m : Nat} {R : PyData → Prop} {Rs : List PyData → Prop} {x : Str} {ps : List Str} {k : Nat} (D : DefOk X.prog X.w X.K X.mg X.base x ps k (spD X.K Rf)) (hr : Room k X.A) (ha : DYA X c ρ (e :: es) m Rs) (h : ∀ ds, Rs ds → ∃ d, Rf ds d ∧ R d) (hg : Gl X x := by rfl) (hdb : (x == ("__debug__" : Str)) = false := by decide)
    (he : starEach (e :: es) X.env = (false, eval e X.env) :: starEach es X.env := by rfl) (hpl : (backTo pos (starEach es X.env)).any (·.1) = false := by rfl) : DY X c ρ (.Call (.Name x p) (e :: es) [] pos) m R :=
  dy_of (pe_callD D hr hg (pa_w X) hdb he hpl) fun σ B H S Q q => ha σ B H S _ fun vs B1 H1 ds hds y1 S1 r1 => by
    rw [List.append_nil]
    obtain ⟨d, hF, hR⟩ := h ds hds
    exact ⟨B1, ds, d, S1.bh, r1, hF, fun v B' H' st r => q v B' H' d hR (y1.trans st.ty) (S1.stp st) r⟩
/-- arguments all pure -/
theorem DA.dya {m : Nat} (h : DA X c ρ es ds) (hm : retin m ρ = ρ := by rfl) : DYA X c ρ es m (fun ds' => ds' = ds) := fun σ B H S Q q => h σ B H S _ fun vs B1 H1 s1 r1 => q vs B1 H1 ds rfl s1.ty (by rw [hm]; exact S.stp s1) r1
theorem dy_callP {F : List PyData → Nat → (PyData → Prop) → Prop} {R : PyData → Prop} {x tn : Str} {ps : List Str} {k C n : Nat} {px : Pos} (D : DefOk X.prog X.w X.K X.mg X.base x ps k (spY X.K F)) (hr : Room k X.A) (h0 : ρ[0]? = some (.tin n)) (ha : DA X c ρ es ds) (h : F ds C R) (hC : n + C ≤ 1000000) (hm : retin n ρ = ρ := by rfl)
    (hN : X.N[0]? = some tn := by rfl) (hv : Vis X.env.scope tn := by first | exact Or.inl rfl | exact Or.inr (Or.inl rfl) | exact Or.inr (Or.inr rfl)) (hdb1 : (tn == ("__debug__" : Str)) = false := by decide) (hcd : (tn == ("__classdict__" : Str)) = false := by decide)
    (hg : Gl X x := by rfl) (hdb : (x == ("__debug__" : Str)) = false := by decide)
    (he : starEach (.Name tn px :: es) X.env = (false, eval (.Name tn px) X.env) :: starEach es X.env := by rfl) (hpl : (backTo pos (starEach es X.env)).any (·.1) = false := by rfl) : DY X c ρ (.Call (.Name x p) (.Name tn px :: es) [] pos) (n + C) R :=
  dy_call D hr h0 (ha := DA.dya ha hm) (h := fun ds' e => ⟨R, by rw [e]; exact h, fun _ z => z⟩) (hC := hC) (hN := hN) (hv := hv) (hdb1 := hdb1) (hcd := hcd) (hg := hg) (hdb := hdb) (he := he) (hpl := hpl)
end
end DD
/-! M3: pairs of like places: from the back; the last like place. -/
namespace DD
section
variable {α : Type} [DecidableEq α]
/-- the greatest place of x -/
def lastIx (x : α) : List α → Nat → Option Nat
  | [], _ => none
  | y :: ys, n => match lastIx x ys (n + 1) with
    | some m => some m
    | none => if y = x then some n else none
theorem lastIx_snoc (x y : α) : ∀ (xs : List α) (n : Nat), lastIx x (xs ++ [y]) n = if y = x then some (n + xs.length) else lastIx x xs n
  | [], n => by simp [lastIx]
  | z :: xs, n => by
    show (match lastIx x (xs ++ [y]) (n + 1) with | some m => some m | none => if z = x then some n else none) = _
    rw [lastIx_snoc x y xs (n + 1)]
    by_cases h : y = x
    · rw [if_pos h, if_pos h]
      simp only [List.length_cons]
      congr 1
      omega
    · rw [if_neg h, if_neg h]
      rfl
theorem lastIx_some {x : α} : ∀ {xs : List α} {n m : Nat}, lastIx x xs n = some m → n ≤ m ∧ m < n + xs.length ∧ xs[m - n]? = some x ∧ ∀ j, m - n < j → xs[j]? ≠ some x
  | [], n, m, h => by cases h
  | y :: xs, n, m, h => by
    have h : (match lastIx x xs (n + 1) with | some m => some m | none => if y = x then some n else none) = some m := h
    cases e : lastIx x xs (n + 1) with
    | some k =>
      rw [e] at h
      have hk : k = m := Option.some.inj h
      subst hk
      obtain ⟨h1, h2, h3, h4⟩ := lastIx_some e
      refine ⟨by omega, by simp only [List.length_cons]; omega, ?_, fun j hj => ?_⟩
      · rw [show k - n = (k - (n + 1)) + 1 by omega, List.getElem?_cons_succ]; exact h3
      · cases j with
        | zero => omega
        | succ j =>
          rw [List.getElem?_cons_succ]
          exact h4 j (by omega)
    | none =>
      rw [e] at h
      have h : (if y = x then some n else none) = some m := h
      by_cases hy : y = x
      · rw [if_pos hy] at h
        cases h
        refine ⟨Nat.le_refl _, by simp only [List.length_cons]; omega, by rw [Nat.sub_self]; simp [hy], fun j hj => ?_⟩
        cases j with
        | zero => omega
        | succ j =>
          rw [List.getElem?_cons_succ]
          intro z
          exact lastIx_none e (List.mem_of_getElem? z)
      · rw [if_neg hy] at h; cases h
where
  lastIx_none {x : α} : ∀ {xs : List α} {n : Nat}, lastIx x xs n = none → x ∉ xs
    | [], _, _ => by simp
    | y :: xs, n, h => by
      have h : (match lastIx x xs (n + 1) with | some m => some m | none => if y = x then some n else none) = none := h
      cases e : lastIx x xs (n + 1) with
      | some k => rw [e] at h; cases h
      | none =>
        rw [e] at h
        have h : (if y = x then some n else none) = none := h
        by_cases hy : y = x
        · rw [if_pos hy] at h; cases h
        · rw [List.mem_cons, not_or]
          exact ⟨fun z => hy z.symm, lastIx_none e⟩
theorem lastIx_mem {x : α} {xs : List α} {n : Nat} (h : x ∈ xs) : ∃ m, lastIx x xs n = some m := by
  cases e : lastIx x xs n with
  | some m => exact ⟨m, rfl⟩
  | none => exact absurd h (lastIx_some.lastIx_none e)
/-- from place p on: the last like place, its deed, and on behind it -/
def wiGo {β : Type} (rs : List α) (gs : List β) : Nat → Nat → List β
  | 0, _ => []
  | f + 1, p => match rs[p]? with
    | none => []
    | some r => match lastIx r rs 0 with
      | none => []
      | some m => match gs[m]? with
        | none => []
        | some g => g :: wiGo rs gs f (m + 1)
theorem wiGo_some {β : Type} {rs : List α} {gs : List β} {f p m : Nat} {r : α} {g : β} (h1 : rs[p]? = some r) (h2 : lastIx r rs 0 = some m) (h3 : gs[m]? = some g) : wiGo rs gs (f + 1) p = g :: wiGo rs gs f (m + 1) := by
  simp only [wiGo, h1, h2, h3]
theorem wiGo_none {β : Type} {rs : List α} {gs : List β} {f p m : Nat} {r : α} (h1 : rs[p]? = some r) (h2 : lastIx r rs 0 = some m) (h3 : gs[m]? = none) : wiGo rs gs (f + 1) p = [] := by
  simp only [wiGo, h1, h2, h3]
end
def withoutIdle (n : Nat) (gs : List Deed) : List Deed := wiGo (rows n gs) gs (gs.length + 1) 0
end DD
/-! M5: cutting at the first like pair keeps without_idle; what is left has no like pair. -/
namespace DD
section
variable {α : Type} [DecidableEq α]
theorem behindOf_some {x : α} : ∀ {xs : List α} {n m : Nat}, behindOf x xs n = some m → n ≤ m ∧ xs[m - n]? = some x
  | [], _, _, h => nomatch h
  | y :: ys, n, m, h => by
    have h : (if x = y then some n else behindOf x ys (n + 1)) = some m := h
    by_cases e : x = y
    · rw [if_pos e] at h
      cases h
      rw [Nat.sub_self]
      exact ⟨Nat.le_refl _, by rw [e]; rfl⟩
    · rw [if_neg e] at h
      obtain ⟨h1, h2⟩ := behindOf_some h
      refine ⟨by omega, ?_⟩
      rw [show m - n = (m - (n + 1)) + 1 by omega, List.getElem?_cons_succ]
      exact h2
theorem behindOf_none {x : α} : ∀ {xs : List α} {n : Nat}, behindOf x xs n = none → x ∉ xs
  | [], _, _ => by simp
  | y :: ys, n, h => by
    have h : (if x = y then some n else behindOf x ys (n + 1)) = none := h
    by_cases e : x = y
    · rw [if_pos e] at h; cases h
    · rw [if_neg e] at h
      rw [List.mem_cons, not_or]
      exact ⟨e, behindOf_none h⟩
theorem behindOf_mem {x : α} {xs : List α} {n : Nat} (h : x ∈ xs) : behindOf x xs n ≠ none := fun z => behindOf_none z h
theorem firstFrom_some : ∀ {xs : List α} {n p q : Nat}, firstFrom xs n = some (p, q) → n ≤ p ∧ p < q ∧ (∃ r, xs[p - n]? = some r ∧ xs[q - n]? = some r) ∧ ∀ i x, i < p - n → xs[i]? = some x → x ∉ xs.drop (i + 1)
  | [], _, _, _, h => nomatch h
  | y :: ys, n, p, q, h => by
    have h : (match behindOf y ys (n + 1) with | some m => some (n, m) | none => firstFrom ys (n + 1)) = some (p, q) := h
    cases e : behindOf y ys (n + 1) with
    | some m =>
      rw [e] at h
      cases h
      obtain ⟨h1, h2⟩ := behindOf_some e
      refine ⟨Nat.le_refl _, by omega, ⟨y, by rw [Nat.sub_self]; rfl, ?_⟩, fun i x hi => by omega⟩
      rw [show q - n = (q - (n + 1)) + 1 by omega, List.getElem?_cons_succ]
      exact h2
    | none =>
      rw [e] at h
      obtain ⟨h1, h2, ⟨r, h3, h4⟩, h5⟩ := firstFrom_some h
      refine ⟨by omega, h2, ⟨r, ?_, ?_⟩, fun i x hi hx => ?_⟩
      · rw [show p - n = (p - (n + 1)) + 1 by omega, List.getElem?_cons_succ]; exact h3
      · rw [show q - n = (q - (n + 1)) + 1 by omega, List.getElem?_cons_succ]; exact h4
      · cases i with
        | zero =>
          have hx : some y = some x := hx
          cases hx
          exact behindOf_none e
        | succ i =>
          rw [List.getElem?_cons_succ] at hx
          exact h5 i x (by omega) hx
theorem firstFrom_none : ∀ {xs : List α} {n : Nat}, firstFrom xs n = none → ∀ i x, xs[i]? = some x → x ∉ xs.drop (i + 1)
  | [], _, _, _, _, h => by simp at h
  | y :: ys, n, h, i, x, hx => by
    have h : (match behindOf y ys (n + 1) with | some m => some (n, m) | none => firstFrom ys (n + 1)) = none := h
    cases e : behindOf y ys (n + 1) with
    | some m => rw [e] at h; cases h
    | none =>
      rw [e] at h
      cases i with
      | zero =>
        have hx : some y = some x := hx
        cases hx
        exact behindOf_none e
      | succ i =>
        rw [List.getElem?_cons_succ] at hx
        exact firstFrom_none h i x hx
theorem none_firstFrom : ∀ {xs : List α} {n : Nat}, (∀ i x, xs[i]? = some x → x ∉ xs.drop (i + 1)) → firstFrom xs n = none
  | [], _, _ => rfl
  | y :: ys, n, h => by
    show (match behindOf y ys (n + 1) with | some m => some (n, m) | none => firstFrom ys (n + 1)) = none
    cases e : behindOf y ys (n + 1) with
    | some m =>
      obtain ⟨h1, h2⟩ := behindOf_some e
      exact absurd (List.mem_of_getElem? h2) (h 0 y rfl)
    | none => exact none_firstFrom fun i x hx => h (i + 1) x (by rw [List.getElem?_cons_succ]; exact hx)
theorem lastIx_append (x : α) : ∀ (as bs : List α) (n : Nat), lastIx x (as ++ bs) n = (match lastIx x bs (n + as.length) with | some m => some m | none => lastIx x as n)
  | [], bs, n => by
    show lastIx x bs n = _
    rw [List.length_nil, Nat.add_zero]
    cases lastIx x bs n <;> rfl
  | a :: as, bs, n => by
    show (match lastIx x (as ++ bs) (n + 1) with | some m => some m | none => if a = x then some n else none) = _
    rw [lastIx_append x as bs (n + 1), List.length_cons, show n + 1 + as.length = n + (as.length + 1) by omega]
    cases lastIx x bs (n + (as.length + 1)) with
    | some m => rfl
    | none => rfl
theorem lastIx_shift (x : α) : ∀ (xs : List α) (n k : Nat), lastIx x xs (n + k) = (lastIx x xs n).map (· + k)
  | [], _, _ => rfl
  | y :: ys, n, k => by
    show (match lastIx x ys (n + k + 1) with | some m => some m | none => if y = x then some (n + k) else none) = Option.map _ (match lastIx x ys (n + 1) with | some m => some m | none => if y = x then some n else none)
    rw [show n + k + 1 = (n + 1) + k by omega, lastIx_shift x ys (n + 1) k]
    cases lastIx x ys (n + 1) with
    | some m => rfl
    | none =>
      show (if y = x then some (n + k) else none) = _
      split <;> rfl
theorem lastIx_notin {x : α} {xs : List α} {n : Nat} (h : x ∉ xs) : lastIx x xs n = none := by
  cases e : lastIx x xs n with
  | none => rfl
  | some m =>
    obtain ⟨_, _, h3, _⟩ := lastIx_some e
    exact absurd (List.mem_of_getElem? h3) h
/-- one's own place is the last -/
theorem lastIx_own {x : α} {xs : List α} {i : Nat} (h : xs[i]? = some x) (hn : x ∉ xs.drop (i + 1)) : lastIx x xs 0 = some i := by
  have hi := (List.getElem?_eq_some_iff.mp h).1
  have e : xs = xs.take (i + 1) ++ xs.drop (i + 1) := (List.take_append_drop _ _).symm
  rw [e, lastIx_append, lastIx_notin hn]
  show lastIx x (xs.take (i + 1)) 0 = _
  rw [List.take_add_one, h]
  show lastIx x (xs.take i ++ [x]) 0 = _
  rw [lastIx_snoc, if_pos rfl, List.length_take, Nat.min_eq_left (by omega), Nat.zero_add]
variable {β : Type} {rs : List α} {gs : List β}
theorem wiGo_pre {f p : Nat} (hl : rs.length = gs.length + 1) (hp : p ≤ gs.length) (h : ∀ i x, i < p → rs[i]? = some x → x ∉ rs.drop (i + 1)) : ∀ k i, i + k = p → wiGo rs gs (k + f) i = (gs.drop i).take k ++ wiGo rs gs f p
  | 0, i, e => by
    have : i = p := by omega
    subst this
    simp
  | k + 1, i, e => by
    have hi : i < rs.length := by omega
    have hg : i < gs.length := by omega
    have h1 : rs[i]? = some rs[i] := List.getElem?_eq_getElem hi
    have h2 : gs[i]? = some gs[i] := List.getElem?_eq_getElem hg
    rw [show k + 1 + f = (k + f) + 1 by omega, wiGo_some h1 (lastIx_own h1 (h i _ (by omega) h1)) h2, wiGo_pre hl hp h k (i + 1) (by omega), List.drop_eq_getElem_cons hg]
    rfl
theorem wiGo_fuel (hl : rs.length = gs.length + 1) : ∀ (f p : Nat), gs.length < f + p → wiGo rs gs (f + 1) p = wiGo rs gs f p
  | 0, p, h => by
    have e : rs[p]? = none := List.getElem?_eq_none (by omega)
    simp only [wiGo, e]
  | f + 1, p, h => by
    cases e : rs[p]? with
    | none => simp only [wiGo, e]
    | some r =>
      cases e2 : lastIx r rs 0 with
      | none => simp only [wiGo, e, e2]
      | some m =>
        cases e3 : gs[m]? with
        | none => rw [wiGo_none e e2 e3, wiGo_none e e2 e3]
        | some g =>
          obtain ⟨_, _, _, h4⟩ := lastIx_some e2
          have hm : p ≤ m := Nat.le_of_not_lt fun z => h4 p (by omega) e
          rw [wiGo_some e e2 e3, wiGo_some e e2 e3, wiGo_fuel hl f (m + 1) (by omega)]
theorem wiGo_more (hl : rs.length = gs.length + 1) (p : Nat) : ∀ (k f : Nat), gs.length < f + p → wiGo rs gs (f + k) p = wiGo rs gs f p
  | 0, f, _ => rfl
  | k + 1, f, h => by
    rw [show f + (k + 1) = (f + k) + 1 by omega, wiGo_fuel hl _ _ (by omega), wiGo_more hl p k f h]
theorem wiGo_shift {p q : Nat} (hl : rs.length = gs.length + 1) (hpq : p ≤ q) (hq : q ≤ gs.length) : ∀ (f t : Nat), wiGo (rs.take p ++ rs.drop q) (gs.take p ++ gs.drop q) f (p + t) = wiGo rs gs f (q + t)
  | 0, t => rfl
  | f + 1, t => by
    have lp : (rs.take p).length = p := by rw [List.length_take]; omega
    have lg : (gs.take p).length = p := by rw [List.length_take]; omega
    have e1 : (rs.take p ++ rs.drop q)[p + t]? = rs[q + t]? := by
      rw [List.getElem?_append_right (by omega), lp, List.getElem?_drop]
      congr 1
      omega
    cases e : rs[q + t]? with
    | none =>
      rw [e] at e1
      simp only [wiGo, e, e1]
    | some r =>
      rw [e] at e1
      have hm : r ∈ rs.drop q := List.mem_of_getElem? (i := t) (by rw [List.getElem?_drop]; exact e)
      obtain ⟨m, hm⟩ := lastIx_mem (n := 0) hm
      have e2 : lastIx r rs 0 = some (m + q) := by
        have z := lastIx_append r (rs.take q) (rs.drop q) 0
        rw [List.take_append_drop, lastIx_shift, hm, List.length_take, Nat.min_eq_left (by omega)] at z
        exact z
      have e3 : lastIx r (rs.take p ++ rs.drop q) 0 = some (m + p) := by
        have z := lastIx_append r (rs.take p) (rs.drop q) 0
        rw [lastIx_shift, hm, lp] at z
        exact z
      have e4 : (gs.take p ++ gs.drop q)[m + p]? = gs[m + q]? := by
        rw [List.getElem?_append_right (by omega), lg, List.getElem?_drop]
        congr 1
        omega
      cases e5 : gs[m + q]? with
      | none =>
        rw [e5] at e4
        rw [wiGo_none e e2 e5, wiGo_none e1 e3 e4]
      | some g =>
        rw [e5] at e4
        rw [wiGo_some e e2 e5, wiGo_some e1 e3 e4, show m + p + 1 = p + (m + 1) by omega, show m + q + 1 = q + (m + 1) by omega, wiGo_shift hl hpq hq f (m + 1)]
theorem wiGo_cut {p q : Nat} (hl : rs.length = gs.length + 1) (hf : first rs = some (p, q)) : p < q ∧ q ≤ gs.length ∧ wiGo (rs.take p ++ rs.drop q) (gs.take p ++ gs.drop q) ((gs.take p ++ gs.drop q).length + 1) 0 = wiGo rs gs (gs.length + 1) 0 := by
  obtain ⟨_, hpq, ⟨r, h3, h4⟩, h5⟩ := firstFrom_some hf
  rw [Nat.sub_zero] at h3 h4
  have hq : q ≤ gs.length := by
    have := (List.getElem?_eq_some_iff.mp h4).1
    omega
  refine ⟨hpq, hq, ?_⟩
  have lp : (rs.take p).length = p := by rw [List.length_take]; omega
  have lg : (gs.take p).length = p := by rw [List.length_take]; omega
  have hl' : (rs.take p ++ rs.drop q).length = (gs.take p ++ gs.drop q).length + 1 := by
    rw [List.length_append, List.length_append, List.length_drop, List.length_drop, lp, lg]
    omega
  have lg' : (gs.take p ++ gs.drop q).length = p + (gs.length - q) := by rw [List.length_append, List.length_drop, lg]
  have a1 := wiGo_pre (f := gs.length + 1) hl (p := p) (by omega) (fun i x hi hx => h5 i x (by omega) hx) p 0 (by omega)
  have a2 := wiGo_pre (f := gs.length + 1) hl' (p := p) (by omega) (fun i x hi hx => by
    rw [List.getElem?_append_left (by omega), List.getElem?_take_of_lt hi] at hx
    intro hm
    refine h5 i x (by omega) hx ?_
    rw [List.drop_append_of_le_length (by omega)] at hm
    rcases List.mem_append.mp hm with z | z
    · rw [List.drop_take] at z
      exact List.mem_of_mem_take z
    · have : rs.drop q = (rs.drop (i + 1)).drop (q - (i + 1)) := by rw [List.drop_drop]; congr 1; omega
      rw [this] at z
      exact List.mem_of_mem_drop z) p 0 (by omega)
  have e1 : wiGo rs gs (p + (gs.length + 1)) 0 = wiGo rs gs (gs.length + 1) 0 := by
    rw [Nat.add_comm]; exact wiGo_more hl 0 p _ (by omega)
  have e2 : wiGo (rs.take p ++ rs.drop q) (gs.take p ++ gs.drop q) (p + (gs.length + 1)) 0 = wiGo (rs.take p ++ rs.drop q) (gs.take p ++ gs.drop q) ((gs.take p ++ gs.drop q).length + 1) 0 := by
    rw [show p + (gs.length + 1) = ((gs.take p ++ gs.drop q).length + 1) + q by omega]
    exact wiGo_more hl' 0 q _ (by omega)
  rw [← e1, ← e2, a1, a2]
  have e3 : wiGo (rs.take p ++ rs.drop q) (gs.take p ++ gs.drop q) (gs.length + 1) p = wiGo rs gs (gs.length + 1) q := wiGo_shift hl (Nat.le_of_lt hpq) hq (gs.length + 1) 0
  rw [e3, List.drop_zero, List.drop_zero]
  congr 1
  · rw [List.take_append_of_le_length (by omega), List.take_take, Nat.min_self]
  · show wiGo rs gs (gs.length + 1) q = wiGo rs gs (gs.length + 1) p
    simp only [wiGo, h3, h4]
theorem wiGo_all (hl : rs.length = gs.length + 1) (hf : first rs = none) : wiGo rs gs (gs.length + 1) 0 = gs := by
  have a1 := wiGo_pre (f := 1) hl (Nat.le_refl _) (fun i x _ hx => firstFrom_none hf i x hx) gs.length 0 (by omega)
  rw [a1, List.drop_zero, List.take_length]
  have hn : gs.length < rs.length := by omega
  have h1 : rs[gs.length]? = some rs[gs.length] := List.getElem?_eq_getElem hn
  rw [wiGo_none h1 (lastIx_own h1 (firstFrom_none hf _ _ h1)) (List.getElem?_eq_none (Nat.le_refl _)), List.append_nil]
end
/-! ### rows -/
theorem rows_len (n : Nat) (gs : List Deed) : (rows n gs).length = gs.length + 1 := rowsFrom_len gs _
theorem rows_cut {n p q : Nat} {gs : List Deed} (hpq : p ≤ q) (hq : q ≤ gs.length) (h : (rows n gs)[p]? = (rows n gs)[q]?) : rows n (gs.take p ++ gs.drop q) = (rows n gs).take p ++ (rows n gs).drop q := by
  have lg : (gs.take p).length = p := by rw [List.length_take]; omega
  have lp : ((rows n gs).take p).length = p := by rw [List.length_take, rows_len]; omega
  have e : rowAt (lones n) (gs.take p) = rowAt (lones n) (gs.take q) := by
    unfold rows at h
    rw [rowsFrom_get gs _ p (by omega), rowsFrom_get gs _ q hq] at h
    exact Option.some.inj h
  apply List.ext_getElem?
  intro i
  by_cases hi : i ≤ (gs.take p ++ gs.drop q).length
  · have e1 : (rows n (gs.take p ++ gs.drop q))[i]? = some (rowAt (lones n) ((gs.take p ++ gs.drop q).take i)) := rowsFrom_get _ _ i hi
    rw [e1]
    rw [List.length_append, List.length_drop, lg] at hi
    by_cases h2 : i < p
    · rw [List.getElem?_append_left (by omega), List.getElem?_take_of_lt h2]
      have : (rows n gs)[i]? = some (rowAt (lones n) (gs.take i)) := rowsFrom_get gs _ i (by omega)
      rw [this, List.take_append_of_le_length (by omega), List.take_take, Nat.min_eq_left (by omega)]
    · rw [List.getElem?_append_right (by omega), lp, List.getElem?_drop]
      have : (rows n gs)[q + (i - p)]? = some (rowAt (lones n) (gs.take (q + (i - p)))) := rowsFrom_get gs _ _ (by omega)
      rw [this, List.take_append, lg, List.take_of_length_le (l := gs.take p) (by omega), rowAt_append, e, ← rowAt_append, List.take_add]
  · rw [List.getElem?_eq_none (by rw [rows_len]; omega), List.getElem?_eq_none]
    rw [List.length_append, List.length_drop, lg] at hi
    rw [List.length_append, List.length_drop, lp, rows_len]
    omega
/-- cut at the first like pair -/
theorem cut_step {n p q : Nat} {gs : List Deed} (hf : first (rows n gs) = some (p, q)) : p < q ∧ q ≤ gs.length ∧ rows n (gs.take p ++ gs.drop q) = (rows n gs).take p ++ (rows n gs).drop q ∧ withoutIdle n (gs.take p ++ gs.drop q) = withoutIdle n gs ∧
    List.Sublist (gs.take p ++ gs.drop q) gs ∧ rowAt (lones n) (gs.take p ++ gs.drop q) = rowAt (lones n) gs := by
  obtain ⟨h1, h2, h3⟩ := wiGo_cut (rows_len n gs) hf
  obtain ⟨_, _, ⟨r, h4, h5⟩, _⟩ := firstFrom_some hf
  rw [Nat.sub_zero] at h4 h5
  have e := rows_cut (Nat.le_of_lt h1) h2 (h4.trans h5.symm)
  refine ⟨h1, h2, e, ?_, ?_, ?_⟩
  · unfold withoutIdle
    rw [e]
    exact h3
  · have : gs.drop q = (gs.drop p).drop (q - p) := by rw [List.drop_drop]; congr 1; omega
    have z : List.Sublist (gs.take p ++ gs.drop q) (gs.take p ++ gs.drop p) := by
      rw [this]
      exact List.Sublist.append_left (List.drop_sublist _ _) _
    rwa [List.take_append_drop] at z
  · have a1 : rowAt (lones n) (gs.take p) = rowAt (lones n) (gs.take q) := by
      have b1 : (rows n gs)[p]? = some (rowAt (lones n) (gs.take p)) := rowsFrom_get gs _ p (by omega)
      have b2 : (rows n gs)[q]? = some (rowAt (lones n) (gs.take q)) := rowsFrom_get gs _ q h2
      rw [h4] at b1
      rw [h5] at b2
      exact Option.some.inj (b1.symm.trans b2)
    rw [rowAt_append, a1, ← rowAt_append, List.take_append_drop]
theorem cut_none {n : Nat} {gs : List Deed} (hf : first (rows n gs) = none) : withoutIdle n gs = gs := wiGo_all (rows_len n gs) hf
theorem wi_facts (n : Nat) : ∀ (k : Nat) (gs : List Deed), gs.length ≤ k → List.Sublist (withoutIdle n gs) gs ∧ rowAt (lones n) (withoutIdle n gs) = rowAt (lones n) gs ∧ firstIdle n (withoutIdle n gs) = none := by
  intro k
  induction k with
  | zero =>
    intro gs h
    have : gs = [] := List.length_eq_zero_iff.mp (by omega)
    subst this
    have e : withoutIdle n [] = [] := cut_none rfl
    rw [e]
    exact ⟨List.Sublist.refl _, rfl, rfl⟩
  | succ k ih =>
    intro gs h
    cases hf : first (rows n gs) with
    | none =>
      rw [cut_none hf]
      exact ⟨List.Sublist.refl _, rfl, hf⟩
    | some pq =>
      obtain ⟨p, q⟩ := pq
      obtain ⟨h1, h2, h3, h4, h5, h6⟩ := cut_step hf
      obtain ⟨i1, i2, i3⟩ := ih (gs.take p ++ gs.drop q) (by rw [List.length_append, List.length_take, List.length_drop]; omega)
      rw [h4] at i1 i2 i3
      exact ⟨i1.trans h5, i2.trans h6, i3⟩
end DD
/-! T2: plain.py, rays.py -/
namespace DD
open PySem PySem.Spec L2
open PyProof.Rows hiding St
local macro_rules | `(tactic| walk_at "side") => `(tactic| first | exact Nat.le_of_ble_eq_true rfl | assumption | omega | decide | rfl | (simp; done) | (simp; omega))
/-- the constants of deeds.py -/
structure Gk (K : PySem.W.Frag) (mg : Str → Option Value) : Prop where
  TURN : ∃ t, mg "TURN" = some (.str "turn" t)
  SWAP : ∃ t, mg "SWAP" = some (.str "swap" t)
  MIX : ∃ t, mg "MIX" = some (.str "mix" t)
  HALF : ∃ t, mg "HALF" = some (.int 4 t)
  FULL : ∃ t, mg "FULL" = some (.int 8 t)
  ONE : GTup K mg "ONE" [1, 0, 0, 0, 0]
  NOUGHT : GTup K mg "NOUGHT" [0, 0, 0, 0, 0]
section
variable {P : Program} {w : World} {K : PySem.W.Frag} {mg : Str → Option Value} {base : Heap}
/-! ### is_number, is_count, is_below, is_tuple_of -/
def R_is_number (ds : List PyData) (d : PyData) : Prop := ∃ i, ds = [.int i] ∧ d = .bool true
theorem ok_is_number (Z : Bi mg) (T : At K mg "is_number" s_is_number ["thing"]) : DefOk P w K mg base "is_number" ["thing"] 1 (spD K R_is_number) := by
  refine at_def T R_is_number sc_is_number (fun ds d h => by obtain ⟨_, rfl, _⟩ := h; rfl) fun f cdv A outer s H E hr c ds d h => ?_
  obtain ⟨i, rfl, rfl⟩ := h
  exact ds_ret (de_and (de_is5 .int Z.isinstance Z.int (de_var 0 rfl)) (fun _ => (de_one (de_not (de_is5 .bool Z.isinstance Z.bool (de_var 0 rfl)))))) rfl
def R_is_count (ds : List PyData) (d : PyData) : Prop := ∃ i : Int, ds = [.int i] ∧ d = .bool (decide (0 ≤ i))
theorem ok_is_count (D_is_number : DefOk P w K mg base "is_number" ["thing"] 1 (spD K R_is_number)) (T : At K mg "is_count" s_is_count ["thing"]) : DefOk P w K mg base "is_count" ["thing"] 2 (spD K R_is_count) := by
  refine at_def T R_is_count sc_is_count (fun ds d h => by obtain ⟨_, rfl, _⟩ := h; rfl) fun f cdv A outer s H E hr c ds d h => ?_
  obtain ⟨i, rfl, rfl⟩ := h
  exact ds_ret (de_and (de_call D_is_number (hr.mono (by decide)) (da_cons (de_var 0 rfl) da_nil) ⟨_, rfl, rfl⟩) (fun _ => (de_one (de_cmp (de_var 0 rfl) de_int c_ge)))) rfl
def R_is_below (ds : List PyData) (d : PyData) : Prop := ∃ i m : Int, ds = [.int i, .int m] ∧ d = .bool (decide (0 ≤ i) && decide (i < m))
theorem ok_is_below (D_is_count : DefOk P w K mg base "is_count" ["thing"] 2 (spD K R_is_count)) (T : At K mg "is_below" s_is_below ["thing", "many"]) : DefOk P w K mg base "is_below" ["thing", "many"] 3 (spD K R_is_below) := by
  refine at_def T R_is_below sc_is_below (fun ds d h => by obtain ⟨_, _, rfl, _⟩ := h; rfl) fun f cdv A outer s H E hr c ds d h => ?_
  obtain ⟨i, m, rfl, rfl⟩ := h
  exact ds_ret (de_and (de_call D_is_count (hr.mono (by decide)) (da_cons (de_var 0 rfl) da_nil) ⟨_, rfl, rfl⟩) (fun _ => (de_one (de_cmp (de_var 0 rfl) (de_var 1 rfl) c_lt)))) rfl
def isTup (d : PyData) (n : Int) : Bool := match d with
  | .tuple ds => decide ((ds.length : Int) = n)
  | _ => false
def R_is_tuple_of (ds : List PyData) (d : PyData) : Prop := ∃ x n, ds = [x, .int n] ∧ d = .bool (isTup x n)
theorem ok_is_tuple_of (Z : Bi mg) (T : At K mg "is_tuple_of" s_is_tuple_of ["thing", "size"]) : DefOk P w K mg base "is_tuple_of" ["thing", "size"] 1 (spD K R_is_tuple_of) := by
  refine at_def T R_is_tuple_of sc_is_tuple_of (fun ds d h => by obtain ⟨_, _, rfl, _⟩ := h; rfl) fun f cdv A outer s H E hr c ds d h => ?_
  obtain ⟨x, n, rfl, rfl⟩ := h
  cases x with
  | tuple xs => exact ds_ret (de_and (de_is5 .tuple Z.isinstance Z.tuple (de_var 0 rfl)) (fun _ => (de_one (de_cmp (de_lenT Z.len (de_var 0 rfl)) (de_var 1 rfl) c_eqI)))) rfl
  | _ => exact ds_ret (de_and (l := false) (de_is5 .tuple Z.isinstance Z.tuple (de_var 0 rfl)) (fun z => by cases z)) rfl
/-! ### put_at -/
def R_put_at (ds : List PyData) (d : PyData) : Prop := ∃ xs i y, ds = [.tuple xs, .int i, y] ∧ xs.length ≤ 1000 ∧ d = .tuple (cutD xs none (some i) ++ [y] ++ cutD xs (some (i + 1)) none)
theorem cutD_len (xs : List PyData) (lo hi : Option Int) : (cutD xs lo hi).length ≤ xs.length := by
  unfold cutD
  rw [List.length_take, List.length_drop]
  omega
theorem ok_put_at (T : At K mg "put_at" s_put_at ["row", "place", "bit"]) : DefOk P w K mg base "put_at" ["row", "place", "bit"] 1 (spD K R_put_at) := by
  refine at_def T R_put_at sc_put_at (fun ds d h => by obtain ⟨_, _, _, rfl, _⟩ := h; rfl) fun f cdv A outer s H E hr c ds d h => ?_
  obtain ⟨xs, i, y, rfl, hx, rfl⟩ := h
  have l1 := cutD_len xs none (some i)
  have l2 := cutD_len xs (some (i + 1)) none
  exact ds_ret (de_bin (de_bin (de_slT (de_var 0 rfl) do_none (do_some (de_var 1 rfl))) (de_tup (da_cons (de_var 2 rfl) da_nil)) (b_catT (by walk_at "side"))) (de_slT (de_var 0 rfl) (do_some (de_bin (de_var 1 rfl) de_int b_add)) do_none) (b_catT (by walk_at "side"))) rfl
theorem cut_set (xs : List PyData) (i : Nat) (y : PyData) (h : i < xs.length) : cutD xs none (some (i : Int)) ++ [y] ++ cutD xs (some ((i : Int) + 1)) none = xs.set i y := by
  unfold cutD
  rw [HT.sIx_none, HT.sIx_none, HT.sIx_nat, show ((i : Int) + 1) = ((i + 1 : Nat) : Int) by omega, HT.sIx_nat, List.set_eq_take_append_cons_drop, if_pos h, List.drop_zero, Nat.sub_zero, Nat.min_eq_left (by omega), Nat.min_eq_left (by omega), List.take_of_length_le (l := List.drop (i + 1) xs) (by rw [List.length_drop]; omega), List.append_assoc]
  rfl
/-! ### rays -/
theorem hu64 {k : Nat} {A : Around} (hr : Room k A) : A.units + 64 < cLine := hr.units
theorem hu65 {k : Nat} {A : Around} (hr : Room k A) : A.units + 65 < cLine := by have := hr.un; omega
def R_shortened (ds : List PyData) (d : PyData) : Prop := ∃ (v : V4) (k : Nat), ds = [encV v, .int k] ∧ d = encR (Ray.shorten v k)
theorem even_dec (v : V4) : v.even = (decide ((v.a + v.c) % 2 = 0) && decide ((v.b + v.d) % 2 = 0)) := rfl
theorem shL_step {k : Nat} {v : V4} (h : v.even = true) : Ray.shL (k + 1) v = Ray.shL k v.half := by
  show (if v.even = true then Ray.shL k v.half else ⟨v, k + 1⟩) = _
  rw [if_pos h]
theorem shL_stop {k : Nat} {v : V4} (h : (decide ((0 : Int) < k) && v.even) = false) : Ray.shL k v = ⟨v, k⟩ := by
  cases k with
  | zero => rfl
  | succ k =>
    show (if v.even = true then Ray.shL k v.half else ⟨v, k + 1⟩) = _
    rw [decide_eq_true (by omega), Bool.true_and] at h
    rw [if_neg (by rw [h]; exact Bool.false_ne_true)]
theorem ok_shortened (T : At K mg "shortened" s_shortened ["numbers", "k"]) : DefOk P w K mg base "shortened" ["numbers", "k"] 1 (spD K R_shortened) := by
  refine at_def T R_shortened sc_shortened (fun ds d h => by obtain ⟨_, _, rfl, _⟩ := h; rfl) fun f cdv A outer s H E hr c ds d h => ?_
  obtain ⟨v, k, rfl, rfl⟩ := h
  refine ds_unp (de_var 0 rfl) (dg_tup rfl (dgs_cons (dg_name 2 sc_shortened.nd) (dgs_cons (dg_name 3 sc_shortened.nd) (dgs_cons (dg_name 4 sc_shortened.nd) (dgs_cons (dg_name 5 sc_shortened.nd) dgs_nil))))) ?_
  refine ds_ifR (k := decide (v = V4.zero)) ?_ (fun z => ?_) (fun z => ?_)
  · have e := eqv_dec (encV_ok v) (encV_ok V4.zero) encV_inj
    rw [← e]
    exact (dt_cmp (de_tup (da_cons (de_var 2 rfl) (da_cons (de_var 3 rfl) (da_cons (de_var 4 rfl) (da_cons (de_var 5 rfl) da_nil))))) (de_tup (da_cons de_int (da_cons de_int (da_cons de_int (da_cons de_int da_nil))))) (c_eqD (hu64 hr) (okn_shaped (encV_ok v)) (okn_shaped (encV_ok V4.zero))))
  · refine ds_ret (de_tup (da_cons de_int (da_cons de_int (da_cons de_int (da_cons de_int (da_cons de_int da_nil)))))) ?_
    have z := of_decide_eq_true z
    subst z
    rfl
  · have z := of_decide_eq_false z
    have e : Ray.shorten v k = Ray.shL k v := by
      unfold Ray.shorten
      rw [if_neg z]
    rw [e]
    refine ds_while (fun n ρ' => ∃ (u : V4) (m : Nat), n = m ∧ Ray.shL m u = Ray.shL k v ∧ ρ' = [.d (encV v), .d (.int m), .d (.int u.a), .d (.int u.b), .d (.int u.c), .d (.int u.d)]) k ⟨v, k, rfl, rfl, rfl⟩ fun n ρ1 hI => ?_
    obtain ⟨u, m, rfl, hu, rfl⟩ := hI
    refine ⟨decide ((0 : Int) < n) && u.even, (dw_and (dt_cmp (de_var 1 rfl) de_int c_gt) (fun _ => (dw_and (dt_cmp (de_bin (de_bin (de_var 2 rfl) (de_var 4 rfl) b_add) de_int (b_mod (by decide))) de_int c_eqI) (fun _ => (dw_and1 (dt_cmp (de_bin (de_bin (de_var 3 rfl) (de_var 5 rfl) b_add) de_int (b_mod (by decide))) de_int c_eqI)))))).dt, fun h => ?_, fun h => ?_⟩
    · rw [Bool.and_eq_true] at h
      obtain ⟨h1, h2⟩ := h
      cases n with
      | zero => cases h1
      | succ m =>
        refine ds_unp (de_tup (da_cons (de_bin (de_bin (de_var 3 rfl) (de_var 5 rfl) b_sub) de_int (b_div (by decide) (by decide))) (da_cons (de_bin (de_bin (de_var 2 rfl) (de_var 4 rfl) b_add) de_int (b_div (by decide) (by decide))) (da_cons (de_bin (de_bin (de_var 3 rfl) (de_var 5 rfl) b_add) de_int (b_div (by decide) (by decide))) (da_cons (de_bin (de_bin (de_var 4 rfl) (de_var 2 rfl) b_sub) de_int (b_div (by decide) (by decide))) da_nil))))) (dg_tup rfl (dgs_cons (dg_name 2 sc_shortened.nd) (dgs_cons (dg_name 3 sc_shortened.nd) (dgs_cons (dg_name 4 sc_shortened.nd) (dgs_cons (dg_name 5 sc_shortened.nd) dgs_nil))))) ?_
        refine ds_aug 1 ip_sub rfl de_int ?_ sc_shortened.nd
        refine ds_nil ⟨m, by omega, u.half, m, rfl, (shL_step h2).symm.trans hu, ?_⟩
        show _ = [Sl.d (encV v), Sl.d (.int (m : Nat)), _, _, _, _]
        rw [show ((m : Nat) : Int) = ((m + 1 : Nat) : Int) - 1 by omega]
        rfl
    · refine ds_ret (de_tup (da_cons (de_var 2 rfl) (da_cons (de_var 3 rfl) (da_cons (de_var 4 rfl) (da_cons (de_var 5 rfl) (da_cons (de_var 1 rfl) da_nil)))))) ?_
      rw [← hu, shL_stop h]
      rfl
/-! times_root -/
def timesRoot (n : Nat) (v : V4) : V4 := V4.scale (2 ^ (n / 2)) (if n % 2 = 1 then v.root else v)
def R_times_root (ds : List PyData) (d : PyData) : Prop := ∃ (v : V4) (n : Nat), ds = [encV v, .int n] ∧ n ≤ 120 ∧ d = encV (timesRoot n v)
theorem pow_bd {n : Nat} (h : n ≤ 60) : (2 : Int) ^ n < 2 ^ 64 ∧ -(2 ^ 64) < (2 : Int) ^ n := by
  have h1 : (2 : Nat) ^ n ≤ 2 ^ 60 := Nat.pow_le_pow_right (by decide) h
  have h2 : ((2 : Int) ^ n) = ((2 ^ n : Nat) : Int) := by rw [Int.natCast_pow]; rfl
  rw [h2]
  have h3 : (2 : Nat) ^ 60 < 2 ^ 64 := by decide
  generalize (2 : Nat) ^ n = m at *
  omega
theorem ok_times_root (Z : Bi mg) (T : At K mg "times_root" s_times_root ["numbers", "many"]) : DefOk P w K mg base "times_root" ["numbers", "many"] 1 (spD K R_times_root) := by
  refine at_def T R_times_root sc_times_root (fun ds d h => by obtain ⟨_, _, rfl, _⟩ := h; rfl) fun f cdv A outer s H E hr c ds d h => ?_
  obtain ⟨v, n, rfl, hn, rfl⟩ := h
  refine ds_unp (de_var 0 rfl) (dg_tup rfl (dgs_cons (dg_name 2 sc_times_root.nd) (dgs_cons (dg_name 3 sc_times_root.nd) (dgs_cons (dg_name 4 sc_times_root.nd) (dgs_cons (dg_name 5 sc_times_root.nd) dgs_nil))))) ?_
  refine ds_if (fun ρ' => ∃ u : V4, u = (if n % 2 = 1 then v.root else v) ∧ ρ' = [.d (encV v), .d (.int n), .d (.int u.a), .d (.int u.b), .d (.int u.c), .d (.int u.d), .no, .no]) (dt_cmp (de_bin (de_var 1 rfl) de_int (b_mod (by decide))) de_int c_eqI) (fun z => ?_) (fun z => ?_) fun ρ' h => ?_
  · refine ds_unp (de_tup (da_cons (de_bin (de_var 3 rfl) (de_var 5 rfl) b_sub) (da_cons (de_bin (de_var 2 rfl) (de_var 4 rfl) b_add) (da_cons (de_bin (de_var 3 rfl) (de_var 5 rfl) b_add) (da_cons (de_bin (de_var 4 rfl) (de_var 2 rfl) b_sub) da_nil))))) (dg_tup rfl (dgs_cons (dg_name 2 sc_times_root.nd) (dgs_cons (dg_name 3 sc_times_root.nd) (dgs_cons (dg_name 4 sc_times_root.nd) (dgs_cons (dg_name 5 sc_times_root.nd) dgs_nil))))) ?_
    have z := of_decide_eq_true z
    exact ds_nil ⟨v.root, (if_pos (by omega)).symm, rfl⟩
  · have z := of_decide_eq_false z
    exact ds_nil ⟨v, (if_neg (by omega)).symm, rfl⟩
  · obtain ⟨u, hu, rfl⟩ := h
    unfold timesRoot
    rw [← hu]
    refine ds_set 6 de_int ?_ sc_times_root.nd
    refine ds_for (di_rng1 Z.range (de_bin (de_var 1 rfl) de_int (b_div (by decide) (by decide))) (by walk_at "side") (by walk_at "side")) (fun i ρ' => ∃ y, ρ' = [.d (encV v), .d (.int n), .d (.int u.a), .d (.int u.b), .d (.int u.c), .d (.int u.d), .d (.int (2 ^ i)), y]) ⟨.no, rfl⟩ (fun i x ρ1 hx hI => ?_) fun ρ1 hI => ?_
    · obtain ⟨y, rfl⟩ := hI
      refine ⟨_, _, dg_name 7 sc_times_root.nd, ds_set 6 (de_bin (de_var 6 rfl) de_int (b_mulR (by decide) (by decide))) (ds_nil ⟨.d x, ?_⟩) sc_times_root.nd⟩
      rw [Int.pow_succ]
      rfl
    · obtain ⟨y, rfl⟩ := hI
      have e : (upD 0 1 ((n : Int) / 2).toNat).length = n / 2 := by rw [upD_len]; omega
      rw [e]
      obtain ⟨p1, p2⟩ := pow_bd (n := n / 2) (by omega)
      exact ds_ret (de_tup (da_cons (de_bin (de_var 2 rfl) (de_var 6 rfl) (b_mulR p2 p1)) (da_cons (de_bin (de_var 3 rfl) (de_var 6 rfl) (b_mulR p2 p1)) (da_cons (de_bin (de_var 4 rfl) (de_var 6 rfl) (b_mulR p2 p1)) (da_cons (de_bin (de_var 5 rfl) (de_var 6 rfl) (b_mulR p2 p1)) da_nil))))) rfl
/-! ray_sum -/
theorem root_root (v : V4) : v.root.root = v.scale 2 := by
  obtain ⟨a, b, c, d⟩ := v
  simp only [V4.root, V4.scale, V4.mk.injEq]
  omega
theorem rootN_two (n : Nat) : ∀ v : V4, V4.rootN (2 * n) v = v.scale (2 ^ n) := by
  induction n with
  | zero => intro v; obtain ⟨a, b, c, d⟩ := v; simp [V4.rootN, V4.scale]
  | succ n ih =>
    intro v
    show V4.rootN (2 * n) v.root.root = _
    rw [ih, root_root]
    obtain ⟨a, b, c, d⟩ := v
    simp only [V4.scale, V4.mk.injEq, Int.pow_succ]
    refine ⟨?_, ?_, ?_, ?_⟩ <;> rw [Int.mul_assoc, Int.mul_comm 2]
theorem timesRoot_eq (n : Nat) (v : V4) : timesRoot n v = V4.rootN n v := by
  unfold timesRoot
  have h : n % 2 = 1 ∨ n % 2 = 0 := by omega
  rcases h with h | h
  · rw [if_pos h]
    have e : n = 2 * (n / 2) + 1 := by omega
    conv => rhs; rw [e]
    show _ = V4.rootN (2 * (n / 2)) v.root
    rw [rootN_two]
  · rw [if_neg (by omega)]
    have e : n = 2 * (n / 2) := by omega
    conv => rhs; rw [e]
    rw [rootN_two]
theorem shL_k (k : Nat) : ∀ v : V4, (Ray.shL k v).k ≤ k := by
  induction k with
  | zero => intro v; exact Nat.le_refl _
  | succ k ih =>
    intro v
    show (if v.even = true then Ray.shL k v.half else ⟨v, k + 1⟩ : Ray).k ≤ k + 1
    split
    · exact Nat.le_succ_of_le (ih _)
    · exact Nat.le_refl _
theorem shorten_k (v : V4) (k : Nat) : (Ray.shorten v k).k ≤ k := by
  unfold Ray.shorten
  split
  · exact Nat.zero_le _
  · exact shL_k k v
theorem sum_k (r s : Ray) : (Ray.sum r s).k ≤ max r.k s.k := shorten_k _ _
theorem over_k (r : Ray) : r.over.k ≤ r.k + 1 := shorten_k _ _
theorem max_int (a b : Nat) : (if (b : Int) > (a : Int) then (b : Int) else (a : Int)) = ((max a b : Nat) : Int) := by
  split <;> omega
theorem cutV4 (r : Ray) : PyData.tuple (cutD [.int r.v.a, .int r.v.b, .int r.v.c, .int r.v.d, .int (r.k : Int)] none (some 4)) = encV r.v := rfl
def R_ray_sum (ds : List PyData) (d : PyData) : Prop := ∃ (r s : Ray), ds = [encR r, encR s] ∧ r.k ≤ 120 ∧ s.k ≤ 120 ∧ d = encR (Ray.sum r s)
theorem ok_ray_sum (Z : Bi mg) (D_times_root : DefOk P w K mg base "times_root" ["numbers", "many"] 1 (spD K R_times_root)) (D_shortened : DefOk P w K mg base "shortened" ["numbers", "k"] 1 (spD K R_shortened)) (T : At K mg "ray_sum" s_ray_sum ["one", "other"]) :
    DefOk P w K mg base "ray_sum" ["one", "other"] 2 (spD K R_ray_sum) := by
  refine at_def T R_ray_sum sc_ray_sum (fun ds d h => by obtain ⟨_, _, rfl, _⟩ := h; rfl) fun f cdv A outer s' H E hr c ds d h => ?_
  obtain ⟨r, s, rfl, h1, h2, rfl⟩ := h
  refine ds_set 2 ((de_max Z.max (da_cons (de_ixT (de_var 0 rfl) de_int rfl) (da_cons (de_ixT (de_var 1 rfl) de_int rfl) da_nil))).is (congrArg PyData.int (max_int r.k s.k))) ?_ sc_ray_sum.nd
  refine ds_par 3 4 (da_cons ((de_call D_times_root (hr.mono (by decide)) (da_cons (de_tupT Z.tuple (de_slT (de_var 0 rfl) do_none (do_some de_int))) (da_cons (de_bin (de_var 2 rfl) (de_ixT (de_var 0 rfl) de_int rfl) b_sub) da_nil)) ⟨r.v, max r.k s.k - r.k, by rw [cutV4, Int.ofNat_sub (by omega)], by omega, rfl⟩)) (da_cons (de_call D_times_root (hr.mono (by decide)) (da_cons (de_tupT Z.tuple (de_slT (de_var 1 rfl) do_none (do_some de_int))) (da_cons (de_bin (de_var 2 rfl) (de_ixT (de_var 1 rfl) de_int rfl) b_sub) da_nil)) ⟨s.v, max r.k s.k - s.k, by rw [cutV4, Int.ofNat_sub (by omega)], by omega, rfl⟩) da_nil)) ?_ sc_ray_sum.nd rfl
  refine ds_ret (de_call D_shortened (hr.mono (by decide)) (da_cons (de_tup (da_cons (de_bin (de_ixT (de_var 3 rfl) de_int rfl) (de_ixT (de_var 4 rfl) de_int rfl) b_add) (da_cons (de_bin (de_ixT (de_var 3 rfl) de_int rfl) (de_ixT (de_var 4 rfl) de_int rfl) b_add) (da_cons (de_bin (de_ixT (de_var 3 rfl) de_int rfl) (de_ixT (de_var 4 rfl) de_int rfl) b_add) (da_cons (de_bin (de_ixT (de_var 3 rfl) de_int rfl) (de_ixT (de_var 4 rfl) de_int rfl) b_add) da_nil))))) (da_cons (de_var 2 rfl) da_nil)) ⟨(timesRoot (max r.k s.k - r.k) r.v).add (timesRoot (max r.k s.k - s.k) s.v), max r.k s.k, rfl, rfl⟩) ?_
  rw [timesRoot_eq, timesRoot_eq]
  rfl
/-! turned_ray: once, four times -/
def R_turned_ray (ds : List PyData) (d : PyData) : Prop := ∃ (r : Ray), (ds = [encR r, .int 1] ∧ d = encR r.tw) ∨ (ds = [encR r, .int 4] ∧ d = encR r.neg)
theorem ok_turned_ray (Z : Bi mg) (T : At K mg "turned_ray" s_turned_ray ["ray", "many"]) : DefOk P w K mg base "turned_ray" ["ray", "many"] 1 (spD K R_turned_ray) := by
  refine at_def T R_turned_ray sc_turned_ray (fun ds d h => by obtain ⟨_, ⟨rfl, _⟩ | ⟨rfl, _⟩⟩ := h <;> rfl) fun f cdv A outer s' H E hr c ds d h => ?_
  obtain ⟨r, h⟩ := h
  obtain ⟨m, hm, rfl, hd⟩ : ∃ m : Int, (m = 1 ∧ d = encR r.tw ∨ m = 4 ∧ d = encR r.neg) ∧ ds = [encR r, .int m] ∧ True := by
    rcases h with ⟨rfl, h⟩ | ⟨rfl, h⟩
    · exact ⟨1, .inl ⟨rfl, h⟩, rfl, trivial⟩
    · exact ⟨4, .inr ⟨rfl, h⟩, rfl, trivial⟩
  refine ds_set 2 ((de_tupT Z.tuple (de_slT (de_var 0 rfl) do_none (do_some de_int))).is (cutV4 r)) ?_ sc_turned_ray.nd
  rcases hm with ⟨rfl, rfl⟩ | ⟨rfl, rfl⟩
  · refine ds_set 1 (de_bin (de_var 1 rfl) de_int (b_mod (by decide))) ?_ sc_turned_ray.nd
    refine ds_ifF (DT.is (dt_cmp (de_var 1 rfl) de_int c_ge) rfl) ?_
    refine ds_for (di_rng1 Z.range (de_bin (de_var 1 rfl) de_int (b_mod (by decide))) (by walk_at "side") (by walk_at "side")) (fun i ρ' => i = 0 ∧ ρ' = [.d (encR r), .d (.int 1), .d (encV r.v), .no] ∨ i = 1 ∧ ∃ y, ρ' = [.d (encR r), .d (.int 1), .d (encV r.v.tw), y]) (.inl ⟨rfl, rfl⟩) (fun i x ρ1 hx hI => ?_) fun ρ1 hI => ?_
    · rcases hI with ⟨rfl, rfl⟩ | ⟨rfl, y, rfl⟩
      · exact ⟨_, _, dg_name 3 sc_turned_ray.nd, ds_set 2 (de_bin (de_tup (da_cons (de_neg (de_ixT (de_var 2 rfl) de_int rfl)) da_nil)) (de_slT (de_var 2 rfl) do_none (do_some de_int)) (b_catT (by walk_at "side"))) (ds_nil (.inr ⟨rfl, .d x, rfl⟩)) sc_turned_ray.nd⟩
      · exact absurd (List.getElem?_eq_some_iff.mp hx).1 (by rw [upD_len]; decide)
    · rcases hI with ⟨h0, _⟩ | ⟨_, y, rfl⟩
      · exact absurd h0 (by decide)
      · exact ds_ret (de_bin (de_var 2 rfl) (de_tup (da_cons (de_ixT (de_var 0 rfl) de_int rfl) da_nil)) (b_catT (by walk_at "side"))) rfl
  · refine ds_set 1 (de_bin (de_var 1 rfl) de_int (b_mod (by decide))) ?_ sc_turned_ray.nd
    refine ds_ifT (DT.is (dt_cmp (de_var 1 rfl) de_int c_ge) rfl) (fun ρ' => ρ' = [.d (encR r), .d (.int 4), .d (encV r.v.neg), .no]) (ds_set 2 (de_tup (da_cons (de_neg (de_ixT (de_var 2 rfl) de_int rfl)) (da_cons (de_neg (de_ixT (de_var 2 rfl) de_int rfl)) (da_cons (de_neg (de_ixT (de_var 2 rfl) de_int rfl)) (da_cons (de_neg (de_ixT (de_var 2 rfl) de_int rfl)) da_nil))))) (ds_nil rfl) sc_turned_ray.nd) fun ρ' h => ?_
    subst h
    refine ds_for (di_rng1 Z.range (de_bin (de_var 1 rfl) de_int (b_mod (by decide))) (by walk_at "side") (by walk_at "side")) (fun i ρ' => ρ' = [.d (encR r), .d (.int 4), .d (encV r.v.neg), .no]) rfl (fun i x ρ1 hx hI => ?_) fun ρ1 hI => ?_
    · exact absurd (List.getElem?_eq_some_iff.mp hx).1 (by simp [upD_len])
    · subst hI
      exact ds_ret (de_bin (de_var 2 rfl) (de_tup (da_cons (de_ixT (de_var 0 rfl) de_int rfl) da_nil)) (b_catT (by walk_at "side"))) rfl
/-! over_root, once -/
def R_over_root (ds : List PyData) (d : PyData) : Prop := ∃ (r : Ray), ds = [encR r, .int 1] ∧ d = encR r.over
theorem ok_over_root (Z : Bi mg) (D_shortened : DefOk P w K mg base "shortened" ["numbers", "k"] 1 (spD K R_shortened)) (T : At K mg "over_root" s_over_root ["ray", "many"]) : DefOk P w K mg base "over_root" ["ray", "many"] 2 (spD K R_over_root) := by
  refine at_def T R_over_root sc_over_root (fun ds d h => by obtain ⟨_, rfl, _⟩ := h; rfl) fun f cdv A outer s' H E hr c ds d h => ?_
  obtain ⟨r, rfl, rfl⟩ := h
  refine ds_set 2 (de_bin (de_ixT (de_var 0 rfl) de_int rfl) (de_var 1 rfl) b_add) ?_ sc_over_root.nd
  refine ds_ifT (DT.is (dt_cmp (de_var 2 rfl) de_int c_ge) (decide_eq_true (by omega))) (fun _ => False) ?_ (fun _ h => h.elim)
  exact ds_ret (de_call D_shortened (hr.mono (by decide)) (da_cons (de_tupT Z.tuple (de_slT (de_var 0 rfl) do_none (do_some de_int))) (da_cons (de_var 2 rfl) da_nil)) ⟨r.v, r.k + 1, by rw [cutV4]; rfl, rfl⟩) rfl
end
end DD
/-! T3: tupled; deeds.py, its first half -/
namespace DD
open PySem PySem.Spec L2
open PyProof.Rows hiding St
local macro_rules | `(tactic| walk_at "side") => `(tactic| first | exact Nat.le_of_ble_eq_true rfl | assumption | omega | decide | rfl | (simp; done) | (simp; omega))
section
variable {P : Program} {w : World} {K : PySem.W.Frag} {mg : Str → Option Value} {base : Heap}
/-! ### tupled -/
def R_tupled (n : Nat) (ds : List PyData) (d : PyData) : Prop := ∃ x, ds = [x] ∧ okn true true n x = true ∧ d = tup n x
theorem ok_tupled (Z : Bi mg) (T : At K mg "tupled" s_tupled ["thing"]) : ∀ n : Nat, DefOk P w K mg base "tupled" ["thing"] (n + 1) (spD K (R_tupled n)) := by
  intro n
  induction n with
  | zero =>
    refine at_def T (R_tupled 0) sc_tupled (fun ds d h => by obtain ⟨_, rfl, _⟩ := h; rfl) fun f cdv A outer s' H E hr c ds d h => ?_
    obtain ⟨x, rfl, hx, hd⟩ := h
    rw [hd]
    refine ds_ret (d := tup 0 x) (de_if (dt_val (de_is55 .list .tuple Z.isinstance Z.list Z.tuple (de_var 0 rfl))) (fun z => ?_) (fun _ => ((de_var 0 rfl)).is ?_)) rfl
    · cases x <;> first | exact absurd z Bool.false_ne_true | cases hx
    · cases x <;> rfl
  | succ n ih =>
    refine at_def T (R_tupled (n + 1)) sc_tupled (fun ds d h => by obtain ⟨_, rfl, _⟩ := h; rfl) fun f cdv A outer s' H E hr c ds d h => ?_
    obtain ⟨x, rfl, hx, rfl⟩ := h
    refine ds_ret (d := tup (n + 1) x) (de_if (dt_val (de_is55 .list .tuple Z.isinstance Z.list Z.tuple (de_var 0 rfl))) (fun z => ?_) (fun z => ((de_var 0 rfl)).is ?_)) rfl
    · cases x with
      | tuple xs =>
        simp only [okn, Bool.and_eq_true, decide_eq_true_eq, List.all_eq_true] at hx
        exact de_tupL Z.tuple (DN.de (dn_lcM (own := [("part", 1)]) (tup n) sc_tupled.nd (blkOk_by (N := N_tupled) (sc := defScope s_tupled) (by decide +kernel)) (di_tup (de_var 0 rfl)) (fun x => [.d (.tuple xs), .d x]) [1]
          (fun i x hi s H' C cl fp => ⟨dg_name 1 sc_tupled.nd, de_call ih hr (da_cons (de_var 1 rfl) da_nil) ⟨x, rfl, hx.2 x (List.mem_of_getElem? hi), rfl⟩⟩) (by omega)))
      | list xs =>
        simp only [okn, Bool.true_and, Bool.and_eq_true, decide_eq_true_eq, List.all_eq_true] at hx
        exact de_tupL Z.tuple (DN.de (dn_lcM (own := [("part", 1)]) (tup n) sc_tupled.nd (blkOk_by (N := N_tupled) (sc := defScope s_tupled) (by decide +kernel)) (di_list (de_var 0 rfl)) (fun x => [.d (.list xs), .d x]) [1]
          (fun i x hi s H' C cl fp => ⟨dg_name 1 sc_tupled.nd, de_call ih hr (da_cons (de_var 1 rfl) da_nil) ⟨x, rfl, hx.2 x (List.mem_of_getElem? hi), rfl⟩⟩) (by omega)))
      | _ => cases z
    · cases x <;> first | rfl | cases z
theorem DefOk.up {x : Str} {ps : List Str} {k k' : Nat} {sp : Sp} (h : DefOk P w K mg base x ps k sp) (e : k ≤ k') : DefOk P w K mg base x ps k' sp := by
  obtain ⟨f, fd, F, a, b, c⟩ := h.ex
  exact ⟨f, fd, F.mono e, a, b, c⟩
theorem DefOk.imp {x : Str} {ps : List Str} {k : Nat} {R R' : List PyData → PyData → Prop} (h : DefOk P w K mg base x ps k (spD K R)) (e : ∀ ds d, R' ds d → R ds d) : DefOk P w K mg base x ps k (spD K R') := by
  obtain ⟨f, fd, F, a, b, c⟩ := h.ex
  exact ⟨f, fd, F.imp fun vs H Q E ⟨B, ds, d, e1, r, hR, q⟩ => ⟨B, ds, d, e1, r, e ds d hR, q⟩, a, b, c⟩
/-! ### sure_deeds, where all places are -/
def kw (gs : List Deed) (n : Nat) : Prop := ∀ g ∈ gs, g.ok n = true
def R_sure_deeds (ds : List PyData) (d : PyData) : Prop := ∃ (n : Nat) (x : PyData) (gs : List Deed), ds = [.int n, x] ∧ okn true true 5 x = true ∧ tup 5 x = encGs gs ∧ kw gs n ∧ d = encGs gs
/-- the numbers behind the word -/
def numsG : Deed → List PyData
  | .turn i => [.int (i : Nat)]
  | .swap i j => [.int (i : Nat), .int (j : Nat)]
  | .mix i j => [.int (i : Nat), .int (j : Nat)]
theorem numsG_ok {g : Deed} {n : Nat} (h : g.ok n = true) : ∀ y ∈ numsG g, ∃ m : Nat, y = .int m ∧ m < n := by
  intro y hy
  cases g with
  | turn i =>
    simp only [numsG, List.mem_singleton] at hy
    exact ⟨i, hy, of_decide_eq_true h⟩
  | swap i j =>
    have h : i < j ∧ j < n := by simpa [Deed.ok] using h
    simp only [numsG, List.mem_cons, List.mem_singleton, List.not_mem_nil, or_false] at hy
    rcases hy with hy | hy
    · exact ⟨i, hy, by omega⟩
    · exact ⟨j, hy, by omega⟩
  | mix i j =>
    have h : i < j ∧ j < n := by simpa [Deed.ok] using h
    simp only [numsG, List.mem_cons, List.mem_singleton, List.not_mem_nil, or_false] at hy
    rcases hy with hy | hy
    · exact ⟨i, hy, by omega⟩
    · exact ⟨j, hy, by omega⟩
theorem ok_sure_deeds (Z : Bi mg) (D_tupled : DefOk P w K mg base "tupled" ["thing"] 6 (spD K (R_tupled 5))) (T : At K mg "sure_deeds" s_sure_deeds ["many", "deeds"]) : DefOk P w K mg base "sure_deeds" ["many", "deeds"] 7 (spD K R_sure_deeds) := by
  refine at_def T R_sure_deeds sc_sure_deeds (fun ds d h => by obtain ⟨_, _, _, rfl, _⟩ := h; rfl) fun f cdv A outer s' H E hr c ds d h => ?_
  obtain ⟨n, x, gs, rfl, hx, ht, hk, rfl⟩ := h
  refine ds_set 2 (de_call D_tupled (hr.mono (by decide)) (da_cons (de_var 1 rfl) da_nil) ⟨x, rfl, hx, rfl⟩) ?_ sc_sure_deeds.nd
  rw [ht]
  refine ds_for (di_tup (de_var 2 rfl)) (fun i ρ' => ∃ y z, ρ' = [.d (.int n), .d x, .d (encGs gs), y, z]) ⟨.no, .no, rfl⟩ (fun i g ρ1 hi hI => ?_) fun ρ1 hI => ?_
  · obtain ⟨y, z, rfl⟩ := hI
    rw [List.getElem?_map] at hi
    obtain ⟨g, hg, rfl⟩ := Option.map_eq_some_iff.mp hi
    have hok := hk g (List.mem_of_getElem? hg)
    have hn := numsG_ok hok
    have hc : ∃ l, encG g = .tuple l ∧ cutD l (some 1) none = numsG g := by cases g <;> exact ⟨_, rfl, rfl⟩
    obtain ⟨l, hl, hcut⟩ := hc
    rw [hl]
    refine ⟨_, _, dg_name 3 sc_sure_deeds.nd, ?_⟩
    refine ds_for (di_tup (de_slT (de_var 3 rfl) (do_some de_int) do_none)) (fun i ρ' => ∃ z, ρ' = [.d (.int n), .d x, .d (encGs gs), .d (.tuple l), z]) ⟨_, rfl⟩ (fun j v ρ1 hj hJ => ?_) fun ρ1 hJ => ?_
    · obtain ⟨z, rfl⟩ := hJ
      rw [hcut] at hj
      obtain ⟨m, rfl, hm⟩ := hn v (List.mem_of_getElem? hj)
      refine ⟨_, _, dg_name 4 sc_sure_deeds.nd, ds_ifF (DT.is (dt_not (dt_chain de_int (de_var 4 rfl) (de_var 0 rfl) c_le c_lt)) ?_) (ds_nil ⟨.d (.int m), rfl⟩)⟩
      rw [decide_eq_true (by omega), decide_eq_true (by omega)]
      rfl
    · obtain ⟨z, rfl⟩ := hJ
      exact ds_nil ⟨.d (.tuple l), z, rfl⟩
  · obtain ⟨y, z, rfl⟩ := hI
    exact ds_ret (de_var 2 rfl) rfl
theorem sure_enc {n : Nat} {gs : List Deed} (h : kw gs n) (hl : gs.length ≤ 1000) : R_sure_deeds [.int n, encGs gs] (encGs gs) := by
  have e := encGs_ok hl
  exact ⟨n, _, gs, rfl, okn_mono (okn_wide (by simp) (by simp) e) (by decide), (tup_mono e (by decide)).trans (tup_id e), h, rfl⟩
/-! ### led_by -/
theorem at_enc {s : Stt} {i : Nat} (h : i < s.length) : atI (s.map encR) (i : Int) = some (encR (s.at i)) := by
  refine atI_nat ?_
  unfold Stt.at
  rw [List.getElem?_map, List.getElem?_eq_getElem h, List.getD_eq_getElem?_getD, List.getElem?_eq_getElem h]
  rfl
theorem set_enc (s : Stt) (i : Nat) (r : Ray) : PyData.tuple ((s.map encR).set i (encR r)) = encS (s.set i r) := by
  unfold encS
  rw [List.map_set]
theorem put_enc {s : Stt} {i : Nat} {r : Ray} (h : i < s.length) (hl : s.length ≤ 1000) : R_put_at [encS s, .int i, encR r] (encS (s.set i r)) :=
  ⟨s.map encR, i, encR r, rfl, by rw [List.length_map]; exact hl, by rw [cut_set _ _ _ (by rw [List.length_map]; exact h), set_enc]⟩
def R_led_by (ds : List PyData) (d : PyData) : Prop := ∃ (s : Stt) (g : Deed), ds = [encS s, encG g] ∧ s.length ≤ 1000 ∧ g.ok s.length = true ∧ KB 119 s ∧ d = encS (led s g)
theorem ok_led_by (G : Gk K mg) (D_put_at : DefOk P w K mg base "put_at" ["row", "place", "bit"] 1 (spD K R_put_at)) (D_turned_ray : DefOk P w K mg base "turned_ray" ["ray", "many"] 1 (spD K R_turned_ray)) (D_ray_sum : DefOk P w K mg base "ray_sum" ["one", "other"] 2 (spD K R_ray_sum))
    (D_over_root : DefOk P w K mg base "over_root" ["ray", "many"] 2 (spD K R_over_root)) (T : At K mg "led_by" s_led_by ["row", "deed"]) : DefOk P w K mg base "led_by" ["row", "deed"] 3 (spD K R_led_by) := by
  refine at_def T R_led_by sc_led_by (fun ds d h => by obtain ⟨_, _, rfl, _⟩ := h; rfl) fun f cdv A outer s' H E hr c ds d h => ?_
  obtain ⟨s, g, rfl, hl, hg, hk, rfl⟩ := h
  cases g with
  | turn i =>
    have hi : i < s.length := of_decide_eq_true hg
    refine ds_set 2 (de_ixT (de_var 0 rfl) (de_ixT (de_var 1 rfl) de_int rfl) (at_enc hi)) ?_ sc_led_by.nd
    refine ds_ifT (DT.is (dt_cmp (de_ixT (de_var 1 rfl) de_int rfl) (de_gstr G.TURN) c_eqT) (decide_eq_true rfl)) (fun _ => False) ?_ (fun _ h => h.elim)
    exact ds_ret (de_call D_put_at (hr.mono (by decide)) (da_cons (de_var 0 rfl) (da_cons (de_ixT (de_var 1 rfl) de_int rfl) (da_cons (de_call D_turned_ray (hr.mono (by decide)) (da_cons (de_var 2 rfl) (da_cons de_int da_nil)) ⟨s.at i, .inl ⟨rfl, rfl⟩⟩) da_nil))) (put_enc hi hl)) rfl
  | swap i j =>
    have hij : i < j ∧ j < s.length := by simpa [Deed.ok] using hg
    refine ds_set 2 (de_ixT (de_var 0 rfl) (de_ixT (de_var 1 rfl) de_int rfl) (at_enc (show i < s.length by omega))) ?_ sc_led_by.nd
    refine ds_ifF (DT.is (dt_cmp (de_ixT (de_var 1 rfl) de_int rfl) (de_gstr G.TURN) c_eqT) (decide_eq_false ne_turn_swap.symm)) ?_
    refine ds_set 3 (de_ixT (de_var 0 rfl) (de_ixT (de_var 1 rfl) de_int rfl) (at_enc hij.2)) ?_ sc_led_by.nd
    refine ds_ifT (DT.is (dt_cmp (de_ixT (de_var 1 rfl) de_int rfl) (de_gstr G.SWAP) c_eqT) (decide_eq_true rfl)) (fun _ => False) ?_ (fun _ h => h.elim)
    exact ds_ret (de_call D_put_at (hr.mono (by decide)) (da_cons (de_call D_put_at (hr.mono (by decide)) (da_cons (de_var 0 rfl) (da_cons (de_ixT (de_var 1 rfl) de_int rfl) (da_cons (de_var 3 rfl) da_nil))) (put_enc (show i < s.length by omega) hl)) (da_cons (de_ixT (de_var 1 rfl) de_int rfl) (da_cons (de_var 2 rfl) da_nil))) (put_enc (show j < _ by rw [List.length_set]; omega) (by rw [List.length_set]; exact hl))) rfl
  | mix i j =>
    have hij : i < j ∧ j < s.length := by simpa [Deed.ok] using hg
    refine ds_set 2 (de_ixT (de_var 0 rfl) (de_ixT (de_var 1 rfl) de_int rfl) (at_enc (show i < s.length by omega))) ?_ sc_led_by.nd
    refine ds_ifF (DT.is (dt_cmp (de_ixT (de_var 1 rfl) de_int rfl) (de_gstr G.TURN) c_eqT) (decide_eq_false ne_turn_mix.symm)) ?_
    refine ds_set 3 (de_ixT (de_var 0 rfl) (de_ixT (de_var 1 rfl) de_int rfl) (at_enc hij.2)) ?_ sc_led_by.nd
    refine ds_ifF (DT.is (dt_cmp (de_ixT (de_var 1 rfl) de_int rfl) (de_gstr G.SWAP) c_eqT) (decide_eq_false ne_swap_mix.symm)) ?_
    have b1 := hk.at i
    have b2 := hk.at j
    refine ds_set 4 (de_call D_over_root (hr.mono (by decide)) (da_cons (de_call D_ray_sum (hr.mono (by decide)) (da_cons (de_var 2 rfl) (da_cons (de_var 3 rfl) da_nil)) ⟨s.at i, s.at j, rfl, by omega, by omega, rfl⟩) (da_cons de_int da_nil)) ⟨_, rfl, rfl⟩) ?_ sc_led_by.nd
    refine ds_set 5 (de_call D_over_root (hr.mono (by decide)) (da_cons (de_call D_ray_sum (hr.mono (by decide)) (da_cons (de_var 2 rfl) (da_cons (de_call D_turned_ray (hr.mono (by decide)) (da_cons (de_var 3 rfl) (da_cons (de_gint G.HALF) da_nil)) ⟨s.at j, .inr ⟨rfl, rfl⟩⟩) da_nil)) ⟨s.at i, (s.at j).neg, rfl, by omega, by show (s.at j).k ≤ 120; omega, rfl⟩) (da_cons de_int da_nil)) ⟨_, rfl, rfl⟩) ?_ sc_led_by.nd
    exact ds_ret (de_call D_put_at (hr.mono (by decide)) (da_cons (de_call D_put_at (hr.mono (by decide)) (da_cons (de_var 0 rfl) (da_cons (de_ixT (de_var 1 rfl) de_int rfl) (da_cons (de_var 4 rfl) da_nil))) (put_enc (show i < s.length by omega) hl)) (da_cons (de_ixT (de_var 1 rfl) de_int rfl) (da_cons (de_var 5 rfl) da_nil))) (put_enc (show j < _ by rw [List.length_set]; omega) (by rw [List.length_set]; exact hl))) rfl
/-! ### led_by_all, deeds_done -/
def R_led_by_all (ds : List PyData) (d : PyData) : Prop := ∃ (s : Stt) (gs : List Deed) (m : Nat), ds = [encS s, encGs gs] ∧ s.length ≤ 1000 ∧ kw gs s.length ∧ KB m s ∧ m + mixN gs ≤ 119 ∧ d = encS (ledAll s gs)
theorem mixN_take (gs : List Deed) (i : Nat) : mixN (gs.take i) ≤ mixN gs := by
  unfold mixN
  exact ((List.take_sublist i gs).filter _).length_le
theorem take_snoc {α : Type} {l : List α} {i : Nat} {x : α} (h : l[i]? = some x) : l.take (i + 1) = l.take i ++ [x] := by
  rw [List.take_add_one, h]
  rfl
theorem ok_led_by_all (D_led_by : DefOk P w K mg base "led_by" ["row", "deed"] 3 (spD K R_led_by)) (T : At K mg "led_by_all" s_led_by_all ["row", "deeds"]) : DefOk P w K mg base "led_by_all" ["row", "deeds"] 4 (spD K R_led_by_all) := by
  refine at_def T R_led_by_all sc_led_by_all (fun ds d h => by obtain ⟨_, _, _, rfl, _⟩ := h; rfl) fun f cdv A outer s' H E hr c ds d h => ?_
  obtain ⟨s, gs, m, rfl, hl, hg, hk, hm, rfl⟩ := h
  refine ds_for (di_tup (de_var 1 rfl)) (fun i ρ' => ∃ y, ρ' = [.d (encS (ledAll s (gs.take i))), .d (encGs gs), y]) ⟨.no, rfl⟩ (fun i g ρ1 hi hI => ?_) fun ρ1 hI => ?_
  · obtain ⟨y, rfl⟩ := hI
    rw [List.getElem?_map] at hi
    obtain ⟨g, hgi, rfl⟩ := Option.map_eq_some_iff.mp hi
    have b := ledAll_kb (gs.take i) m s hk
    have b2 := mixN_take gs i
    refine ⟨_, _, dg_name 2 sc_led_by_all.nd, ds_set 0 (de_call D_led_by (hr.mono (by decide)) (da_cons (de_var 0 rfl) (da_cons (de_var 2 rfl) da_nil)) ⟨_, g, rfl, by rw [ledAll_len]; exact hl, by rw [ledAll_len]; exact hg g (List.mem_of_getElem? hgi), b.mono (by omega), rfl⟩) (ds_nil ⟨.d (encG g), ?_⟩) sc_led_by_all.nd⟩
    rw [take_snoc hgi, ledAll_snoc]
    rfl
  · obtain ⟨y, rfl⟩ := hI
    rw [List.length_map, List.take_length]
    exact ds_ret (de_var 0 rfl) rfl
def R_deeds_done (ds : List PyData) (d : PyData) : Prop := ∃ (s : Stt) (gs : List Deed) (m : Nat), ds = [encS s, encGs gs] ∧ s.length ≤ 1000 ∧ gs.length ≤ 1000 ∧ kw gs s.length ∧ KB m s ∧ m + mixN gs ≤ 119 ∧ d = encS (ledAll s gs)
theorem tup_encS {s : Stt} (h : s.length ≤ 1000) : R_tupled 5 [encS s] (encS s) := by
  have e := encS_ok h
  exact ⟨_, rfl, okn_mono (okn_wide (by simp) (by simp) e) (by decide), ((tup_mono e (by decide)).trans (tup_id e)).symm⟩
theorem ok_deeds_done (Z : Bi mg) (D_tupled : DefOk P w K mg base "tupled" ["thing"] 6 (spD K (R_tupled 5))) (D_sure_deeds : DefOk P w K mg base "sure_deeds" ["many", "deeds"] 7 (spD K R_sure_deeds)) (D_led_by_all : DefOk P w K mg base "led_by_all" ["row", "deeds"] 4 (spD K R_led_by_all)) (T : At K mg "deeds_done" s_deeds_done ["state", "deeds"]) :
    DefOk P w K mg base "deeds_done" ["state", "deeds"] 8 (spD K R_deeds_done) := by
  refine at_def T R_deeds_done sc_deeds_done (fun ds d h => by obtain ⟨_, _, _, rfl, _⟩ := h; rfl) fun f cdv A outer s' H E hr c ds d h => ?_
  obtain ⟨s, gs, m, rfl, hl, hgl, hg, hk, hm, rfl⟩ := h
  exact ds_ret (de_call D_led_by_all (hr.mono (by decide)) (da_cons (de_call D_tupled (hr.mono (by decide)) (da_cons (de_var 0 rfl) da_nil) (tup_encS hl)) (da_cons (de_call D_sure_deeds (hr.mono (by decide)) (da_cons (de_lenT Z.len (de_var 0 rfl)) (da_cons (de_var 1 rfl) da_nil)) (by rw [List.length_map]; exact sure_enc hg hgl)) da_nil)) ⟨s, gs, m, rfl, hl, hg, hk, hm, rfl⟩) rfl
/-! ### lone_state, lone_states, columns_by, columns_behind -/
def R_lone_state (ds : List PyData) (d : PyData) : Prop := ∃ (n i : Nat), ds = [.int n, .int i] ∧ 2 ≤ n ∧ n ≤ 1000 ∧ i < n ∧ d = encS (lone n i)
theorem rep_nought (n : Nat) : (List.replicate n [PyData.tuple ([0, 0, 0, 0, 0].map PyData.int)]).flatten = (List.replicate n Ray.zero).map encR := by
  rw [List.flatten_replicate_singleton, List.map_replicate]
  rfl
theorem ok_lone_state (G : Gk K mg) (D_put_at : DefOk P w K mg base "put_at" ["row", "place", "bit"] 1 (spD K R_put_at)) (T : At K mg "lone_state" s_lone_state ["many", "place"]) : DefOk P w K mg base "lone_state" ["many", "place"] 2 (spD K R_lone_state) := by
  refine at_def T R_lone_state sc_lone_state (fun ds d h => by obtain ⟨_, _, rfl, _⟩ := h; rfl) fun f cdv A outer s' H E hr c ds d h => ?_
  obtain ⟨n, i, rfl, h2, hn, hi, rfl⟩ := h
  exact ds_ret (de_call D_put_at (hr.mono (by decide)) (da_cons (de_bin (de_tup (da_cons (de_gtup G.NOUGHT) da_nil)) (de_var 0 rfl) (b_repT (by simp) (by walk_at "side") (by walk_at "side") (by walk_at "side"))) (da_cons (de_var 1 rfl) (da_cons (de_gtup G.ONE) da_nil))) (by rw [Int.toNat_natCast, rep_nought]; exact put_enc (s := List.replicate n Ray.zero) (i := i) (r := Ray.one) (by rw [List.length_replicate]; exact hi) (by rw [List.length_replicate]; exact hn))) rfl
def R_lone_states (ds : List PyData) (d : PyData) : Prop := ∃ (n : Nat), ds = [.int n] ∧ 2 ≤ n ∧ n ≤ 1000 ∧ d = encRow (lones n)
theorem up_map {α : Type} (n : Nat) (f : PyData → PyData) (g : Nat → PyData) (h : ∀ i, i < n → f (.int (i : Nat)) = g i) : (upD 0 1 n).map f = (List.range n).map g := by
  unfold upD
  rw [List.map_map]
  refine List.map_congr_left fun i hi => ?_
  show f (.int (0 + (i : Nat) * 1)) = g i
  rw [Int.mul_one, Int.zero_add]
  exact h i (List.mem_range.mp hi)
theorem up_at {n i : Nat} {x : PyData} (h : (upD 0 1 n)[i]? = some x) : i < n ∧ x = .int (i : Nat) := by
  have hi := (List.getElem?_eq_some_iff.mp h).1
  rw [upD_len] at hi
  rw [upD_get hi] at h
  cases h
  exact ⟨hi, by rw [Int.mul_one, Int.zero_add]⟩
/-- the number of an int -/
def natD : PyData → Nat
  | .int i => i.toNat
  | _ => 0
theorem ok_lone_states (Z : Bi mg) (D_lone_state : DefOk P w K mg base "lone_state" ["many", "place"] 2 (spD K R_lone_state)) (T : At K mg "lone_states" s_lone_states ["many"]) : DefOk P w K mg base "lone_states" ["many"] 3 (spD K R_lone_states) := by
  refine at_def T R_lone_states sc_lone_states (fun ds d h => by obtain ⟨_, rfl, _⟩ := h; rfl) fun f cdv A outer s' H E hr c ds d h => ?_
  obtain ⟨n, rfl, h2, hn, rfl⟩ := h
  have e : (upD 0 1 (n : Int).toNat).map (fun x => encS (lone n (natD x))) = (lones n).map encS := by
    rw [Int.toNat_natCast, up_map (α := Nat) n _ (fun i => encS (lone n i)) (fun i _ => rfl)]
    unfold lones
    rw [List.map_map]
    rfl
  unfold encRow
  rw [← e]
  exact ds_ret (de_tupL Z.tuple (DN.de (dn_lcM (own := [("place", 1)]) (fun x => encS (lone n (natD x))) sc_lone_states.nd (blkOk_by (N := N_lone_states) (sc := defScope s_lone_states) (by decide +kernel)) (di_rng1 Z.range (de_var 0 rfl) (by walk_at "side") (by walk_at "side")) (fun x => [.d (.int n), .d x]) [1]
    (fun i x hi s H' C cl fp => ⟨dg_name 1 sc_lone_states.nd, by
      obtain ⟨hi, rfl⟩ := up_at hi
      exact (de_call D_lone_state (hr.mono (by decide)) (da_cons (de_var 0 rfl) (da_cons (de_var 1 rfl) da_nil)) ⟨n, i, rfl, h2, hn, by omega, rfl⟩)⟩) (by rw [upD_len]; omega)))) rfl
end
end DD
/-! T4: deeds.py, columns, is_idle_stretch, plain_deeds -/
namespace DD
open PySem PySem.Spec L2
open PyProof.Rows hiding St
local macro_rules | `(tactic| walk_at "side") => `(tactic| first | exact Nat.le_of_ble_eq_true rfl | assumption | omega | decide | rfl | (simp; done) | (simp; omega))
section
variable {P : Program} {w : World} {K : PySem.W.Frag} {mg : Str → Option Value} {base : Heap}
/-! ### columns_by -/
def R_columns_by (ds : List PyData) (d : PyData) : Prop := ∃ (n : Nat) (gs : List Deed), ds = [.int n, encGs gs] ∧ 2 ≤ n ∧ n ≤ 1000 ∧ kw gs n ∧ mixN gs ≤ 119 ∧ d = encRow (rowAt (lones n) gs)
theorem ok_columns_by (Z : Bi mg) (D_led_by_all : DefOk P w K mg base "led_by_all" ["row", "deeds"] 4 (spD K R_led_by_all)) (D_lone_states : DefOk P w K mg base "lone_states" ["many"] 3 (spD K R_lone_states)) (T : At K mg "columns_by" s_columns_by ["many", "deeds"]) :
    DefOk P w K mg base "columns_by" ["many", "deeds"] 5 (spD K R_columns_by) := by
  refine at_def T R_columns_by sc_columns_by (fun ds d h => by obtain ⟨_, _, rfl, _⟩ := h; rfl) fun f cdv A outer s' H E hr c ds d h => ?_
  obtain ⟨n, gs, rfl, h2, hn, hg, hm, rfl⟩ := h
  have e : ((lones n).map encS).map (fun x => encS (ledAll (decS x) gs)) = (rowAt (lones n) gs).map encS := by
    rw [rowAt_map, List.map_map, List.map_map]
    refine List.map_congr_left fun s _ => ?_
    show encS (ledAll (decS (encS s)) gs) = _
    rw [decS_enc]
    rfl
  unfold encRow
  rw [← e]
  exact ds_ret (de_tupL Z.tuple (DN.de (dn_lcM (own := [("state", 2)]) (fun x => encS (ledAll (decS x) gs)) sc_columns_by.nd (blkOk_by (N := N_columns_by) (sc := defScope s_columns_by) (by decide +kernel)) (di_tup (de_call D_lone_states (hr.mono (by decide)) (da_cons (de_var 0 rfl) da_nil) ⟨n, rfl, h2, hn, rfl⟩)) (fun x => [.d (.int n), .d (encGs gs), .d x]) [2]
    (fun i x hi s H' C cl fp => ⟨dg_name 2 sc_columns_by.nd, by
      rw [List.getElem?_map] at hi
      obtain ⟨s, hs, rfl⟩ := Option.map_eq_some_iff.mp hi
      obtain ⟨b1, b2⟩ := (lones_rb n).2 s (List.mem_of_getElem? hs)
      rw [decS_enc]
      exact (de_call D_led_by_all (hr.mono (by decide)) (da_cons (de_var 2 rfl) (da_cons (de_var 1 rfl) da_nil)) ⟨s, gs, 0, rfl, by omega, by rw [b1]; exact hg, b2, by omega, rfl⟩)⟩) (by rw [List.length_map, (lones_rb n).1]; omega)))) rfl
/-! ### columns_behind -/
def R_columns_behind (ds : List PyData) (d : PyData) : Prop := ∃ (n : Nat) (gs : List Deed), ds = [.int n, encGs gs] ∧ 2 ≤ n ∧ n ≤ 1000 ∧ gs.length ≤ 1000 ∧ kw gs n ∧ mixN gs ≤ 119 ∧ d = .list ((rows n gs).map encRow)
theorem last_row (gs : List Deed) (r : Row) : atI ((rowsFrom r gs).map encRow) (-1) = some (encRow (rowAt r gs)) := by
  have hl := rowsFrom_len gs r
  rw [atI_neg1 (by
    intro h
    have := congrArg List.length h
    rw [List.length_map, hl] at this
    cases this), List.length_map, hl, List.getElem?_map, Nat.add_sub_cancel, rowsFrom_get gs r gs.length (Nat.le_refl _), List.take_length]
  rfl
theorem ledRow_enc (r : Row) (g : Deed) : (r.map encS).map (fun x => encS (led (decS x) g)) = (ledRow r g).map encS := by
  unfold ledRow
  rw [List.map_map, List.map_map]
  refine List.map_congr_left fun s _ => ?_
  show encS (led (decS (encS s)) g) = _
  rw [decS_enc]
  rfl
theorem ok_columns_behind (Z : Bi mg) (D_led_by : DefOk P w K mg base "led_by" ["row", "deed"] 3 (spD K R_led_by)) (D_lone_states : DefOk P w K mg base "lone_states" ["many"] 3 (spD K R_lone_states)) (T : At K mg "columns_behind" s_columns_behind ["many", "deeds"]) :
    DefOk P w K mg base "columns_behind" ["many", "deeds"] 4 (spD K R_columns_behind) := by
  refine at_def T R_columns_behind sc_columns_behind (fun ds d h => by obtain ⟨_, _, rfl, _⟩ := h; rfl) fun f cdv A outer s' H E hr c ds d h => ?_
  obtain ⟨n, gs, rfl, h2, hn, hl, hg, hm, rfl⟩ := h
  refine ds_setN 2 (dn_lst (da_cons (de_call D_lone_states (hr.mono (by decide)) (da_cons (de_var 0 rfl) da_nil) ⟨n, rfl, h2, hn, rfl⟩) da_nil)) ?_ sc_columns_behind.nd
  refine ds_for (di_tup (de_var 1 rfl)) (fun i ρ' => ∃ y z, ρ' = [.d (.int n), .d (encGs gs), .own ((rowsFrom (lones n) (gs.take i)).map encRow), y, z]) ⟨.no, .no, rfl⟩ (fun i g ρ1 hi hI => ?_) fun ρ1 hI => ?_
  · obtain ⟨y, z, rfl⟩ := hI
    rw [List.getElem?_map] at hi
    obtain ⟨g, hgi, rfl⟩ := Option.map_eq_some_iff.mp hi
    have b := rowAt_rb (gs.take i) 0 _ (lones_rb n)
    have b2 := mixN_take gs i
    refine ⟨_, _, dg_name 3 sc_columns_behind.nd, ds_app (d := encRow (ledRow (rowAt (lones n) (gs.take i)) g)) 2 rfl ?_ ?_ (ds_nil ⟨.d (encG g), z, ?_⟩)⟩
    · unfold encRow
      rw [← ledRow_enc]
      exact de_tupL Z.tuple (DN.de (dn_lcM (own := [("column", 4)]) (fun x => encS (led (decS x) g)) sc_columns_behind.nd (blkOk_by (N := N_columns_behind) (sc := defScope s_columns_behind) (by decide +kernel)) (di_tup (de_ownIx 2 rfl (de_neg de_int) (last_row _ _))) (fun x => [.d (.int n), .d (encGs gs), .own ((rowsFrom (lones n) (gs.take i)).map encRow), .d (encG g), .d x]) [4]
        (fun j x hj s H' C cl fp => ⟨dg_name 4 sc_columns_behind.nd, by
          rw [List.getElem?_map] at hj
          obtain ⟨t, ht, rfl⟩ := Option.map_eq_some_iff.mp hj
          obtain ⟨c1, c2⟩ := b.2 t (List.mem_of_getElem? ht)
          rw [decS_enc]
          exact (de_call D_led_by (hr.mono (by decide)) (da_cons (de_var 4 rfl) (da_cons (de_var 3 rfl) da_nil)) ⟨t, g, rfl, by omega, by rw [c1]; exact hg g (List.mem_of_getElem? hgi), c2.mono (by omega), rfl⟩)⟩) (by rw [List.length_map, b.1]; omega)))
    · rw [List.length_map, rowsFrom_len, List.length_take]
      omega
    · rw [take_snoc hgi, rowsFrom_snoc, List.map_append, rowAt_snoc]
      rfl
  · obtain ⟨y, z, rfl⟩ := hI
    rw [List.length_map, List.take_length]
    exact ds_freeze 2 rfl (ds_ret (de_var 2 rfl) rfl)
/-! ### is_idle_stretch, its places all there -/
/-- whether a pair of places has one row -/
def idleB {α : Type} [DecidableEq α] (rs : List α) (p q : Int) : Bool := decide (0 ≤ p) && decide (p < rs.length) && (decide (0 ≤ q) && decide (q < rs.length)) && (decide (p < q) && decide (rs[p.toNat]? = rs[q.toNat]?))
def idleD {α : Type} [DecidableEq α] (rs : List α) : PyData → Bool
  | .tuple [.int p, .int q] => idleB rs p q
  | _ => false
def thingOk (x : PyData) : Prop := (∃ p q : Int, x = .tuple [.int p, .int q]) ∨ isTup x 2 = false
def R_is_idle_stretch (ds : List PyData) (d : PyData) : Prop := ∃ (n : Nat) (x th : PyData) (gs : List Deed), ds = [.int n, x, th] ∧ okn true true 5 x = true ∧ tup 5 x = encGs gs ∧ 2 ≤ n ∧ n ≤ 1000 ∧ gs.length ≤ 900 ∧ kw gs n ∧ mixN gs ≤ 119 ∧ thingOk th ∧ d = .bool (idleD (rows n gs) th)
theorem idleD_no {α : Type} [DecidableEq α] (rs : List α) {x : PyData} (h : isTup x 2 = false) : idleD rs x = false := by
  unfold idleD
  split
  · exact absurd h (by simp [isTup])
  · rfl
theorem at_row {n : Nat} {gs : List Deed} {p : Int} (h0 : 0 ≤ p) (h1 : p < (rows n gs).length) : ∃ r, (rows n gs)[p.toNat]? = some r ∧ atI ((rows n gs).map encRow) p = some (encRow r) := by
  obtain ⟨m, rfl⟩ : ∃ m : Nat, p = m := ⟨p.toNat, by omega⟩
  have hm : m < (rows n gs).length := by omega
  refine ⟨(rows n gs)[m], by rw [Int.toNat_natCast, List.getElem?_eq_getElem hm], atI_nat ?_⟩
  rw [List.getElem?_map, List.getElem?_eq_getElem hm]
  rfl
theorem row_ok {n i : Nat} {gs : List Deed} {r : Row} (hn : n ≤ 1000) (h : (rows n gs)[i]? = some r) : okn false false 3 (encRow r) = true := by
  have b := rows_rb (List.mem_of_getElem? h)
  exact encRow_ok (by rw [b.1]; exact hn) (fun t ht => by rw [(b.2 t ht).1]; exact hn)
def belowD (m : Int) : PyData → PyData
  | .int i => .bool (decide (0 ≤ i) && decide (i < m))
  | _ => .none
theorem ok_is_idle_stretch (Z : Bi mg) (D_is_tuple_of : DefOk P w K mg base "is_tuple_of" ["thing", "size"] 1 (spD K R_is_tuple_of)) (D_is_below : DefOk P w K mg base "is_below" ["thing", "many"] 3 (spD K R_is_below)) (D_sure_deeds : DefOk P w K mg base "sure_deeds" ["many", "deeds"] 7 (spD K R_sure_deeds))
    (D_columns_behind : DefOk P w K mg base "columns_behind" ["many", "deeds"] 4 (spD K R_columns_behind)) (T : At K mg "is_idle_stretch" s_is_idle_stretch ["many", "deeds", "thing"]) : DefOk P w K mg base "is_idle_stretch" ["many", "deeds", "thing"] 8 (spD K R_is_idle_stretch) := by
  refine at_def T R_is_idle_stretch sc_is_idle_stretch (fun ds d h => by obtain ⟨_, _, _, _, rfl, _⟩ := h; rfl) fun f cdv A outer s' H E hr c ds d h => ?_
  obtain ⟨n, x, th, gs, rfl, hx, ht, h2, hn, hl, hg, hm, hth, rfl⟩ := h
  refine ds_set 3 (de_call D_columns_behind (hr.mono (by decide)) (da_cons (de_var 0 rfl) (da_cons (de_call D_sure_deeds (hr.mono (by decide)) (da_cons (de_var 0 rfl) (da_cons (de_var 1 rfl) da_nil)) ⟨n, x, gs, rfl, hx, ht, hg, rfl⟩) da_nil)) ⟨n, gs, rfl, h2, hn, by omega, hg, hm, rfl⟩) ?_ sc_is_idle_stretch.nd
  have hlen : (rows n gs).length = gs.length + 1 := rowsFrom_len gs _
  rcases hth with ⟨p, q, rfl⟩ | hno
  · -- a pair
    refine ds_ifR (k := !isTup (.tuple [.int p, .int q]) 2 || !(([decide (0 ≤ p) && decide (p < (rows n gs).length), decide (0 ≤ q) && decide (q < (rows n gs).length)] : List Bool).all id)) ?_ (fun z => ?_) (fun z => ?_)
    · refine (dw_or (dt_not (dt_val (de_call D_is_tuple_of (hr.mono (by decide)) (da_cons (de_var 2 rfl) (da_cons de_int da_nil)) ⟨_, 2, rfl, rfl⟩))) (fun _ => dw_or1 (dt_not (dt_val ?_)))).dt
      refine de_all Z.all ?_
      have e : ([.int p, .int q] : List PyData).map (belowD ((rows n gs).length : Int)) = [decide (0 ≤ p) && decide (p < ((rows n gs).length : Int)), decide (0 ≤ q) && decide (q < ((rows n gs).length : Int))].map .bool := rfl
      rw [← e]
      refine DN.de (dn_lcM (own := [("place", 4)]) _ sc_is_idle_stretch.nd (blkOk_by (N := N_is_idle_stretch) (sc := defScope s_is_idle_stretch) (by decide +kernel)) (di_tup (de_var 2 rfl)) (fun y => [.d (.int n), .d x, .d (.tuple [.int p, .int q]), .d (.list ((rows n gs).map encRow)), .d y]) [4] (fun i y hi s H' C cl fp => ⟨dg_name 4 sc_is_idle_stretch.nd, ?_⟩) (Nat.le_of_ble_eq_true rfl))
      have hy : ∃ m : Int, y = .int m := by
        have := List.mem_of_getElem? hi
        simp only [List.mem_cons, List.not_mem_nil, or_false] at this
        rcases this with h | h
        · exact ⟨p, h⟩
        · exact ⟨q, h⟩
      obtain ⟨m, rfl⟩ := hy
      exact (de_call D_is_below (hr.mono (by decide)) (da_cons (de_var 4 rfl) (da_cons (de_lenL Z.len (de_var 3 rfl)) da_nil)) ⟨m, _, rfl, by rw [List.length_map]; rfl⟩)
    · refine ds_ret (de_bl.is ?_) rfl
      have z : (!(([decide (0 ≤ p) && decide (p < (rows n gs).length), decide (0 ≤ q) && decide (q < (rows n gs).length)] : List Bool).all id)) = true := z
      simp only [List.all_cons, List.all_nil, id_eq, Bool.and_true, Bool.not_eq_true'] at z
      simp only [idleD, idleB, z, Bool.false_and]
    · have z : (!(([decide (0 ≤ p) && decide (p < (rows n gs).length), decide (0 ≤ q) && decide (q < (rows n gs).length)] : List Bool).all id)) = false := z
      simp only [List.all_cons, List.all_nil, id_eq, Bool.and_true, Bool.not_eq_false', Bool.and_eq_true, decide_eq_true_eq] at z
      obtain ⟨⟨p0, p1⟩, q0, q1⟩ := z
      obtain ⟨r1, e1, a1⟩ := at_row p0 p1
      obtain ⟨r2, e2, a2⟩ := at_row q0 q1
      have o1 := row_ok hn e1
      have o2 := row_ok hn e2
      refine ds_ret (((de_and (de_cmp (de_ixT (de_var 2 rfl) de_int rfl) (de_ixT (de_var 2 rfl) de_int rfl) c_lt) (fun _ => (de_one (de_cmp (de_ixL (de_var 3 rfl) (de_ixT (de_var 2 rfl) de_int rfl) a1) (de_ixL (de_var 3 rfl) (de_ixT (de_var 2 rfl) de_int rfl) a2) (c_eqD (hu64 hr) (okn_shaped o1) (okn_shaped o2))))))).is ?_) rfl
      rw [eqv_dec o1 o2 encRow_inj]
      show _ = PyData.bool (idleB (rows n gs) p q)
      unfold idleB
      rw [decide_eq_true p0, decide_eq_true p1, decide_eq_true q0, decide_eq_true q1, e1, e2]
      simp
  · refine ds_ifR (k := true) ?_ (fun _ => ?_) (fun z => nomatch z)
    · refine DT.is (dw_or (l := false) (dt_not (dt_val (de_call D_is_tuple_of (hr.mono (by decide)) (da_cons (de_var 2 rfl) (da_cons de_int da_nil)) ⟨_, 2, rfl, rfl⟩))) (fun z => ?_)).dt ?_
      · rw [hno] at z; cases z
      · rw [hno]; rfl
    · exact ds_ret (de_bl.is (by rw [idleD_no _ hno])) rfl
/-! ### plain_deeds, of what is plain -/
def needN : Deed → Nat
  | .turn _ => 8
  | _ => 2
/-- no two like swaps or mixes, no eight like turns side by side -/
def Plain (gs : List Deed) : Prop := ∀ i g, gs[i]? = some g → needN g ≤ i + 1 → ((gs.take (i + 1)).drop (i + 1 - needN g)).all (fun h => decide (h = g)) = false
def R_plain_deeds (ds : List PyData) (d : PyData) : Prop := ∃ gs : List Deed, ds = [encGs gs] ∧ gs.length ≤ 1000 ∧ Plain gs ∧ d = encGs gs
theorem tup_encGs {gs : List Deed} (h : gs.length ≤ 1000) : R_tupled 5 [encGs gs] (encGs gs) := by
  have e := encGs_ok h
  exact ⟨_, rfl, okn_mono (okn_wide (by simp) (by simp) e) (by decide), ((tup_mono e (by decide)).trans (tup_id e)).symm⟩
theorem ok_plain_deeds (Z : Bi mg) (G : Gk K mg) (D_tupled : DefOk P w K mg base "tupled" ["thing"] 6 (spD K (R_tupled 5))) (T : At K mg "plain_deeds" s_plain_deeds ["deeds"]) : DefOk P w K mg base "plain_deeds" ["deeds"] 7 (spD K R_plain_deeds) := by
  refine at_def T R_plain_deeds sc_plain_deeds (fun ds d h => by obtain ⟨_, rfl, _⟩ := h; rfl) fun f cdv A outer s' H E hr c ds d h => ?_
  obtain ⟨gs, rfl, hl, hp, rfl⟩ := h
  refine ds_setN 1 (dn_lst da_nil) ?_ sc_plain_deeds.nd
  refine ds_for (di_tup (de_call D_tupled (hr.mono (by decide)) (da_cons (de_var 0 rfl) da_nil) (tup_encGs hl))) (fun i ρ' => ∃ y z u, ρ' = [.d (encGs gs), .own ((gs.take i).map encG), y, z, u]) ⟨.no, .no, .no, rfl⟩ (fun i g ρ1 hi hI => ?_) fun ρ1 hI => ?_
  · obtain ⟨y, z, u, rfl⟩ := hI
    rw [List.getElem?_map] at hi
    obtain ⟨g, hgi, rfl⟩ := Option.map_eq_some_iff.mp hi
    have il : i < gs.length := (List.getElem?_eq_some_iff.mp hgi).1
    have hpl := hp i g hgi
    have tl : (gs.take (i + 1)).length = i + 1 := by rw [List.length_take]; omega
    refine ⟨_, _, dg_name 2 sc_plain_deeds.nd, ds_app (d := encG g) 1 rfl (de_var 2 rfl) (by rw [List.length_map, List.length_take]; omega) ?_⟩
    have e1 : (gs.take i).map encG ++ [encG g] = (gs.take (i + 1)).map encG := by rw [take_snoc hgi, List.map_append]; rfl
    rw [e1]
    refine ds_set (d := .int (needN g)) 3 ?_ ?_ sc_plain_deeds.nd
    · cases g with
      | turn j => exact de_ifT (DT.is (dt_cmp (de_ixT (de_var 2 rfl) de_int rfl) (de_gstr G.TURN) c_eqT) (decide_eq_true rfl)) (de_gint G.FULL)
      | swap j k => exact de_ifF (DT.is (dt_cmp (de_ixT (de_var 2 rfl) de_int rfl) (de_gstr G.TURN) c_eqT) (decide_eq_false ne_turn_swap.symm)) de_int
      | mix j k => exact de_ifF (DT.is (dt_cmp (de_ixT (de_var 2 rfl) de_int rfl) (de_gstr G.TURN) c_eqT) (decide_eq_false ne_turn_mix.symm)) de_int
    refine ds_ifF ?_ (ds_nil ⟨.d (encG g), .d (.int (needN g)), u, rfl⟩)
    refine DT.is (dw_and (k := decide (needN g ≤ i + 1)) (l := false) ?_ (fun z => dw_and1 (dt_val ?_))).dt (Bool.and_false _)
    · refine DT.is (dt_cmp (de_ownLen Z.len 1 rfl) (de_var 3 rfl) c_ge) ?_
      rw [List.length_map, tl]
      simp only [decide_eq_decide]
      omega
    · have z := of_decide_eq_true z
      have n0 : 0 < needN g := by cases g <;> exact Nat.le_of_ble_eq_true rfl
      have hb := hpl z
      have e2 : ((((gs.take (i + 1)).drop (i + 1 - needN g)).map encG).map (fun x => PyData.bool (PyData.eqv x (encG g)))) = (((gs.take (i + 1)).drop (i + 1 - needN g)).map fun h => decide (h = g)).map PyData.bool := by
        rw [List.map_map, List.map_map]
        refine List.map_congr_left fun h _ => ?_
        show PyData.bool (PyData.eqv (encG h) (encG g)) = PyData.bool (decide (h = g))
        rw [eqv_dec (encG_ok h) (encG_ok g) encG_inj]
      have e3 : cutD ((gs.take (i + 1)).map encG) (some (-(needN g : Int))) none = ((gs.take (i + 1)).drop (i + 1 - needN g)).map encG := by
        rw [cut_neg _ _ (by rw [List.length_map, tl]; exact z) n0, List.length_map, tl, List.map_drop]
      have e4 : (((gs.take (i + 1)).drop (i + 1 - needN g)).map fun h => decide (h = g)).all id = false := by
        rw [List.all_map]; exact hb
      refine (de_all (bs := ((gs.take (i + 1)).drop (i + 1 - needN g)).map fun h => decide (h = g)) Z.all ?_).is (by rw [e4])
      rw [← e2, ← e3]
      exact DN.de (dn_lcM (own := [("own", 4)]) (fun x => PyData.bool (PyData.eqv x (encG g))) sc_plain_deeds.nd (blkOk_by (N := N_plain_deeds) (sc := defScope s_plain_deeds) (by decide +kernel)) (di_list (dn_ownSl 1 rfl (do_some (de_neg (de_var 3 rfl))) do_none).de) (fun x => [.d (encGs gs), .own ((gs.take (i + 1)).map encG), .d (encG g), .d (.int (needN g)), .d x]) [4]
          (fun j x hj s H' C cl fp => ⟨dg_name 4 sc_plain_deeds.nd, by
            rw [e3, List.getElem?_map] at hj
            obtain ⟨h, _, rfl⟩ := Option.map_eq_some_iff.mp hj
            exact (de_cmp (de_var 4 rfl) (de_var 2 rfl) (c_eqD (hu64 hr) (okn_shaped (encG_ok h)) (okn_shaped (encG_ok g))))⟩) (by rw [e3, List.length_map, List.length_drop, tl]; omega))
  · obtain ⟨y, z, u, rfl⟩ := hI
    rw [List.length_map, List.take_length]
    exact ds_ret (de_ownTup Z.tuple 1 rfl) rfl
/-! ### columns_of_both -/
def R_columns_of_both (ds : List PyData) (d : PyData) : Prop := ∃ (n : Nat) (gs hs : List Deed), ds = [.int n, encGs gs, encGs hs] ∧ 2 ≤ n ∧ n ≤ 1000 ∧ gs.length ≤ 1000 ∧ hs.length ≤ 1000 ∧ kw gs n ∧ kw hs n ∧ mixN gs ≤ 119 ∧ mixN hs ≤ 119 ∧ d = .tuple [encRow (rowAt (lones n) gs), encRow (rowAt (lones n) hs)]
theorem ok_columns_of_both (D_sure_deeds : DefOk P w K mg base "sure_deeds" ["many", "deeds"] 7 (spD K R_sure_deeds)) (D_columns_by : DefOk P w K mg base "columns_by" ["many", "deeds"] 5 (spD K R_columns_by)) (T : At K mg "columns_of_both" s_columns_of_both ["many", "one", "other"]) :
    DefOk P w K mg base "columns_of_both" ["many", "one", "other"] 8 (spD K R_columns_of_both) := by
  refine at_def T R_columns_of_both sc_columns_of_both (fun ds d h => by obtain ⟨_, _, _, rfl, _⟩ := h; rfl) fun f cdv A outer s' H E hr c ds d h => ?_
  obtain ⟨n, gs, hs, rfl, h2, hn, l1, l2, k1, k2, m1, m2, rfl⟩ := h
  refine ds_par 3 4 (da_cons (de_call D_sure_deeds (hr.mono (by decide)) (da_cons (de_var 0 rfl) (da_cons (de_var 1 rfl) da_nil)) (sure_enc k1 l1)) (da_cons (de_call D_sure_deeds (hr.mono (by decide)) (da_cons (de_var 0 rfl) (da_cons (de_var 2 rfl) da_nil)) (sure_enc k2 l2)) da_nil)) ?_ sc_columns_of_both.nd rfl
  exact ds_ret (de_tup (da_cons (de_call D_columns_by (hr.mono (by decide)) (da_cons (de_var 0 rfl) (da_cons (de_var 3 rfl) da_nil)) ⟨n, gs, rfl, h2, hn, k1, m1, rfl⟩) (da_cons (de_call D_columns_by (hr.mono (by decide)) (da_cons (de_var 0 rfl) (da_cons (de_var 4 rfl) da_nil)) ⟨n, hs, rfl, h2, hn, k2, m2, rfl⟩) da_nil))) rfl
end
end DD
/-! T5: first_idle, without_idle -/
namespace DD
open PySem PySem.Spec L2
open PyProof.Rows hiding St
local macro_rules | `(tactic| walk_at "side") => `(tactic| first | exact Nat.le_of_ble_eq_true rfl | assumption | omega | decide | rfl | (simp; done) | (simp; omega))
theorem lookD_put (d : PyData) (n : Int) (e : PyData) : ∀ kvs : List (PyData × Int), lookD (putD kvs d n) e = if nk e = nk d then some n else lookD kvs e := by
  intro kvs
  unfold putD
  by_cases h : (lookD kvs d).isSome = true
  · rw [if_pos h]
    have mp : ∀ kvs : List (PyData × Int), lookD (kvs.map fun q => if nk q.1 = nk d then (q.1, n) else q) e = (lookD kvs e).map fun x => if nk e = nk d then n else x := by
      intro kvs
      induction kvs with
      | nil => rfl
      | cons q qs ih =>
        unfold lookD at ih ⊢
        rw [List.map_cons, List.find?_cons, List.find?_cons]
        have e1 : (if nk q.1 = nk d then (q.1, n) else q).1 = q.1 := by split <;> rfl
        rw [e1]
        by_cases hq : nk q.1 = nk e
        · rw [decide_eq_true hq]
          by_cases hd : nk q.1 = nk d
          · rw [if_pos hd]
            simp [hq.symm.trans hd]
          · rw [if_neg hd]
            have hne : ¬ nk e = nk d := fun z => hd (hq.trans z)
            simp [hne]
        · rw [decide_eq_false hq]
          exact ih
    rw [mp]
    by_cases hq : nk e = nk d
    · rw [if_pos hq]
      have : lookD kvs e = lookD kvs d := by unfold lookD; rw [hq]
      rw [this]
      obtain ⟨x, hx⟩ := Option.isSome_iff_exists.mp h
      rw [hx]
      simp [hq]
    · rw [if_neg hq]
      cases lookD kvs e with
      | none => rfl
      | some x => simp [hq]
  · rw [if_neg h]
    have hn : lookD kvs d = none := by
      cases q : lookD kvs d with
      | none => rfl
      | some x => rw [q] at h; exact absurd rfl h
    have sn : ∀ kvs : List (PyData × Int), lookD kvs d = none → lookD (kvs ++ [(d, n)]) e = if nk e = nk d then some n else lookD kvs e := by
      intro kvs
      induction kvs with
      | nil =>
        intro _
        unfold lookD
        rw [List.nil_append, List.find?_cons]
        by_cases hq : nk d = nk e
        · rw [decide_eq_true hq, if_pos hq.symm]; rfl
        · rw [decide_eq_false hq, if_neg (fun z => hq z.symm)]
      | cons q qs ih =>
        intro hn
        unfold lookD at ih hn ⊢
        rw [List.find?_cons] at hn
        rw [List.cons_append, List.find?_cons, List.find?_cons]
        by_cases hd : nk q.1 = nk d
        · rw [decide_eq_true hd] at hn; cases hn
        · rw [decide_eq_false hd] at hn
          by_cases hq : nk q.1 = nk e
          · rw [decide_eq_true hq, if_neg (fun z => hd (hq.trans z))]
          · rw [decide_eq_false hq]
            exact ih hn
    exact sn kvs hn
theorem putD_len (kvs : List (PyData × Int)) (d : PyData) (n : Int) : (putD kvs d n).length ≤ kvs.length + 1 := by
  unfold putD
  split <;> simp
theorem putD_fit {kvs : List (PyData × Int)} {d : PyData} {n : Int} (f : KeysFit kvs) (h : okn false false 8 d = true) : KeysFit (putD kvs d n) := by
  intro q hq
  unfold putD at hq
  split at hq
  · obtain ⟨r, hr, rfl⟩ := List.mem_map.mp hq
    have := f r hr
    split <;> exact this
  · rcases List.mem_append.mp hq with hq | hq
    · exact f q hq
    · rw [List.mem_singleton] at hq; subst hq; exact h
theorem nk_row {r q : Row} (h1 : okn false false 8 (encRow r) = true) (h2 : okn false false 8 (encRow q) = true) : nk (encRow r) = nk (encRow q) ↔ r = q :=
  ⟨fun h => encRow_inj.mp (nk_inj 8 _ _ h1 h2 h), fun h => by rw [h]⟩
theorem row8 {n i : Nat} {gs : List Deed} {r : Row} (hn : n ≤ 1000) (h : (rows n gs)[i]? = some r) : okn false false 8 (encRow r) = true := okn_mono (row_ok hn h) (by decide)
def encO : Option (Nat × Nat) → PyData
  | none => .none
  | some (p, q) => .tuple [.int (p : Nat), .int (q : Nat)]
section
variable {P : Program} {w : World} {K : PySem.W.Frag} {mg : Str → Option Value} {base : Heap}
theorem hu20 {k : Nat} {A : Around} (hr : Room k A) : A.units + 20 < cLine := by have := hr.un; omega
def Fits (x : PyData) (n : Nat) (gs : List Deed) : Prop := okn true true 5 x = true ∧ tup 5 x = encGs gs ∧ 2 ≤ n ∧ n ≤ 1000 ∧ gs.length ≤ 900 ∧ kw gs n ∧ mixN gs ≤ 119
def R_first_idle (ds : List PyData) (d : PyData) : Prop := ∃ (n : Nat) (x : PyData) (gs : List Deed), ds = [.int n, x] ∧ Fits x n gs ∧ d = encO (firstIdle n gs)
theorem ok_first_idle (Z : Bi mg) (D_sure_deeds : DefOk P w K mg base "sure_deeds" ["many", "deeds"] 7 (spD K R_sure_deeds)) (D_columns_behind : DefOk P w K mg base "columns_behind" ["many", "deeds"] 4 (spD K R_columns_behind)) (T : At K mg "first_idle" s_first_idle ["many", "deeds"]) :
    DefOk P w K mg base "first_idle" ["many", "deeds"] 8 (spD K R_first_idle) := by
  refine at_def T R_first_idle sc_first_idle (fun ds d h => by obtain ⟨_, _, _, rfl, _⟩ := h; rfl) fun f cdv A outer s' H E hr c ds d h => ?_
  obtain ⟨n, x, gs, rfl, ⟨hx, ht, h2, hn, hl, hg, hm⟩, rfl⟩ := h
  refine ds_set 2 (de_call D_columns_behind (hr.mono (by decide)) (da_cons (de_var 0 rfl) (da_cons (de_call D_sure_deeds (hr.mono (by decide)) (da_cons (de_var 0 rfl) (da_cons (de_var 1 rfl) da_nil)) ⟨n, x, gs, rfl, hx, ht, hg, rfl⟩) da_nil)) ⟨n, gs, rfl, h2, hn, by omega, hg, hm, rfl⟩) ?_ sc_first_idle.nd
  have hL : (rows n gs).length = gs.length + 1 := rowsFrom_len gs _
  generalize hrs : rows n gs = rs at hL ⊢
  have ok8 : ∀ (i : Nat) r, rs[i]? = some r → okn false false 8 (encRow r) = true := fun i r h => row8 hn (by rw [hrs]; exact h)
  refine ds_parDN 3 4 de_non ?_ sc_first_idle.nd rfl
  refine ds_for (di_rng3 Z.range (da_cons (de_bin (de_lenL Z.len (de_var 2 rfl)) de_int b_sub) (da_cons (de_neg de_int) (da_cons (de_neg de_int) da_nil))) (RgC.neg (by omega) (by rw [List.length_map]; omega) (by omega) (by omega))) (fun t ρ' => t ≤ rs.length ∧ ∃ kvs y, ρ' = [.d (.int n), .d x, .d (.list (rs.map encRow)), .dict kvs, .d (encO (firstFrom (rs.drop (rs.length - t)) (rs.length - t))), y] ∧ KeysFit kvs ∧ kvs.length ≤ t ∧
    ∀ r, okn false false 8 (encRow r) = true → lookD kvs (encRow r) = (behindOf r (rs.drop (rs.length - t)) (rs.length - t)).map fun m : Nat => (m : Int)) ⟨Nat.zero_le _, [], .no, by rw [Nat.sub_zero, List.drop_length]; rfl, (fun q hq => nomatch hq), Nat.le_refl _, fun r _ => by rw [Nat.sub_zero, List.drop_length]; rfl⟩ (fun t v ρ1 hi hI => ?_) fun ρ1 hI => ?_
  · obtain ⟨_, kvs, y, rfl, hf, hk, hlook⟩ := hI
    have et : (((rs.map encRow).length : Int) - 1 - (-1)).toNat = rs.length := by rw [List.length_map]; omega
    rw [et] at hi
    have htl : t < rs.length := by
      have := (List.getElem?_eq_some_iff.mp hi).1
      rwa [upD_len] at this
    rw [upD_get htl] at hi
    cases hi
    obtain ⟨q, hq⟩ : ∃ q : Nat, q = rs.length - 1 - t := ⟨_, rfl⟩
    have ev : (((rs.map encRow).length : Int) - 1 + (t : Nat) * -1) = (q : Int) := by rw [List.length_map]; omega
    rw [ev]
    have hqL : q < rs.length := by omega
    have hd : rs.drop q = rs[q] :: rs.drop (rs.length - t) := by rw [List.drop_eq_getElem_cons hqL, show rs.length - t = q + 1 by omega]
    have a1 : atI (rs.map encRow) (q : Int) = some (encRow rs[q]) := atI_nat (by rw [List.getElem?_map, List.getElem?_eq_getElem hqL]; rfl)
    have o1 := ok8 q rs[q] (List.getElem?_eq_getElem hqL)
    have lk := hlook rs[q] o1
    have es : rs.length - t = q + 1 := by omega
    have es2 : rs.length - (t + 1) = q := by omega
    refine ⟨_, _, dg_name 5 sc_first_idle.nd, ?_⟩
    refine ds_if (fun ρ' => ρ' = [.d (.int n), .d x, .d (.list (rs.map encRow)), .dict kvs, .d (encO (firstFrom (rs.drop q) q)), .d (.int q)]) (dt_inDict 3 (hu20 hr) rfl hf (de_ixL (de_var 2 rfl) (de_var 5 rfl) a1) o1) (fun z => ?_) (fun z => ds_nil ?_) fun ρ' h => ?_
    · rw [show PyData.tuple (rs[q].map encS) = encRow rs[q] from rfl, lk] at z
      obtain ⟨m, hm'⟩ := Option.isSome_iff_exists.mp z
      obtain ⟨m', hb, rfl⟩ := Option.map_eq_some_iff.mp hm'
      rw [hb] at lk
      refine ds_set (d := encO (firstFrom (rs.drop q) q)) 4 (DE.is (de_tup (da_cons (de_var 5 rfl) (da_cons (de_getDict 3 (hu20 hr) rfl hf (de_ixL (de_var 2 rfl) (de_var 5 rfl) a1) o1 lk) da_nil))) ?_) (ds_nil rfl) sc_first_idle.nd
      rw [hd]
      show _ = encO (match behindOf rs[q] (rs.drop (rs.length - t)) (q + 1) with | some m => some (q, m) | none => _)
      rw [← es, hb]
      rfl
    · rw [show PyData.tuple (rs[q].map encS) = encRow rs[q] from rfl, lk] at z
      have hb : behindOf rs[q] (rs.drop (rs.length - t)) (rs.length - t) = none := by
        cases e : behindOf rs[q] (rs.drop (rs.length - t)) (rs.length - t) with
        | none => rfl
        | some m => rw [e] at z; cases z
      have e2 : firstFrom (rs.drop q) q = firstFrom (rs.drop (rs.length - t)) (rs.length - t) := by
        rw [hd]
        show (match behindOf rs[q] (rs.drop (rs.length - t)) (q + 1) with | some m => some (q, m) | none => _) = _
        rw [← es, hb]
      rw [e2]
      rfl
    · subst h
      refine ds_putDict 3 (hu20 hr) rfl hf (by omega) (de_var 5 rfl) (de_ixL (de_var 2 rfl) (de_var 5 rfl) a1) o1 (ds_nil ⟨by omega, putD kvs (encRow rs[q]) q, .d (.int q), ?_, putD_fit hf o1, ?_, fun r hr' => ?_⟩)
      · rw [es2]; rfl
      · have := putD_len kvs (encRow rs[q]) q
        exact Nat.le_trans this (by omega)
      · rw [lookD_put, es2, hd]
        show _ = (if r = rs[q] then some q else behindOf r (rs.drop (rs.length - t)) (q + 1)).map _
        by_cases e : r = rs[q]
        · rw [if_pos e, if_pos (by rw [e])]; rfl
        · rw [if_neg e, if_neg (fun z => e ((nk_row hr' o1).mp z)), ← es]
          exact hlook r hr'
  · obtain ⟨_, kvs, y, rfl, hf, hk, hlook⟩ := hI
    have et : (((rs.map encRow).length : Int) - 1 - (-1)).toNat = rs.length := by rw [List.length_map]; omega
    have e0 : (upD (((rs.map encRow).length : Int) - 1) (-1) (((rs.map encRow).length : Int) - 1 - (-1)).toNat).length = rs.length := by rw [upD_len, et]
    refine ds_ret (((de_var 4 rfl) : DE _ _ _ _ (encO (firstFrom (rs.drop (rs.length - _)) (rs.length - _)))).is ?_) rfl
    rw [e0, Nat.sub_self]
    unfold firstIdle first
    rw [hrs]
    rfl
/-! ### without_idle -/
def R_without_idle (ds : List PyData) (d : PyData) : Prop := ∃ (n : Nat) (x : PyData) (gs : List Deed), ds = [.int n, x] ∧ Fits x n gs ∧ d = encGs (withoutIdle n gs)
theorem ok_without_idle (Z : Bi mg) (D_sure_deeds : DefOk P w K mg base "sure_deeds" ["many", "deeds"] 7 (spD K R_sure_deeds)) (D_columns_behind : DefOk P w K mg base "columns_behind" ["many", "deeds"] 4 (spD K R_columns_behind)) (T : At K mg "without_idle" s_without_idle ["many", "deeds"]) :
    DefOk P w K mg base "without_idle" ["many", "deeds"] 8 (spD K R_without_idle) := by
  refine at_def T R_without_idle sc_without_idle (fun ds d h => by obtain ⟨_, _, _, rfl, _⟩ := h; rfl) fun f cdv A outer s' H E hr c ds d h => ?_
  obtain ⟨n, x, gs, rfl, ⟨hx, ht, h2, hn, hl, hg, hm⟩, rfl⟩ := h
  refine ds_set 2 (de_call D_sure_deeds (hr.mono (by decide)) (da_cons (de_var 0 rfl) (da_cons (de_var 1 rfl) da_nil)) ⟨n, x, gs, rfl, hx, ht, hg, rfl⟩) ?_ sc_without_idle.nd
  have hL : (rows n gs).length = gs.length + 1 := rowsFrom_len gs _
  refine ds_par4 3 4 5 6 (de_call D_columns_behind (hr.mono (by decide)) (da_cons (de_var 0 rfl) (da_cons (de_var 2 rfl) da_nil)) ⟨n, gs, rfl, h2, hn, by omega, hg, hm, rfl⟩) de_int ?_ sc_without_idle.nd (pg_tup rfl (pgs_cons (pg_name (i := 3) sc_without_idle.nd rfl (.inl rfl)) (pgs_cons (pg_name (i := 4) sc_without_idle.nd rfl (.inl rfl)) (pgs_cons (pg_name (i := 5) sc_without_idle.nd rfl (.inl rfl)) (pgs_cons (pg_name (i := 6) sc_without_idle.nd rfl (.inl rfl)) pgs_nil))))) (by decide)
  unfold withoutIdle
  generalize hrs : rows n gs = rs at hL ⊢
  have ok8 : ∀ (i : Nat) r, rs[i]? = some r → okn false false 8 (encRow r) = true := fun i r h => row8 hn (by rw [hrs]; exact h)
  refine ds_for (di_enum Z.enumerate (de_var 3 rfl)) (fun t ρ' => t ≤ rs.length ∧ ∃ kvs y z, ρ' = [.d (.int n), .d x, .d (encGs gs), .d (.list (rs.map encRow)), .dict kvs, .own [], .d (.int 0), y, z] ∧ KeysFit kvs ∧ kvs.length ≤ t ∧
    ∀ r, okn false false 8 (encRow r) = true → lookD kvs (encRow r) = (lastIx r (rs.take t) 0).map fun m : Nat => (m : Int)) ⟨Nat.zero_le _, [], .no, .no, rfl, (fun q hq => nomatch hq), Nat.le_refl _, fun r _ => rfl⟩ (fun t v ρ1 hi hI => ?_) fun ρ1 hI => ?_
  · obtain ⟨_, kvs, y, z, rfl, hf, hk, hlook⟩ := hI
    have htl : t < rs.length := by
      have := (List.getElem?_eq_some_iff.mp hi).1
      rw [pairD_len, upD_len, List.length_map] at this
      omega
    rw [pairD_get (upD_get (by rw [List.length_map]; exact htl)) (show (rs.map encRow)[t]? = some (encRow rs[t]) by rw [List.getElem?_map, List.getElem?_eq_getElem htl]; rfl)] at hi
    cases hi
    rw [show (0 : Int) + (t : Nat) * 1 = (t : Int) by omega]
    have o1 := ok8 t rs[t] (List.getElem?_eq_getElem htl)
    refine ⟨_, _, dg_tup rfl (dgs_cons (dg_name 7 sc_without_idle.nd) (dgs_cons (dg_name 8 sc_without_idle.nd) dgs_nil)), ?_⟩
    refine ds_putDict 4 (hu20 hr) rfl hf (by omega) (de_var 7 rfl) (de_var 8 rfl) o1 (ds_nil ⟨by omega, putD kvs (encRow rs[t]) t, .d (.int t), .d (encRow rs[t]), rfl, putD_fit hf o1, ?_, fun r hr' => ?_⟩)
    · have := putD_len kvs (encRow rs[t]) t
      exact Nat.le_trans this (by omega)
    · rw [lookD_put, take_snoc (List.getElem?_eq_getElem htl), lastIx_snoc, List.length_take, Nat.min_eq_left (by omega), Nat.zero_add]
      by_cases e : r = rs[t]
      · rw [if_pos e.symm, if_pos (by rw [e])]; rfl
      · rw [if_neg (show ¬ rs[t] = r from fun z => e z.symm), if_neg (fun z => e ((nk_row hr' o1).mp z))]
        exact hlook r hr'
  · obtain ⟨_, kvs, y, z, rfl, hf, hk, hlook⟩ := hI
    have e0 : (pairD (upD 0 1 (rs.map encRow).length) (rs.map encRow)).length = rs.length := by rw [pairD_len, upD_len, List.length_map, Nat.min_self]
    rw [e0, List.take_length] at hlook
    refine ds_while (fun m ρ' => ∃ (p f : Nat) (acc : List Deed), m = gs.length + 1 - p ∧ p ≤ gs.length ∧ acc.length ≤ p ∧ gs.length + 1 ≤ f + p ∧ acc ++ wiGo rs gs f p = wiGo rs gs (gs.length + 1) 0 ∧ ρ' = [.d (.int n), .d x, .d (encGs gs), .d (.list (rs.map encRow)), .dict kvs, .own (acc.map encG), .d (.int p), y, z]) (gs.length + 1) ⟨0, gs.length + 1, [], rfl, Nat.zero_le _, Nat.le_refl _, Nat.le_refl _, rfl, rfl⟩ fun m ρ1 hI => ?_
    obtain ⟨p, f, acc, rfl, hp, hacc, hfp, hgo, rfl⟩ := hI
    obtain ⟨f, rfl⟩ : ∃ f', f = f' + 1 := ⟨f - 1, by omega⟩
    have hpL : p < rs.length := by omega
    have a1 : atI (rs.map encRow) (p : Int) = some (encRow rs[p]) := atI_nat (by rw [List.getElem?_map, List.getElem?_eq_getElem hpL]; rfl)
    have o1 := ok8 p rs[p] (List.getElem?_eq_getElem hpL)
    obtain ⟨q, hq⟩ := lastIx_mem (x := rs[p]) (n := 0) (List.getElem_mem hpL)
    obtain ⟨_, q1, q2, q3⟩ := lastIx_some hq
    have hpq : p ≤ q := by
      refine Nat.le_of_not_lt fun h => q3 p (by omega) (List.getElem?_eq_getElem hpL)
    have lk := hlook rs[p] o1
    rw [hq] at lk
    refine ⟨decide ((q : Int) < gs.length), ?_, fun z => ?_, fun z => ?_⟩
    · refine DT.is (dt_cmp (de_getDict 4 (hu20 hr) rfl hf (de_ixL (de_var 3 rfl) (de_var 6 rfl) a1) o1 lk) (de_lenT Z.len (de_var 2 rfl)) c_lt) ?_
      rw [List.length_map]
    · have z := of_decide_eq_true z
      have hql : q < gs.length := by omega
      refine ds_set 6 (de_getDict 4 (hu20 hr) rfl hf (de_ixL (de_var 3 rfl) (de_var 6 rfl) a1) o1 lk) ?_ sc_without_idle.nd
      refine ds_app (d := encG gs[q]) 5 rfl (de_ixT (de_var 2 rfl) (de_var 6 rfl) (atI_nat (by rw [List.getElem?_map, List.getElem?_eq_getElem hql]; rfl))) (by rw [List.length_map]; omega) ?_
      refine ds_aug 6 ip_add rfl de_int (ds_nil ⟨gs.length + 1 - (q + 1), by omega, q + 1, f, acc ++ [gs[q]], rfl, by omega, by rw [List.length_append]; simp; omega, by omega, ?_, ?_⟩) sc_without_idle.nd
      · rw [← hgo, wiGo_some (List.getElem?_eq_getElem hpL) hq (List.getElem?_eq_getElem hql), List.append_assoc]
        rfl
      · rw [List.map_append]
        rfl
    · have z := of_decide_eq_false z
      have hq0 : gs[q]? = none := List.getElem?_eq_none (by omega)
      rw [wiGo_none (List.getElem?_eq_getElem hpL) hq hq0] at hgo
      refine ds_ret (((de_ownTup Z.tuple 5 rfl)).is ?_) rfl
      rw [← hgo, List.append_nil]
      rfl
end
end DD
/-! T6: deeds of circuits -/
namespace DD
open PySem PySem.Spec L2
open PyProof.Rows hiding St
local macro_rules | `(tactic| walk_at "side") => `(tactic| first | exact Nat.le_of_ble_eq_true rfl | assumption | omega | decide | rfl | (simp; done) | (simp; omega))
/-! ### gates in plain Lean -/
def bitN (n w : Nat) : Nat := 2 ^ (n - 1 - w)
def hasAll (n p : Nat) (ws : List Nat) : Bool := ws.all fun w => decide (0 < Builtin.bitAnd (p : Int) (bitN n w : Nat))
def turnsBy (n : Nat) (ws : List Nat) (m : Nat) : List Deed := (List.range (2 ^ n)).flatMap fun p => if hasAll n p ws = true then List.replicate m (.turn p) else []
def pairOk (n : Nat) (ws : List Nat) (goal p : Nat) : Bool := decide (Builtin.bitAnd (p : Int) (bitN n goal : Nat) = 0) && hasAll n p ws
def pairsN (n : Nat) (ws : List Nat) (goal : Nat) : List Nat := (List.range (2 ^ n)).filter fun p => pairOk n ws goal p
section
variable {P : Program} {w : World} {K : PySem.W.Frag} {mg : Str → Option Value} {base : Heap}
def intsD (ws : List Nat) : List PyData := ws.map fun w : Nat => PyData.int w
theorem pow_small {n : Nat} (h : n ≤ 2) : 2 ^ n ≤ 4 := by
  have : n = 0 ∨ n = 1 ∨ n = 2 := by omega
  rcases this with rfl | rfl | rfl <;> decide
theorem shl1 {n : Int} {m : Nat} (h : n = m) : (1 : Int) * 2 ^ n.toNat = ((2 ^ m : Nat) : Int) := by
  subst h
  rw [Int.one_mul, Int.toNat_natCast]
  norm_cast
def R_bit_of (ds : List PyData) (d : PyData) : Prop := ∃ n wr : Nat, ds = [.int n, .int wr] ∧ n ≤ 2 ∧ wr < n ∧ d = .int (bitN n wr : Nat)
theorem ok_bit_of (T : At K mg "bit_of" s_bit_of ["n", "wire"]) : DefOk P w K mg base "bit_of" ["n", "wire"] 1 (spD K R_bit_of) := by
  refine at_def T R_bit_of sc_bit_of (fun ds d h => by obtain ⟨_, _, rfl, _⟩ := h; rfl) fun f cdv A outer s' H E hr c ds d h => ?_
  obtain ⟨n, wr, rfl, h2, hn, rfl⟩ := h
  refine ds_ret (((de_bin de_int (de_bin (de_bin (de_var 0 rfl) de_int b_sub) (de_var 1 rfl) b_sub) (b_shl ⟨by omega, by omega, by decide⟩))).is ?_) rfl
  rw [shl1 (m := n - 1 - wr) (by omega)]
  rfl
def R_has_all (ds : List PyData) (d : PyData) : Prop := ∃ (n p : Nat) (ws : List Nat), ds = [.int n, .int p, .tuple (intsD ws)] ∧ n ≤ 2 ∧ ws.length ≤ 10 ∧ (∀ a ∈ ws, a < n) ∧ d = .bool (hasAll n p ws)
theorem ok_has_all (Z : Bi mg) (D_bit_of : DefOk P w K mg base "bit_of" ["n", "wire"] 1 (spD K R_bit_of)) (T : At K mg "has_all" s_has_all ["n", "place", "wires"]) : DefOk P w K mg base "has_all" ["n", "place", "wires"] 2 (spD K R_has_all) := by
  refine at_def T R_has_all sc_has_all (fun ds d h => by obtain ⟨_, _, _, rfl, _⟩ := h; rfl) fun f cdv A outer s' H E hr c ds d h => ?_
  obtain ⟨n, p, ws, rfl, h2, hl, hw, rfl⟩ := h
  have e : ((ws.map fun a => decide (0 < Builtin.bitAnd (p : Int) (bitN n a : Nat))).map PyData.bool) = (intsD ws).map fun x => match x with | .int i => PyData.bool (decide (0 < Builtin.bitAnd (p : Int) (bitN n i.toNat : Nat))) | _ => .none := by
    unfold intsD
    rw [List.map_map, List.map_map]
    rfl
  refine ds_ret (DE.is (d := .bool ((ws.map fun a => decide (0 < Builtin.bitAnd (p : Int) (bitN n a : Nat))).all id)) (de_all Z.all ?_) ?_) rfl
  · rw [e]
    refine DN.de (dn_lcM (own := [("wire", 3)]) _ sc_has_all.nd (blkOk_by (N := N_has_all) (sc := defScope s_has_all) (by decide +kernel)) (di_tup (de_var 2 rfl)) (fun x => [.d (.int n), .d (.int p), .d (.tuple (intsD ws)), .d x]) [3] (fun i x hi s H' C cl fp => ⟨dg_name 3 sc_has_all.nd, ?_⟩) (by unfold intsD; rw [List.length_map]; omega))
    unfold intsD at hi
    rw [List.getElem?_map] at hi
    obtain ⟨a, ha, rfl⟩ := Option.map_eq_some_iff.mp hi
    exact (de_cmp (de_bin (de_var 1 rfl) (de_call D_bit_of (hr.mono (by decide)) (da_cons (de_var 0 rfl) (da_cons (de_var 3 rfl) da_nil)) ⟨n, a, rfl, h2, hw a (List.mem_of_getElem? ha), rfl⟩) b_and) de_int c_gt)
  · unfold hasAll
    rw [List.all_map]
    rfl
def R_turns_by (ds : List PyData) (d : PyData) : Prop := ∃ (n m : Nat) (ws : List Nat), ds = [.int n, .tuple (intsD ws), .int m] ∧ n ≤ 2 ∧ ws.length ≤ 10 ∧ m ≤ 8 ∧ (∀ a ∈ ws, a < n) ∧ d = .list ((turnsBy n ws m).map encG)
theorem flat_snoc {α : Type} (f : Nat → List α) (n : Nat) : (List.range (n + 1)).flatMap f = (List.range n).flatMap f ++ f n := by
  rw [List.range_succ, List.flatMap_append]
  simp
theorem flat_len {α : Type} (f : Nat → List α) (b : Nat) (h : ∀ i, (f i).length ≤ b) : ∀ n : Nat, ((List.range n).flatMap f).length ≤ n * b
  | 0 => by simp
  | n + 1 => by
    rw [flat_snoc, List.length_append]
    have h1 := flat_len f b h n
    have h2 := h n
    rw [Nat.add_mul]
    omega
theorem rep_map {α β : Type} (f : α → β) (n : Nat) (x : α) : (List.replicate n [f x]).flatten = (List.replicate n x).map f := by
  induction n with
  | zero => rfl
  | succ n ih => rw [List.replicate_succ, List.flatten_cons, ih, List.replicate_succ, List.map_cons]; rfl
theorem ok_turns_by (Z : Bi mg) (G : Gk K mg) (D_has_all : DefOk P w K mg base "has_all" ["n", "place", "wires"] 2 (spD K R_has_all)) (T : At K mg "turns_by" s_turns_by ["n", "wires", "many"]) : DefOk P w K mg base "turns_by" ["n", "wires", "many"] 3 (spD K R_turns_by) := by
  refine at_def T R_turns_by sc_turns_by (fun ds d h => by obtain ⟨_, _, _, rfl, _⟩ := h; rfl) fun f cdv A outer s' H E hr c ds d h => ?_
  obtain ⟨n, m, ws, rfl, h2, hl, hm, hw, rfl⟩ := h
  have hp := pow_small h2
  refine ds_setN 3 (dn_lst da_nil) ?_ sc_turns_by.nd
  have ez : ((1 : Int) * 2 ^ ((n : Nat) : Int).toNat).toNat = 2 ^ n := by rw [shl1 (m := n) rfl, Int.toNat_natCast]
  have ep : (1 : Int) * 2 ^ ((n : Nat) : Int).toNat = ((2 ^ n : Nat) : Int) := shl1 rfl
  refine ds_for (di_rng1 Z.range (de_bin de_int (de_var 0 rfl) (b_shl ⟨by omega, by omega, by decide⟩)) (by walk_at "side") (by walk_at "side")) (fun i ρ' => i ≤ 2 ^ n ∧ ∃ z, ρ' = [.d (.int n), .d (.tuple (intsD ws)), .d (.int m), .own (((List.range i).flatMap fun p => if hasAll n p ws = true then List.replicate m (Deed.turn p) else []).map encG), z]) ⟨Nat.zero_le _, .no, rfl⟩ (fun i g ρ1 hi hI => ?_) fun ρ1 hI => ?_
  · obtain ⟨_, z, rfl⟩ := hI
    rw [ez] at hi
    have il : i < 2 ^ n := by
      have := (List.getElem?_eq_some_iff.mp hi).1
      rwa [upD_len] at this
    rw [upD_get il] at hi
    cases hi
    rw [show (0 : Int) + (i : Nat) * 1 = (i : Int) by omega]
    have hfl := flat_len (fun p => if hasAll n p ws = true then List.replicate m (Deed.turn p) else []) 8 (fun p => by split <;> simp; omega) i
    refine ⟨_, _, dg_name 4 sc_turns_by.nd, ds_if (fun ρ' => ρ' = [.d (.int n), .d (.tuple (intsD ws)), .d (.int m), .own (((List.range (i + 1)).flatMap fun p => if hasAll n p ws = true then List.replicate m (Deed.turn p) else []).map encG), .d (.int i)]) (k := hasAll n i ws) (dt_val (de_call D_has_all (hr.mono (by decide)) (da_cons (de_var 0 rfl) (da_cons (de_var 4 rfl) (da_cons (de_var 1 rfl) da_nil))) ⟨n, i, ws, rfl, h2, hl, hw, rfl⟩)) (fun z => ?_) (fun z => ds_nil ?_) fun ρ' h => ?_⟩
    · refine ds_extL 3 rfl (dn_bin (de_lst (da_cons (de_tup (da_cons (de_gstr G.TURN) (da_cons (de_var 4 rfl) da_nil))) da_nil)) (de_var 2 rfl) (b_rep (by walk_at "side") (by walk_at "side") (by walk_at "side"))).de (by
        rw [List.length_map, Int.toNat_natCast]
        simp only [List.length_flatten, List.map_replicate, List.sum_replicate_nat, List.length_singleton]
        omega) (ds_nil ?_)
      rw [flat_snoc, List.map_append, z, if_pos rfl]
      show [_, _, _, Sl.own _, _] = _
      rw [show ([PyData.tuple [PyData.str "turn", PyData.int (i : Nat)]] : List PyData) = [encG (.turn i)] from rfl, Int.toNat_natCast, rep_map]
    · rw [flat_snoc, z, if_neg Bool.false_ne_true, List.append_nil]
      rfl
    · subst h
      exact ds_nil ⟨by omega, _, rfl⟩
  · obtain ⟨_, z, rfl⟩ := hI
    rw [upD_len, ez]
    exact ds_freeze 3 rfl (ds_ret (de_var 3 rfl) rfl)
def R_pairs_by (ds : List PyData) (d : PyData) : Prop := ∃ (n goal : Nat) (z : Str) (ws : List Nat), ds = [.int n, .str z, .tuple (intsD ws), .int goal] ∧ n ≤ 2 ∧ ws.length ≤ 10 ∧ goal < n ∧ (∀ a ∈ ws, a < n) ∧ d = .list ((pairsN n ws goal).map fun p : Nat => .tuple [.str z, .int p, .int ((p + bitN n goal : Nat) : Int)])
theorem fm_filter {α β : Type} (p : α → Bool) (f : α → β) : ∀ xs : List α, (xs.filterMap fun x => if p x = true then some (f x) else none) = (xs.filter p).map f
  | [] => rfl
  | x :: xs => by
    rw [List.filterMap_cons, List.filter_cons]
    cases p x with
    | true => rw [if_pos rfl, if_pos rfl, List.map_cons, fm_filter p f xs]
    | false => rw [if_neg Bool.false_ne_true, if_neg Bool.false_ne_true, fm_filter p f xs]
theorem ok_pairs_by (Z : Bi mg) (G : Gk K mg) (D_bit_of : DefOk P w K mg base "bit_of" ["n", "wire"] 1 (spD K R_bit_of)) (D_has_all : DefOk P w K mg base "has_all" ["n", "place", "wires"] 2 (spD K R_has_all)) (T : At K mg "pairs_by" s_pairs_by ["n", "word", "wires", "goal"]) : DefOk P w K mg base "pairs_by" ["n", "word", "wires", "goal"] 3 (spD K R_pairs_by) := by
  refine at_def T R_pairs_by sc_pairs_by (fun ds d h => by obtain ⟨_, _, _, _, rfl, _⟩ := h; rfl) fun f cdv A outer s' H E hr c ds d h => ?_
  obtain ⟨n, goal, z, ws, rfl, h2, hl, hgl, hw, rfl⟩ := h
  have hp := pow_small h2
  have ez : ((1 : Int) * 2 ^ ((n : Nat) : Int).toNat).toNat = 2 ^ n := by rw [shl1 (m := n) rfl, Int.toNat_natCast]
  have ep : (1 : Int) * 2 ^ ((n : Nat) : Int).toNat = ((2 ^ n : Nat) : Int) := shl1 rfl
  refine ds_set 4 (de_call D_bit_of (hr.mono (by decide)) (da_cons (de_var 0 rfl) (da_cons (de_var 3 rfl) da_nil)) ⟨n, goal, rfl, h2, hgl, rfl⟩) ?_ sc_pairs_by.nd
  have e1 : (upD 0 1 (2 ^ n)).filterMap (fun x => match x with | .int i => if pairOk n ws goal i.toNat = true then some x else none | _ => none) = (pairsN n ws goal).map fun p : Nat => PyData.int p := by
    unfold upD pairsN
    rw [List.filterMap_map, ← fm_filter]
    refine congrArg (fun f => List.filterMap f _) (funext fun x => ?_)
    show (if pairOk n ws goal ((0 : Int) + (x : Nat) * 1).toNat = true then some (PyData.int ((0 : Int) + (x : Nat) * 1)) else none) = _
    rw [show (0 : Int) + (x : Nat) * 1 = (x : Int) by omega, Int.toNat_natCast]
  refine ds_setLc 5 (own := [("place", 6)]) (items := upD 0 1 (2 ^ n)) (fun x => match x with | .int i => if pairOk n ws goal i.toNat = true then some x else none | _ => none) sc_pairs_by.nd (blkOk_by (N := N_pairs_by) (sc := defScope s_pairs_by) (by decide +kernel)) ?_ (fun i x hi => ⟨[.d (.int n), .d (.str z), .d (.tuple (intsD ws)), .d (.int goal), .d (.int (bitN n goal : Nat)), .no, .d x], [6], pairOk n ws goal i, by decide, fun s H' C cl fp => ?_⟩) (by rw [upD_len]; omega) ?_ rfl
  · rw [← ez]
    exact (di_rng1 Z.range (de_bin de_int (de_var 0 rfl) (b_shl ⟨by omega, by omega, by decide⟩)) (by walk_at "side") (by walk_at "side"))
  · have il : i < 2 ^ n := by
      have := (List.getElem?_eq_some_iff.mp hi).1
      rwa [upD_len] at this
    rw [upD_get il] at hi
    cases hi
    rw [show (0 : Int) + (i : Nat) * 1 = (i : Int) by omega]
    refine ⟨dg_name 6 sc_pairs_by.nd, dts_one (dw_and (dt_cmp (de_bin (de_var 6 rfl) (de_var 4 rfl) b_and) de_int c_eqI) (fun _ => (dw_and1 (dt_val (de_call D_has_all (hr.mono (by decide)) (da_cons (de_var 0 rfl) (da_cons (de_var 6 rfl) (da_cons (de_var 2 rfl) da_nil))) ⟨n, i, ws, rfl, h2, hl, hw, rfl⟩))))).dt, fun k => ⟨.int i, ?_, (de_var 6 rfl)⟩, fun k => ?_⟩
    · show (if pairOk n ws goal ((i : Int)).toNat = true then some _ else none) = _
      rw [Int.toNat_natCast, k]; rfl
    · show (if pairOk n ws goal ((i : Int)).toNat = true then some _ else none) = _
      rw [Int.toNat_natCast, k]; rfl
  · rw [e1]
    have e2 : ((pairsN n ws goal).map fun p : Nat => PyData.tuple [.str z, .int p, .int ((p + bitN n goal : Nat) : Int)]) = ((pairsN n ws goal).map fun p : Nat => PyData.int p).map fun x => match x with | .int i => PyData.tuple [.str z, .int i, .int (i + (bitN n goal : Nat))] | _ => .none := by
      rw [List.map_map]
      rfl
    rw [e2]
    refine ds_ret (DN.de (dn_lcM (own := [("place", 6)]) _ sc_pairs_by.nd (blkOk_by (N := N_pairs_by) (sc := defScope s_pairs_by) (by decide +kernel)) (di_list (de_var 5 rfl)) (fun x => [.d (.int n), .d (.str z), .d (.tuple (intsD ws)), .d (.int goal), .d (.int (bitN n goal : Nat)), .d (.list ((pairsN n ws goal).map fun p : Nat => PyData.int p)), .d x]) [6] (fun i x hi s H' C cl fp => ⟨dg_name 6 sc_pairs_by.nd, ?_⟩) (by
      rw [List.length_map]
      have := List.length_filter_le (fun p => pairOk n ws goal p) (List.range (2 ^ n))
      rw [List.length_range] at this
      unfold pairsN
      omega))) rfl
    rw [List.getElem?_map] at hi
    obtain ⟨a, ha, rfl⟩ := Option.map_eq_some_iff.mp hi
    exact (de_tup (da_cons (de_var 1 rfl) (da_cons (de_var 6 rfl) (da_cons (de_bin (de_var 6 rfl) (de_var 4 rfl) b_add) da_nil))))
end
end DD
/-! T7: gates, circuits -/
namespace DD
open PySem PySem.Spec L2
open PyProof.Rows hiding St
local macro_rules | `(tactic| walk_at "side") => `(tactic| first | exact Nat.le_of_ble_eq_true rfl | assumption | omega | decide | rfl | (simp; done) | (simp; omega))
structure Gate where
  z : Str
  ws : List Nat
def eightsL : List (Str × Int) := [("T", 1), ("S", 2), ("Z", 4), ("CZ", 4), ("W", 1)]
def eighth (z : Str) : Nat := if z = ("T" : Str) then 1 else if z = ("S" : Str) then 2 else if z = ("W" : Str) then 1 else 4
def isTurnZ (z : Str) : Bool := ([("T" : Str), ("S" : Str), ("Z" : Str), ("CZ" : Str), ("W" : Str)] : List Str).any fun y => decide (y = z)
def gateActs (n : Nat) (g : Gate) : List Deed := if isTurnZ g.z = true then turnsBy n g.ws (eighth g.z) else
  (pairsN n g.ws.dropLast (g.ws.getLastD 0)).map fun p => if g.z = ("H" : Str) then .mix p (p + bitN n (g.ws.getLastD 0)) else .swap p (p + bitN n (g.ws.getLastD 0))
def gatesL : Nat → List Gate
  | 1 => [⟨"H", [0]⟩, ⟨"T", [0]⟩, ⟨"S", [0]⟩, ⟨"X", [0]⟩, ⟨"Z", [0]⟩, ⟨"W", []⟩]
  | 2 => [⟨"H", [0]⟩, ⟨"T", [0]⟩, ⟨"S", [0]⟩, ⟨"X", [0]⟩, ⟨"Z", [0]⟩, ⟨"W", []⟩, ⟨"H", [1]⟩, ⟨"T", [1]⟩, ⟨"S", [1]⟩, ⟨"X", [1]⟩, ⟨"Z", [1]⟩, ⟨"CX", [0, 1]⟩, ⟨"CX", [1, 0]⟩, ⟨"CZ", [0, 1]⟩, ⟨"CZ", [1, 0]⟩]
  | _ => []
def GOk (n : Nat) (g : Gate) : Prop := g ∈ gatesL n
def gChk (n : Nat) (g : Gate) : Bool := decide (n ≤ 2) && g.ws.all (fun a => decide (a < n)) && decide (g.ws.length ≤ 2) && (if isTurnZ g.z = true then decide ((g.z, (eighth g.z : Int)) ∈ eightsL) else decide (g.z ∈ (["H", "X", "CX"] : List Str)) && decide (g.ws ≠ [])) &&
  (gateActs n g).all (fun a => a.ok (2 ^ n)) && decide ((gateActs n g).length ≤ 8) && decide (mixN (gateActs n g) ≤ 2) && PyData.strOk g.z
theorem gchk1 : (gatesL 1).all (gChk 1) = true := by decide +kernel
theorem gchk2 : (gatesL 2).all (gChk 2) = true := by decide +kernel
structure GFacts (n : Nat) (g : Gate) : Prop where
  n2 : n ≤ 2
  n1 : 1 ≤ n
  lt : ∀ a ∈ g.ws, a < n
  len : g.ws.length ≤ 2
  turn : isTurnZ g.z = true → (g.z, (eighth g.z : Int)) ∈ eightsL
  pair : isTurnZ g.z = false → g.z ∈ (["H", "X", "CX"] : List Str) ∧ g.ws ≠ []
  ok : kw (gateActs n g) (2 ^ n)
  al : (gateActs n g).length ≤ 8
  am : mixN (gateActs n g) ≤ 2
  st : PyData.strOk g.z = true
theorem GOk.facts {n : Nat} {g : Gate} (h : GOk n g) : GFacts n g := by
  have hn : n = 1 ∨ n = 2 := by
    unfold GOk gatesL at h
    split at h
    · exact .inl rfl
    · exact .inr rfl
    · exact absurd h List.not_mem_nil
  have hc : gChk n g = true := by
    rcases hn with rfl | rfl
    · exact List.all_eq_true.mp gchk1 g h
    · exact List.all_eq_true.mp gchk2 g h
  unfold gChk at hc
  simp only [Bool.and_eq_true, decide_eq_true_eq, List.all_eq_true] at hc
  obtain ⟨⟨⟨⟨⟨⟨⟨h1, h2⟩, h3⟩, h4⟩, h5⟩, h6⟩, h7⟩, h8⟩ := hc
  refine ⟨h1, by omega, h2, h3, fun z => ?_, fun z => ?_, h5, h6, h7, h8⟩
  · rw [if_pos z] at h4; exact of_decide_eq_true h4
  · rw [if_neg (by rw [z]; simp)] at h4
    simp only [Bool.and_eq_true, decide_eq_true_eq] at h4
    exact h4
def encW (g : Gate) : PyData := .tuple (.str g.z :: intsD g.ws)
def encWs (gs : List Gate) : PyData := .tuple (gs.map encW)
theorem at0 (x : PyData) (xs : List PyData) : atI (x :: xs) 0 = some x := by
  unfold atI ixN
  rw [if_pos (by decide), if_pos (by rw [List.length_cons]; omega)]
  rfl
theorem cut1 (x : PyData) (xs : List PyData) : cutD (x :: xs) (some 1) none = xs := by
  unfold cutD
  rw [HT.sIx_none]
  have e : HT.sIx (x :: xs).length 0 (some 1) = 1 := by
    show (if (1 : Int) < 0 then ((1 : Int) + ((x :: xs).length : Int)).toNat else min (1 : Int).toNat (x :: xs).length) = 1
    rw [if_neg (by decide), List.length_cons]
    show min 1 (xs.length + 1) = 1
    omega
  rw [e, List.drop_one, List.tail_cons, List.length_cons, Nat.add_sub_cancel, List.take_length]
theorem cut1m (x y : PyData) (xs : List PyData) : cutD (x :: (xs ++ [y])) (some 1) (some (-1)) = xs := by
  unfold cutD
  have e : HT.sIx (x :: (xs ++ [y])).length 0 (some 1) = 1 := by
    show (if (1 : Int) < 0 then ((1 : Int) + ((x :: (xs ++ [y])).length : Int)).toNat else min (1 : Int).toNat (x :: (xs ++ [y])).length) = 1
    rw [if_neg (by decide), List.length_cons]
    show min 1 _ = 1
    omega
  have e2 : HT.sIx (x :: (xs ++ [y])).length (x :: (xs ++ [y])).length (some (-1)) = xs.length + 1 := by
    show (if (-1 : Int) < 0 then ((-1 : Int) + ((x :: (xs ++ [y])).length : Int)).toNat else min (-1 : Int).toNat (x :: (xs ++ [y])).length) = _
    rw [if_pos (by decide), List.length_cons, List.length_append, List.length_singleton]
    omega
  rw [e, e2, List.drop_one, List.tail_cons, Nat.add_sub_cancel, List.take_left]
theorem intsD_ok : ∀ (ws : List Nat), ∀ x ∈ intsD ws, okn false false 0 x = true := fun ws x h => by
  unfold intsD at h
  obtain ⟨a, _, rfl⟩ := List.mem_map.mp h
  rfl
theorem encW_ok {g : Gate} (h : g.ws.length ≤ 2) (hs : PyData.strOk g.z = true) : okn false false 1 (encW g) = true := by
  unfold encW
  simp only [okn, Bool.and_eq_true, decide_eq_true_eq, List.all_eq_true]
  refine ⟨by rw [List.length_cons]; unfold intsD; rw [List.length_map]; omega, fun x hx => ?_⟩
  rcases List.mem_cons.mp hx with rfl | hx
  · simp only [okn]; exact hs
  · exact intsD_ok _ x hx
section
variable {P : Program} {w : World} {K : PySem.W.Frag} {mg : Str → Option Value} {base : Heap}
theorem tup_ok {x : PyData} {n : Nat} (e : okn false false n x = true) (hn : n ≤ 5 := by decide) : R_tupled 5 [x] x :=
  ⟨_, rfl, okn_mono (okn_wide (by simp) (by simp) e) hn, ((tup_mono e hn).trans (tup_id e)).symm⟩
def R_sure_gate (ds : List PyData) (d : PyData) : Prop := ∃ (n : Nat) (g : Gate), ds = [.int n, encW g] ∧ GOk n g ∧ d = encW g
theorem ok_sure_gate (D_tupled : DefOk P w K mg base "tupled" ["thing"] 6 (spD K (R_tupled 5))) (T : At K mg "sure_gate" s_sure_gate ["n", "gate"]) : DefOk P w K mg base "sure_gate" ["n", "gate"] 7 (spD K R_sure_gate) := by
  refine at_def T R_sure_gate sc_sure_gate (fun ds d h => by obtain ⟨_, _, rfl, _⟩ := h; rfl) fun f cdv A outer s' H E hr c ds d h => ?_
  obtain ⟨n, g, rfl, hg, rfl⟩ := h
  have F := hg.facts
  refine ds_set 2 (de_call D_tupled (hr.mono (by decide)) (da_cons (de_var 1 rfl) da_nil) (tup_ok (encW_ok F.len F.st))) ?_ sc_sure_gate.nd
  refine ds_for (di_tup (de_slT (de_var 2 rfl) (do_some de_int) do_none)) (fun i ρ' => ∃ z, ρ' = [.d (.int n), .d (encW g), .d (encW g), z]) ⟨.no, rfl⟩ (fun j v ρ1 hj hJ => ?_) fun ρ1 hJ => ?_
  · obtain ⟨z, rfl⟩ := hJ
    rw [cut1] at hj
    unfold intsD at hj
    rw [List.getElem?_map] at hj
    obtain ⟨a, ha, rfl⟩ := Option.map_eq_some_iff.mp hj
    have hm := F.lt a (List.mem_of_getElem? ha)
    refine ⟨_, _, dg_name 3 sc_sure_gate.nd, ds_ifF (DT.is (dt_not (dt_chain de_int (de_var 3 rfl) (de_var 0 rfl) c_le c_lt)) ?_) (ds_nil ⟨.d (.int a), rfl⟩)⟩
    rw [decide_eq_true (by omega), decide_eq_true (by omega)]
    rfl
  · obtain ⟨z, rfl⟩ := hJ
    exact ds_ret (de_var 2 rfl) rfl
def R_deeds_of_gate (ds : List PyData) (d : PyData) : Prop := ∃ (n : Nat) (g : Gate), ds = [.int n, encW g] ∧ GOk n g ∧ d = encGs (gateActs n g)
theorem ok_deeds_of_gate (Z : Bi mg) (G : Gk K mg) (G2 : GE K w mg) (D_sure_gate : DefOk P w K mg base "sure_gate" ["n", "gate"] 7 (spD K R_sure_gate)) (D_turns_by : DefOk P w K mg base "turns_by" ["n", "wires", "many"] 3 (spD K R_turns_by)) (D_pairs_by : DefOk P w K mg base "pairs_by" ["n", "word", "wires", "goal"] 3 (spD K R_pairs_by)) (T : At K mg "deeds_of_gate" s_deeds_of_gate ["n", "gate"]) : DefOk P w K mg base "deeds_of_gate" ["n", "gate"] 8 (spD K R_deeds_of_gate) := by
  refine at_def T R_deeds_of_gate sc_deeds_of_gate (fun ds d h => by obtain ⟨_, _, rfl, _⟩ := h; rfl) fun f cdv A outer s' H E hr c ds d h => ?_
  obtain ⟨n, g, rfl, hg, rfl⟩ := h
  have F := hg.facts
  have F2 := F.n2
  have F3 := F.len
  refine ds_set 2 (de_call D_sure_gate (hr.mono (by decide)) (da_cons (de_var 0 rfl) (da_cons (de_var 1 rfl) da_nil)) ⟨n, g, rfl, hg, rfl⟩) ?_ sc_deeds_of_gate.nd
  refine ds_ifR (k := isTurnZ g.z) (dt_inE (z := g.z) G2 (de_ixT (de_var 2 rfl) de_int (at0 _ _)) ?_) (fun z => ?_) (fun z => ?_)
  · cases e : isTurnZ g.z with
    | true => exact .inl ⟨rfl, _, F.turn e⟩
    | false => exact .inr ⟨rfl, (F.pair e).1⟩
  · have h8 : eighth g.z ≤ 8 := by unfold eighth; repeat (first | split | omega)
    refine ds_ret ((de_tupL Z.tuple (de_call D_turns_by (hr.mono (by decide)) (da_cons (de_var 0 rfl) (da_cons (de_slT (de_var 2 rfl) (do_some de_int) do_none) (da_cons (de_getE (z := g.z) G2 (de_ixT (de_var 2 rfl) de_int (at0 _ _)) (F.turn z)) da_nil))) ⟨n, eighth g.z, g.ws, by rw [cut1], F.n2, by omega, h8, F.lt, rfl⟩)).is ?_) rfl
    unfold encGs gateActs
    rw [if_pos z]
  · obtain ⟨hz, hne⟩ := F.pair z
    have hws : g.ws = g.ws.dropLast ++ [g.ws.getLastD 0] := by
      rw [List.getLastD_eq_getLast?, List.getLast?_eq_some_getLast hne]
      exact (List.dropLast_concat_getLast hne).symm
    have hD : intsD g.ws = intsD g.ws.dropLast ++ [.int (g.ws.getLastD 0 : Nat)] := by
      conv => lhs; rw [hws]
      unfold intsD
      rw [List.map_append]
      rfl
    have hgl : g.ws.getLastD 0 < n := F.lt _ (by rw [List.getLastD_eq_getLast?, List.getLast?_eq_some_getLast hne]; exact List.getLast_mem hne)
    have a1 : atI (PyData.str g.z :: intsD g.ws) (-1) = some (.int (g.ws.getLastD 0 : Nat)) := by
      rw [hD, ← List.cons_append, atI_neg1 (by simp)]
      simp
    refine ds_ret ((de_tupL Z.tuple (de_call D_pairs_by (hr.mono (by decide)) (da_cons (de_var 0 rfl) (da_cons (d := .str (if g.z = ("H" : Str) then "mix" else "swap")) (de_if (k := decide (g.z = ("H" : Str))) (DT.is (dt_cmp (de_ixT (de_var 2 rfl) de_int (at0 _ _)) de_str c_eqT) rfl) (fun q => by rw [if_pos (of_decide_eq_true q)]; exact (de_gstr G.MIX)) (fun q => by rw [if_neg (of_decide_eq_false q)]; exact (de_gstr G.SWAP))) (da_cons (de_slT (de_var 2 rfl) (do_some de_int) (do_some (de_neg de_int))) (da_cons (de_ixT (de_var 2 rfl) (de_neg de_int) a1) da_nil)))) ⟨n, g.ws.getLastD 0, _, g.ws.dropLast, by rw [hD, cut1m], F.n2, by rw [List.length_dropLast]; omega, hgl, fun a ha => F.lt a (List.dropLast_subset _ ha), rfl⟩)).is ?_) rfl
    · unfold encGs gateActs
      rw [if_neg (show ¬ isTurnZ g.z = true by rw [z]; exact Bool.false_ne_true), List.map_map]
      refine congrArg PyData.tuple (List.map_congr_left fun p _ => ?_)
      show PyData.tuple [.str (if g.z = ("H" : Str) then "mix" else "swap"), .int p, .int ((p + bitN n (g.ws.getLastD 0) : Nat) : Int)] = encG (if g.z = ("H" : Str) then .mix p (p + bitN n (g.ws.getLastD 0)) else .swap p (p + bitN n (g.ws.getLastD 0)))
      split <;> rfl
def circActs (n : Nat) (gs : List Gate) : List Deed := gs.flatMap (gateActs n)
def encC (n : Nat) (gs : List Gate) : PyData := .tuple [.int n, encWs gs]
structure CircOk (n : Nat) (gs : List Gate) : Prop where
  n1 : 1 ≤ n
  n2 : n ≤ 2
  len : gs.length ≤ 6
  ok : ∀ g ∈ gs, GOk n g
theorem circ_kw {n : Nat} : ∀ {gs : List Gate}, (∀ g ∈ gs, GOk n g) → kw (circActs n gs) (2 ^ n) ∧ (circActs n gs).length ≤ 8 * gs.length ∧ mixN (circActs n gs) ≤ 2 * gs.length
  | [], _ => ⟨(fun _ h => nomatch h), Nat.le_refl _, Nat.le_refl _⟩
  | g :: gs, h => by
    obtain ⟨h1, h2, h3⟩ := circ_kw (gs := gs) fun g hg => h g (List.mem_cons_of_mem _ hg)
    have F := (h g List.mem_cons_self).facts
    have e : circActs n (g :: gs) = gateActs n g ++ circActs n gs := List.flatMap_cons
    have a1 := F.al
    have a2 := F.am
    refine ⟨fun a ha => ?_, ?_, ?_⟩
    · rw [e] at ha
      rcases List.mem_append.mp ha with q | q
      · exact F.ok a q
      · exact h1 a q
    · rw [e, List.length_append, List.length_cons]; omega
    · rw [e, List.length_cons]
      unfold mixN at *
      rw [List.filter_append, List.length_append]
      omega
theorem encC_ok {n : Nat} {gs : List Gate} (h : CircOk n gs) : okn false false 3 (encC n gs) = true := by
  unfold encC encWs
  have l := h.len
  simp only [okn, Bool.and_eq_true, decide_eq_true_eq, List.all_eq_true]
  refine ⟨by simp, fun x hx => ?_⟩
  simp only [List.mem_cons, List.not_mem_nil, or_false] at hx
  rcases hx with rfl | rfl
  · rfl
  · simp only [okn, Bool.and_eq_true, decide_eq_true_eq, List.all_eq_true]
    refine ⟨by rw [List.length_map]; omega, fun x hx => ?_⟩
    obtain ⟨g, hg, rfl⟩ := List.mem_map.mp hx
    exact encW_ok (h.ok g hg).facts.len (h.ok g hg).facts.st
def R_deeds_of_circuit (ds : List PyData) (d : PyData) : Prop := ∃ (n : Nat) (gs : List Gate), ds = [encC n gs] ∧ CircOk n gs ∧ d = encGs (circActs n gs)
theorem ok_deeds_of_circuit (Z : Bi mg) (D_tupled : DefOk P w K mg base "tupled" ["thing"] 6 (spD K (R_tupled 5))) (D_deeds_of_gate : DefOk P w K mg base "deeds_of_gate" ["n", "gate"] 8 (spD K R_deeds_of_gate)) (T : At K mg "deeds_of_circuit" s_deeds_of_circuit ["circuit"]) : DefOk P w K mg base "deeds_of_circuit" ["circuit"] 9 (spD K R_deeds_of_circuit) := by
  refine at_def T R_deeds_of_circuit sc_deeds_of_circuit (fun ds d h => by obtain ⟨_, _, rfl, _⟩ := h; rfl) fun f cdv A outer s' H E hr c ds d h => ?_
  obtain ⟨n, gs, rfl, hc, rfl⟩ := h
  have hl := hc.len
  refine ds_unp (de_call D_tupled (hr.mono (by decide)) (da_cons (de_var 0 rfl) da_nil) (tup_ok (encC_ok hc))) (dg_tup rfl (dgs_cons (dg_name 1 sc_deeds_of_circuit.nd) (dgs_cons (dg_name 2 sc_deeds_of_circuit.nd) dgs_nil))) ?_
  refine ds_setN 3 (dn_lst da_nil) ?_ sc_deeds_of_circuit.nd
  refine ds_for (di_tup (de_var 2 rfl)) (fun i ρ' => ∃ z, ρ' = [.d (encC n gs), .d (.int n), .d (encWs gs), .own ((circActs n (gs.take i)).map encG), z]) ⟨.no, rfl⟩ (fun i g ρ1 hi hI => ?_) fun ρ1 hI => ?_
  · obtain ⟨z, rfl⟩ := hI
    rw [List.getElem?_map] at hi
    obtain ⟨g, hg, rfl⟩ := Option.map_eq_some_iff.mp hi
    have hok := hc.ok g (List.mem_of_getElem? hg)
    have a1 := (circ_kw (gs := gs.take i) fun g hg => hc.ok g (List.mem_of_mem_take hg)).2.1
    have a2 := hok.facts.al
    have a3 : (gs.take i).length ≤ 6 := by rw [List.length_take]; omega
    refine ⟨_, _, dg_name 4 sc_deeds_of_circuit.nd, ds_extT 3 rfl (de_call D_deeds_of_gate (hr.mono (by decide)) (da_cons (de_var 1 rfl) (da_cons (de_var 4 rfl) da_nil)) ⟨n, g, rfl, hok, rfl⟩) (by rw [List.length_map, List.length_map]; omega) (ds_nil ⟨.d (encW g), ?_⟩)⟩
    rw [take_snoc hg]
    unfold circActs
    rw [List.flatMap_append, List.map_append]
    simp
  · obtain ⟨z, rfl⟩ := hI
    rw [List.length_map, List.take_length]
    exact ds_ret (de_ownTup Z.tuple 3 rfl) rfl
def R_sure_wires (ds : List PyData) (d : PyData) : Prop := ∃ (n : Nat) (gs hs : List Gate), ds = [encC n gs, encC n hs] ∧ CircOk n gs ∧ CircOk n hs ∧ d = .tuple [encC n gs, encC n hs]
theorem ok_sure_wires (D_tupled : DefOk P w K mg base "tupled" ["thing"] 6 (spD K (R_tupled 5))) (T : At K mg "sure_wires" s_sure_wires ["one", "other"]) : DefOk P w K mg base "sure_wires" ["one", "other"] 7 (spD K R_sure_wires) := by
  refine at_def T R_sure_wires sc_sure_wires (fun ds d h => by obtain ⟨_, _, _, rfl, _⟩ := h; rfl) fun f cdv A outer s' H E hr c ds d h => ?_
  obtain ⟨n, gs, hs, rfl, h1, h2, rfl⟩ := h
  refine ds_par 2 3 (da_cons (de_call D_tupled (hr.mono (by decide)) (da_cons (de_var 0 rfl) da_nil) (tup_ok (encC_ok h1))) (da_cons (de_call D_tupled (hr.mono (by decide)) (da_cons (de_var 1 rfl) da_nil) (tup_ok (encC_ok h2))) da_nil)) ?_ sc_sure_wires.nd rfl
  refine ds_ifF (DT.is (dt_cmp (de_ixT (de_var 2 rfl) de_int rfl) (de_ixT (de_var 3 rfl) de_int rfl) c_neI) (by rw [decide_eq_true rfl]; rfl)) ?_
  exact ds_ret (de_tup (da_cons (de_var 2 rfl) (da_cons (de_var 3 rfl) da_nil))) rfl
def R_columns_told (ds : List PyData) (d : PyData) : Prop := ∃ (n : Nat) (gs : List Gate), ds = [encC n gs] ∧ CircOk n gs ∧ d = encRow (rowAt (lones (2 ^ n)) (circActs n gs))
theorem ok_columns_told (D_columns_by : DefOk P w K mg base "columns_by" ["many", "deeds"] 5 (spD K R_columns_by)) (D_deeds_of_circuit : DefOk P w K mg base "deeds_of_circuit" ["circuit"] 9 (spD K R_deeds_of_circuit)) (T : At K mg "columns_told" s_columns_told ["circuit"]) : DefOk P w K mg base "columns_told" ["circuit"] 10 (spD K R_columns_told) := by
  refine at_def T R_columns_told sc_columns_told (fun ds d h => by obtain ⟨_, _, rfl, _⟩ := h; rfl) fun f cdv A outer s' H E hr c ds d h => ?_
  obtain ⟨n, gs, rfl, hc, rfl⟩ := h
  have hp : 2 ≤ 2 ^ n ∧ 2 ^ n ≤ 4 := by
    have h1 := hc.n1
    have h2 := hc.n2
    have : n = 1 ∨ n = 2 := by omega
    rcases this with rfl | rfl <;> decide
  have k := circ_kw hc.ok
  have hl := hc.len
  exact ds_ret (de_call D_columns_by (hr.mono (by decide)) (da_cons (de_bin de_int (de_ixT (de_var 0 rfl) de_int rfl) (b_shl ⟨by have := hc.n1; omega, by have := hc.n2; omega, by decide⟩)) (da_cons (de_call D_deeds_of_circuit (hr.mono (by decide)) (da_cons (de_var 0 rfl) da_nil) ⟨n, gs, rfl, hc, rfl⟩) da_nil)) ⟨2 ^ n, circActs n gs, by rw [shl1 (m := n) rfl], hp.1, by omega, k.1, by omega, rfl⟩) rfl
def R_circuits_alike (ds : List PyData) (d : PyData) : Prop := ∃ (n : Nat) (gs hs : List Gate), ds = [encC n gs, encC n hs] ∧ CircOk n gs ∧ CircOk n hs ∧ d = .bool (decide (rowAt (lones (2 ^ n)) (circActs n gs) = rowAt (lones (2 ^ n)) (circActs n hs)))
theorem rowAt_ok {n : Nat} {gs : List Deed} (hn : n ≤ 1000) : okn false false 3 (encRow (rowAt (lones n) gs)) = true := by
  have b := rowAt_rb gs 0 _ (lones_rb n)
  exact encRow_ok (by rw [b.1]; exact hn) (fun t ht => by rw [(b.2 t ht).1]; exact hn)
theorem ok_circuits_alike (D_sure_wires : DefOk P w K mg base "sure_wires" ["one", "other"] 7 (spD K R_sure_wires)) (D_columns_told : DefOk P w K mg base "columns_told" ["circuit"] 10 (spD K R_columns_told)) (T : At K mg "circuits_alike" s_circuits_alike ["one", "other"]) : DefOk P w K mg base "circuits_alike" ["one", "other"] 11 (spD K R_circuits_alike) := by
  refine at_def T R_circuits_alike sc_circuits_alike (fun ds d h => by obtain ⟨_, _, _, rfl, _⟩ := h; rfl) fun f cdv A outer s' H E hr c ds d h => ?_
  obtain ⟨n, gs, hs, rfl, h1, h2, rfl⟩ := h
  have hp : 2 ^ n ≤ 4 := pow_small h1.n2
  refine ds_unp (de_call D_sure_wires (hr.mono (by decide)) (da_cons (de_var 0 rfl) (da_cons (de_var 1 rfl) da_nil)) ⟨n, gs, hs, rfl, h1, h2, rfl⟩) (dg_tup rfl (dgs_cons (dg_name 2 sc_circuits_alike.nd) (dgs_cons (dg_name 3 sc_circuits_alike.nd) dgs_nil))) ?_
  refine ds_ret (((de_cmp (de_call D_columns_told (hr.mono (by decide)) (da_cons (de_var 2 rfl) da_nil) ⟨n, gs, rfl, h1, rfl⟩) (de_call D_columns_told (hr.mono (by decide)) (da_cons (de_var 3 rfl) da_nil) ⟨n, hs, rfl, h2, rfl⟩) (c_eqD (hu64 hr) (okn_shaped (rowAt_ok (by omega))) (okn_shaped (rowAt_ok (by omega)))))).is ?_) rfl
  rw [eqv_dec (rowAt_ok (by omega)) (rowAt_ok (by omega)) encRow_inj]
end
end DD
/-! M6: the rays are one form a number; the deeds are linear; like columns act alike. -/
namespace DD
namespace V4
theorem ext4 {v u : V4} (h1 : v.a = u.a) (h2 : v.b = u.b) (h3 : v.c = u.c) (h4 : v.d = u.d) : v = u := by
  obtain ⟨_, _, _, _⟩ := v
  obtain ⟨_, _, _, _⟩ := u
  simp only at h1 h2 h3 h4
  rw [h1, h2, h3, h4]
theorem root_add (v u : V4) : (v.add u).root = v.root.add u.root := by apply ext4 <;> simp only [root, add] <;> omega
theorem root_tw (v : V4) : v.tw.root = v.root.tw := by apply ext4 <;> simp only [root, tw] <;> omega
theorem root_neg (v : V4) : v.neg.root = v.root.neg := by apply ext4 <;> simp only [root, neg] <;> omega
theorem root_zero : zero.root = zero := rfl
theorem tw_add (v u : V4) : (v.add u).tw = v.tw.add u.tw := by apply ext4 <;> simp only [tw, add] <;> omega
theorem tw_neg (v : V4) : v.neg.tw = v.tw.neg := by apply ext4 <;> simp only [tw, neg] <;> omega
theorem neg_add (v u : V4) : (v.add u).neg = v.neg.add u.neg := by apply ext4 <;> simp only [neg, add] <;> omega
theorem add_zero (v : V4) : v.add zero = v := by apply ext4 <;> simp only [add, zero] <;> omega
theorem zero_add (v : V4) : zero.add v = v := by apply ext4 <;> simp only [add, zero] <;> omega
theorem root_scale (n : Int) (v : V4) : (v.scale n).root = v.root.scale n := by apply ext4 <;> simp only [root, scale, Int.add_mul, Int.sub_mul]
theorem tw_scale (n : Int) (v : V4) : (v.scale n).tw = v.tw.scale n := by apply ext4 <;> simp only [tw, scale, Int.neg_mul]
theorem neg_scale (n : Int) (v : V4) : (v.scale n).neg = v.neg.scale n := by apply ext4 <;> simp only [neg, scale, Int.neg_mul]
theorem add_scale (n : Int) (v u : V4) : (v.add u).scale n = (v.scale n).add (u.scale n) := by apply ext4 <;> simp only [add, scale, Int.add_mul]
theorem add_add_add (a b c d : V4) : (a.add b).add (c.add d) = (a.add c).add (b.add d) := by apply ext4 <;> simp only [add] <;> omega
theorem root_inj {v u : V4} (h : v.root = u.root) : v = u := by
  obtain ⟨a, b, c, d⟩ := v
  obtain ⟨a', b', c', d'⟩ := u
  simp only [root, V4.mk.injEq] at h ⊢
  omega
theorem rootN_inj : ∀ (n : Nat) {v u : V4}, rootN n v = rootN n u → v = u
  | 0, _, _, h => h
  | n + 1, _, _, h => root_inj (rootN_inj n h)
theorem rootN_add : ∀ (n : Nat) (v u : V4), rootN n (v.add u) = (rootN n v).add (rootN n u)
  | 0, _, _ => rfl
  | n + 1, v, u => by
    show rootN n (v.add u).root = _
    rw [root_add, rootN_add n]
    rfl
theorem rootN_neg : ∀ (n : Nat) (v : V4), rootN n v.neg = (rootN n v).neg
  | 0, _ => rfl
  | n + 1, v => by
    show rootN n v.neg.root = _
    rw [root_neg, rootN_neg n]
    rfl
theorem rootN_tw : ∀ (n : Nat) (v : V4), rootN n v.tw = (rootN n v).tw
  | 0, _ => rfl
  | n + 1, v => by
    show rootN n v.tw.root = _
    rw [root_tw, rootN_tw n]
    rfl
theorem rootN_scale (k : Int) : ∀ (n : Nat) (v : V4), rootN n (v.scale k) = (rootN n v).scale k
  | 0, _ => rfl
  | n + 1, v => by
    show rootN n (v.scale k).root = _
    rw [root_scale, rootN_scale k n]
    rfl
theorem rootN_zero : ∀ n : Nat, rootN n zero = zero
  | 0 => rfl
  | n + 1 => rootN_zero n
theorem rootN_rootN : ∀ (n m : Nat) (v : V4), rootN n (rootN m v) = rootN (m + n) v
  | n, 0, v => by rw [Nat.zero_add]; rfl
  | n, m + 1, v => by
    show rootN n (rootN m v.root) = _
    rw [rootN_rootN n m, show m + 1 + n = (m + n) + 1 by omega]
    rfl
theorem rootN_out : ∀ (n : Nat) (v : V4), rootN (n + 1) v = (rootN n v).root
  | 0, _ => rfl
  | n + 1, v => rootN_out n v.root
theorem even_root (v : V4) : v.root.even = true := by
  obtain ⟨a, b, c, d⟩ := v
  show (decide ((b - d + (b + d)) % 2 = 0) && decide ((a + c + (c - a)) % 2 = 0)) = true
  rw [Bool.and_eq_true, decide_eq_true_eq, decide_eq_true_eq]
  omega
theorem root_half {v : V4} (h : v.even = true) : v.half.root = v := by
  obtain ⟨a, b, c, d⟩ := v
  have h : (decide ((a + c) % 2 = 0) && decide ((b + d) % 2 = 0)) = true := h
  rw [Bool.and_eq_true, decide_eq_true_eq, decide_eq_true_eq] at h
  simp only [half, root, V4.mk.injEq]
  omega
theorem even_tw (v : V4) : v.tw.even = v.even := by
  obtain ⟨a, b, c, d⟩ := v
  show (decide ((-d + b) % 2 = 0) && decide ((a + c) % 2 = 0)) = (decide ((a + c) % 2 = 0) && decide ((b + d) % 2 = 0))
  rw [Bool.eq_iff_iff, Bool.and_eq_true, Bool.and_eq_true, decide_eq_true_eq, decide_eq_true_eq, decide_eq_true_eq]
  omega
end V4
/-! ### one form -/
def Cn (r : Ray) : Prop := 0 < r.k → r.v.even = false
theorem shL_cn : ∀ (k : Nat) (v : V4), Cn (Ray.shL k v)
  | 0, v => fun h => absurd h (Nat.lt_irrefl 0)
  | k + 1, v => by
    show Cn (if v.even = true then Ray.shL k v.half else ⟨v, k + 1⟩)
    split
    · exact shL_cn k v.half
    · next h =>
      intro _
      show v.even = false
      cases e : v.even with
      | false => rfl
      | true => exact absurd e h
theorem zero_cn : Cn Ray.zero := fun h => absurd h (Nat.lt_irrefl 0)
theorem one_cn : Cn Ray.one := fun h => absurd h (Nat.lt_irrefl 0)
theorem shorten_cn (v : V4) (k : Nat) : Cn (Ray.shorten v k) := by
  unfold Ray.shorten
  split
  · exact zero_cn
  · exact shL_cn k v
theorem tw_cn {r : Ray} (h : Cn r) : Cn r.tw := fun k => by
  show r.v.tw.even = false
  rw [V4.even_tw]
  exact h k
def val (N : Nat) (r : Ray) : V4 := V4.rootN (N - r.k) r.v
theorem val_zero (N : Nat) : val N Ray.zero = V4.zero := V4.rootN_zero _
theorem shL_val : ∀ (k : Nat) (v : V4) (N : Nat), k ≤ N → val N (Ray.shL k v) = V4.rootN (N - k) v
  | 0, v, N, _ => rfl
  | k + 1, v, N, h => by
    show val N (if v.even = true then Ray.shL k v.half else ⟨v, k + 1⟩) = _
    split
    · next he =>
      rw [shL_val k v.half N (by omega), show N - k = (N - (k + 1)) + 1 by omega]
      show V4.rootN _ v.half.root = _
      rw [V4.root_half he]
    · rfl
theorem shorten_val {v : V4} {k N : Nat} (h : k ≤ N) : val N (Ray.shorten v k) = V4.rootN (N - k) v := by
  unfold Ray.shorten
  split
  · next e => rw [e, val_zero, V4.rootN_zero]
  · exact shL_val k v N h
theorem val_up {r : Ray} {N : Nat} (m : Nat) (h : r.k ≤ N) : val (N + m) r = V4.rootN m (val N r) := by
  unfold val
  rw [V4.rootN_rootN]
  congr 1
  omega
theorem val_up1 {r : Ray} {N : Nat} (h : r.k ≤ N) : val (N + 1) r = (val N r).root := val_up 1 h
theorem val_sum {r s : Ray} {N : Nat} (h1 : r.k ≤ N) (h2 : s.k ≤ N) : val N (r.sum s) = (val N r).add (val N s) := by
  unfold Ray.sum
  rw [shorten_val (by omega), V4.rootN_add, V4.rootN_rootN, V4.rootN_rootN]
  unfold val
  congr 2 <;> omega
theorem val_tw (r : Ray) (N : Nat) : val N r.tw = (val N r).tw := V4.rootN_tw _ _
theorem val_neg (r : Ray) (N : Nat) : val N r.neg = (val N r).neg := V4.rootN_neg _ _
theorem val_over {r : Ray} {N : Nat} (h : r.k ≤ N) : val (N + 1) r.over = val N r := by
  unfold Ray.over
  rw [shorten_val (by omega)]
  unfold val
  congr 1
  omega
theorem val_inj' {r s : Ray} {N : Nat} (hs : Cn s) (h1 : r.k ≤ s.k) (h2 : s.k ≤ N) (h : val N r = val N s) : r = s := by
  have e : val N r = V4.rootN (N - s.k) (V4.rootN (s.k - r.k) r.v) := by
    unfold val
    rw [V4.rootN_rootN]
    congr 1
    omega
  rw [e] at h
  have h := V4.rootN_inj _ h
  by_cases hk : s.k = r.k
  · rw [hk, Nat.sub_self] at h
    obtain ⟨v, k⟩ := r
    obtain ⟨u, m⟩ := s
    have hk : m = k := hk
    have h : v = u := h
    rw [hk, h]
  · exfalso
    have h3 := hs (by omega)
    rw [← h, show s.k - r.k = (s.k - r.k - 1) + 1 by omega, V4.rootN_out, V4.even_root] at h3
    cases h3
theorem val_inj {r s : Ray} {N : Nat} (hr : Cn r) (hs : Cn s) (h1 : r.k ≤ N) (h2 : s.k ≤ N) (h : val N r = val N s) : r = s := by
  by_cases hk : r.k ≤ s.k
  · exact val_inj' hs hk h2 h
  · exact (val_inj' hr (by omega) h1 h.symm).symm
/-! ### states as vectors -/
abbrev Vc := Nat → V4
def valS (N : Nat) (s : Stt) : Vc := fun i => val N (s.at i)
def CnS (s : Stt) : Prop := ∀ r ∈ s, Cn r
theorem CnS.at {s : Stt} (h : CnS s) (i : Nat) : Cn (s.at i) := by
  unfold Stt.at
  rw [List.getD_eq_getElem?_getD]
  cases e : s[i]? with
  | none => exact zero_cn
  | some r => exact h r (List.mem_of_getElem? e)
theorem CnS.set {s : Stt} (h : CnS s) {i : Nat} {r : Ray} (hr : Cn r) : CnS (s.set i r) := fun q hq => by
  rcases List.mem_or_eq_of_mem_set hq with z | z
  · exact h q z
  · rw [z]; exact hr
theorem led_cn {s : Stt} (h : CnS s) (g : Deed) : CnS (led s g) := by
  cases g with
  | turn i => exact h.set (tw_cn (h.at i))
  | swap i j => exact (h.set (h.at j)).set (h.at i)
  | mix i j => exact (h.set (shorten_cn _ _)).set (shorten_cn _ _)
theorem ledAll_cn : ∀ (gs : List Deed) {s : Stt}, CnS s → CnS (ledAll s gs)
  | [], _, h => h
  | g :: gs, _, h => ledAll_cn gs (led_cn h g)
theorem lone_cn (n i : Nat) : CnS (lone n i) := CnS.set (fun r hr => by rw [List.eq_of_mem_replicate hr]; exact zero_cn) one_cn
theorem at_set {s : Stt} {i j : Nat} {r : Ray} (h : i < s.length) : Stt.at (s.set i r) j = if j = i then r else s.at j := by
  unfold Stt.at
  rw [List.getD_eq_getElem?_getD, List.getD_eq_getElem?_getD, List.getElem?_set]
  by_cases e : i = j
  · subst e
    rw [if_pos rfl, if_pos rfl, if_pos h]
    rfl
  · rw [if_neg e, if_neg (Ne.symm e)]
theorem stt_ext {s t : Stt} (hl : s.length = t.length) (h : ∀ i, s.at i = t.at i) : s = t := by
  apply List.ext_getElem hl
  intro i h1 h2
  have := h i
  unfold Stt.at at this
  rw [List.getD_eq_getElem?_getD, List.getD_eq_getElem?_getD, List.getElem?_eq_getElem h1, List.getElem?_eq_getElem h2] at this
  exact this
theorem valS_inj {s t : Stt} {N : Nat} (hl : s.length = t.length) (h1 : CnS s) (h2 : CnS t) (k1 : KB N s) (k2 : KB N t) (h : valS N s = valS N t) : s = t :=
  stt_ext hl fun i => val_inj (h1.at i) (h2.at i) (k1.at i) (k2.at i) (congrFun h i)
/-! ### the deeds on vectors -/
def Lg : Deed → Vc → Vc
  | .turn j, f => fun i => if i = j then (f j).tw.root else (f i).root
  | .swap j k, f => fun i => if i = k then (f j).root else if i = j then (f k).root else (f i).root
  | .mix j k, f => fun i => if i = k then (f j).add (f k).neg else if i = j then (f j).add (f k) else (f i).root
theorem led_val {s : Stt} {g : Deed} {N : Nat} (hg : g.ok s.length = true) (hk : KB N s) : valS (N + 1) (led s g) = Lg g (valS N s) := by
  funext i
  cases g with
  | turn j =>
    have hj : j < s.length := of_decide_eq_true hg
    show val (N + 1) (Stt.at (s.set j (s.at j).tw) i) = if i = j then (val N (s.at j)).tw.root else (val N (s.at i)).root
    rw [at_set hj]
    split
    · rw [val_up1 (r := (s.at j).tw) (hk.at j), val_tw]
    · exact val_up1 (hk.at i)
  | swap j k =>
    have hjk : j < k ∧ k < s.length := by simpa [Deed.ok] using hg
    show val (N + 1) (Stt.at ((s.set j (s.at k)).set k (s.at j)) i) = if i = k then (val N (s.at j)).root else if i = j then (val N (s.at k)).root else (val N (s.at i)).root
    rw [at_set (by rw [List.length_set]; exact hjk.2), at_set (by omega)]
    split
    · exact val_up1 (hk.at j)
    · split
      · exact val_up1 (hk.at k)
      · exact val_up1 (hk.at i)
  | mix j k =>
    have hjk : j < k ∧ k < s.length := by simpa [Deed.ok] using hg
    have b1 := hk.at j
    have b2 := hk.at k
    show val (N + 1) (Stt.at ((s.set j ((s.at j).sum (s.at k)).over).set k ((s.at j).sum (s.at k).neg).over) i) = if i = k then (val N (s.at j)).add (val N (s.at k)).neg else if i = j then (val N (s.at j)).add (val N (s.at k)) else (val N (s.at i)).root
    rw [at_set (by rw [List.length_set]; exact hjk.2), at_set (by omega)]
    split
    · rw [val_over (Nat.le_trans (sum_k _ _) (by show max (s.at j).k (s.at k).k ≤ N; omega)), val_sum b1 (show (s.at k).neg.k ≤ N from b2), val_neg]
    · split
      · rw [val_over (Nat.le_trans (sum_k _ _) (by omega)), val_sum b1 b2]
      · exact val_up1 (hk.at i)
def Lgs (gs : List Deed) (f : Vc) : Vc := gs.foldl (fun f g => Lg g f) f
theorem led_kb1 {m : Nat} {s : Stt} (h : KB m s) (g : Deed) : KB (m + 1) (led s g) := (led_kb h g).mono (by split <;> omega)
theorem ledAll_val : ∀ (gs : List Deed) {s : Stt} {N : Nat}, kw gs s.length → KB N s → valS (N + gs.length) (ledAll s gs) = Lgs gs (valS N s) ∧ KB (N + gs.length) (ledAll s gs)
  | [], _, _, _, h => ⟨rfl, h⟩
  | g :: gs, s, N, hg, h => by
    have h1 := led_val (hg g List.mem_cons_self) h
    obtain ⟨h2, h3⟩ := ledAll_val gs (s := led s g) (N := N + 1) (by rw [led_len]; exact fun x hx => hg x (List.mem_cons_of_mem _ hx)) (led_kb1 h g)
    rw [h1, show N + 1 + gs.length = N + (g :: gs).length by rw [List.length_cons]; omega] at h2
    rw [show N + 1 + gs.length = N + (g :: gs).length by rw [List.length_cons]; omega] at h3
    exact ⟨h2, h3⟩
/-- deeds that only lift the level do nothing -/
theorem led_id {gs : List Deed} (hL : ∀ f, Lgs gs f = fun i => V4.rootN gs.length (f i)) {s : Stt} {N : Nat} (hg : kw gs s.length) (hc : CnS s) (hk : KB N s) : ledAll s gs = s := by
  obtain ⟨h1, h2⟩ := ledAll_val gs hg hk
  refine valS_inj (ledAll_len gs s) (ledAll_cn gs hc) hc h2 (hk.mono (by omega)) ?_
  rw [h1, hL]
  funext i
  exact (val_up gs.length (hk.at i)).symm
theorem two_swap (j k : Nat) (hjk : j ≠ k) (f : Vc) : Lgs [.swap j k, .swap j k] f = fun i => V4.rootN 2 (f i) := by
  funext i
  show (if i = k then (if j = k then (f j).root else if j = j then (f k).root else (f j).root).root else if i = j then (if k = k then (f j).root else if k = j then (f k).root else (f k).root).root else (if i = k then (f j).root else if i = j then (f k).root else (f i).root).root) = (f i).root.root
  rw [if_neg hjk, if_pos rfl, if_pos rfl]
  split
  · next h => rw [h]
  · split
    · next h => rw [h]
    · rfl
theorem two_mix (j k : Nat) (hjk : j ≠ k) (f : Vc) : Lgs [.mix j k, .mix j k] f = fun i => V4.rootN 2 (f i) := by
  funext i
  show (if i = k then (if j = k then (f j).add (f k).neg else if j = j then (f j).add (f k) else (f j).root).add (if k = k then (f j).add (f k).neg else if k = j then (f j).add (f k) else (f k).root).neg else
    if i = j then (if j = k then (f j).add (f k).neg else if j = j then (f j).add (f k) else (f j).root).add (if k = k then (f j).add (f k).neg else if k = j then (f j).add (f k) else (f k).root) else (if i = k then (f j).add (f k).neg else if i = j then (f j).add (f k) else (f i).root).root) = (f i).root.root
  rw [if_neg hjk, if_pos rfl, if_pos rfl]
  split
  · next h =>
    rw [h]
    apply V4.ext4 <;> simp only [V4.add, V4.neg, V4.root] <;> omega
  · split
    · next h =>
      rw [h]
      apply V4.ext4 <;> simp only [V4.add, V4.neg, V4.root] <;> omega
    · rfl
def stepT (j : Nat) (f : Vc) : Vc := fun i => if i = j then (f j).tw.root else (f i).root
theorem stepT_at (j : Nat) (f : Vc) : stepT j f j = (f j).tw.root := if_pos rfl
theorem stepT_ne {i j : Nat} (h : ¬ i = j) (f : Vc) : stepT j f i = (f i).root := if_neg h
theorem eight_turn (j : Nat) (f : Vc) : Lgs (List.replicate 8 (.turn j)) f = fun i => V4.rootN 8 (f i) := by
  funext i
  show stepT j (stepT j (stepT j (stepT j (stepT j (stepT j (stepT j (stepT j f))))))) i = (f i).root.root.root.root.root.root.root.root
  by_cases h : i = j
  · subst h
    rw [stepT_at, stepT_at, stepT_at, stepT_at, stepT_at, stepT_at, stepT_at, stepT_at]
    simp only [V4.root_tw]
    generalize (f i).root.root.root.root.root.root.root.root = v
    apply V4.ext4 <;> simp only [V4.tw] <;> omega
  · rw [stepT_ne h, stepT_ne h, stepT_ne h, stepT_ne h, stepT_ne h, stepT_ne h, stepT_ne h, stepT_ne h]
theorem need_id {g : Deed} {s : Stt} {N : Nat} (hg : g.ok s.length = true) (hc : CnS s) (hk : KB N s) : ledAll s (List.replicate (needN g) g) = s := by
  have hkw : kw (List.replicate (needN g) g) s.length := fun x hx => by rw [List.eq_of_mem_replicate hx]; exact hg
  cases g with
  | turn j => exact led_id (eight_turn j) hkw hc hk
  | swap j k =>
    have hjk : j < k ∧ k < s.length := by simpa [Deed.ok] using hg
    exact led_id (two_swap j k (by omega)) hkw hc hk
  | mix j k =>
    have hjk : j < k ∧ k < s.length := by simpa [Deed.ok] using hg
    exact led_id (two_mix j k (by omega)) hkw hc hk
theorem plain_of_none {n : Nat} {gs : List Deed} (hg : kw gs n) (hf : firstIdle n gs = none) : Plain gs := by
  intro i g hi hn
  cases hb : ((gs.take (i + 1)).drop (i + 1 - needN g)).all (fun h => decide (h = g)) with
  | false => rfl
  | true =>
    exfalso
    have il := (List.getElem?_eq_some_iff.mp hi).1
    have n0 : 0 < needN g := by cases g <;> exact Nat.le_of_ble_eq_true rfl
    have hrep : (gs.take (i + 1)).drop (i + 1 - needN g) = List.replicate (needN g) g := by
      rw [List.eq_replicate_iff]
      refine ⟨by rw [List.length_drop, List.length_take]; omega, fun b hb' => ?_⟩
      exact of_decide_eq_true (List.all_eq_true.mp hb b hb')
    have e : gs.take (i + 1) = gs.take (i + 1 - needN g) ++ List.replicate (needN g) g := by
      rw [← hrep]
      conv => lhs; rw [← List.take_append_drop (i + 1 - needN g) (gs.take (i + 1))]
      rw [List.take_take, Nat.min_eq_left (by omega)]
    have b := rowAt_rb (gs.take (i + 1 - needN g)) 0 _ (lones_rb n)
    have e2 : rowAt (lones n) (gs.take (i + 1)) = rowAt (lones n) (gs.take (i + 1 - needN g)) := by
      rw [e, rowAt_append]
      generalize hr : rowAt (lones n) (gs.take (i + 1 - needN g)) = r at b ⊢
      rw [rowAt_map]
      refine (List.map_congr_left fun s hs => ?_).trans (List.map_id r)
      have hc : CnS s := by
        rw [← hr, rowAt_map] at hs
        obtain ⟨t, ht, rfl⟩ := List.mem_map.mp hs
        obtain ⟨k, _, rfl⟩ := List.mem_map.mp ht
        exact ledAll_cn _ (lone_cn n k)
      obtain ⟨b1, b2⟩ := b.2 s hs
      exact need_id (by rw [b1]; exact hg g (List.mem_of_getElem? hi)) hc b2
    have r1 : (rows n gs)[i + 1 - needN g]? = some (rowAt (lones n) (gs.take (i + 1 - needN g))) := rowsFrom_get gs _ _ (by omega)
    have r2 : (rows n gs)[i + 1]? = some (rowAt (lones n) (gs.take (i + 1))) := rowsFrom_get gs _ _ (by omega)
    refine firstFrom_none hf _ _ r1 ?_
    refine List.mem_of_getElem? (i := needN g - 1) ?_
    rw [List.getElem?_drop, show i + 1 - needN g + 1 + (needN g - 1) = i + 1 by omega, r2, e2]
/-! ### linear -/
structure Lin (T : Vc → Vc) : Prop where
  add : ∀ f h, T (fun i => (f i).add (h i)) = fun i => (T f i).add (T h i)
  tw : ∀ f, T (fun i => (f i).tw) = fun i => (T f i).tw
  sc : ∀ (n : Int) f, T (fun i => (f i).scale n) = fun i => (T f i).scale n
theorem lin_g (g : Deed) : Lin (Lg g) := by
  cases g with
  | turn j =>
    refine ⟨fun f h => ?_, fun f => ?_, fun n f => ?_⟩ <;> funext i
    · show (if i = j then ((f j).add (h j)).tw.root else ((f i).add (h i)).root) = (if i = j then (f j).tw.root else (f i).root).add (if i = j then (h j).tw.root else (h i).root)
      split <;> simp only [V4.tw_add, V4.root_add]
    · show (if i = j then (f j).tw.tw.root else (f i).tw.root) = (if i = j then (f j).tw.root else (f i).root).tw
      split <;> simp only [V4.root_tw]
    · show (if i = j then ((f j).scale n).tw.root else ((f i).scale n).root) = (if i = j then (f j).tw.root else (f i).root).scale n
      split <;> simp only [V4.tw_scale, V4.root_scale]
  | swap j k =>
    refine ⟨fun f h => ?_, fun f => ?_, fun n f => ?_⟩ <;> funext i
    · show (if i = k then ((f j).add (h j)).root else if i = j then ((f k).add (h k)).root else ((f i).add (h i)).root) = (if i = k then (f j).root else if i = j then (f k).root else (f i).root).add (if i = k then (h j).root else if i = j then (h k).root else (h i).root)
      repeat' split
      all_goals simp only [V4.root_add]
    · show (if i = k then (f j).tw.root else if i = j then (f k).tw.root else (f i).tw.root) = (if i = k then (f j).root else if i = j then (f k).root else (f i).root).tw
      repeat' split
      all_goals simp only [V4.root_tw]
    · show (if i = k then ((f j).scale n).root else if i = j then ((f k).scale n).root else ((f i).scale n).root) = (if i = k then (f j).root else if i = j then (f k).root else (f i).root).scale n
      repeat' split
      all_goals simp only [V4.root_scale]
  | mix j k =>
    refine ⟨fun f h => ?_, fun f => ?_, fun n f => ?_⟩ <;> funext i
    · show (if i = k then ((f j).add (h j)).add ((f k).add (h k)).neg else if i = j then ((f j).add (h j)).add ((f k).add (h k)) else ((f i).add (h i)).root) = (if i = k then (f j).add (f k).neg else if i = j then (f j).add (f k) else (f i).root).add (if i = k then (h j).add (h k).neg else if i = j then (h j).add (h k) else (h i).root)
      repeat' split
      · rw [V4.neg_add, V4.add_add_add]
      · rw [V4.add_add_add]
      · rw [V4.root_add]
    · show (if i = k then (f j).tw.add (f k).tw.neg else if i = j then (f j).tw.add (f k).tw else (f i).tw.root) = (if i = k then (f j).add (f k).neg else if i = j then (f j).add (f k) else (f i).root).tw
      repeat' split
      · rw [V4.tw_add, V4.tw_neg]
      · rw [V4.tw_add]
      · rw [V4.root_tw]
    · show (if i = k then ((f j).scale n).add ((f k).scale n).neg else if i = j then ((f j).scale n).add ((f k).scale n) else ((f i).scale n).root) = (if i = k then (f j).add (f k).neg else if i = j then (f j).add (f k) else (f i).root).scale n
      repeat' split
      · rw [V4.add_scale, V4.neg_scale]
      · rw [V4.add_scale]
      · rw [V4.root_scale]
theorem lin_gs : ∀ gs : List Deed, Lin (Lgs gs)
  | [] => ⟨fun _ _ => rfl, fun _ => rfl, fun _ _ => rfl⟩
  | g :: gs => by
    have h1 := lin_g g
    have h2 := lin_gs gs
    refine ⟨fun f h => ?_, fun f => ?_, fun n f => ?_⟩
    · show Lgs gs (Lg g _) = _
      rw [h1.add, h2.add]
      rfl
    · show Lgs gs (Lg g _) = _
      rw [h1.tw, h2.tw]
      rfl
    · show Lgs gs (Lg g _) = _
      rw [h1.sc, h2.sc]
      rfl
theorem lin_up (m : Nat) {T : Vc → Vc} (h : Lin T) : Lin fun f i => V4.rootN m (T f i) := by
  refine ⟨fun f k => ?_, fun f => ?_, fun n f => ?_⟩ <;> funext i
  · show V4.rootN m (T _ i) = _
    rw [h.add]
    exact V4.rootN_add _ _ _
  · show V4.rootN m (T _ i) = _
    rw [h.tw]
    exact V4.rootN_tw _ _
  · show V4.rootN m (T _ i) = _
    rw [h.sc]
    exact V4.rootN_scale _ _ _
def eb (j : Nat) : Vc := fun i => if i = j then ⟨1, 0, 0, 0⟩ else V4.zero
/-- a vector of one place -/
def sg (j : Nat) (v : V4) : Vc := fun i => if i = j then v else V4.zero
theorem zero_tw : V4.zero.tw = V4.zero := rfl
theorem scale_zero (n : Int) : V4.zero.scale n = V4.zero := by apply V4.ext4 <;> simp [V4.scale, V4.zero]
theorem sg_dec (j : Nat) (v : V4) : sg j v = fun i => ((fun i => ((eb j i).scale v.a).add ((eb j i).tw.scale v.b)) i).add ((fun i => ((eb j i).tw.tw.scale v.c).add ((eb j i).tw.tw.tw.scale v.d)) i) := by
  funext i
  show (if i = j then v else V4.zero) = (((if i = j then (⟨1, 0, 0, 0⟩ : V4) else V4.zero).scale v.a).add (((if i = j then (⟨1, 0, 0, 0⟩ : V4) else V4.zero).tw).scale v.b)).add ((((if i = j then (⟨1, 0, 0, 0⟩ : V4) else V4.zero).tw.tw).scale v.c).add (((if i = j then (⟨1, 0, 0, 0⟩ : V4) else V4.zero).tw.tw.tw).scale v.d))
  split
  · apply V4.ext4 <;> simp [V4.add, V4.scale, V4.tw]
  · apply V4.ext4 <;> simp [V4.add, V4.scale, V4.tw, V4.zero]
theorem Lin.sg {T T' : Vc → Vc} (h : Lin T) (h' : Lin T') {j : Nat} (e : T (eb j) = T' (eb j)) (v : V4) : T (sg j v) = T' (sg j v) := by
  rw [sg_dec]
  have dec : ∀ {T : Vc → Vc}, Lin T → T (fun i => ((fun i => ((eb j i).scale v.a).add ((eb j i).tw.scale v.b)) i).add ((fun i => ((eb j i).tw.tw.scale v.c).add ((eb j i).tw.tw.tw.scale v.d)) i)) = fun i => (((T (eb j) i).scale v.a).add ((T (eb j) i).tw.scale v.b)).add (((T (eb j) i).tw.tw.scale v.c).add ((T (eb j) i).tw.tw.tw.scale v.d)) := by
    intro T h
    rw [h.add, h.add, h.add, h.sc v.a (eb j), h.sc v.b (fun i => (eb j i).tw), h.sc v.c (fun i => (eb j i).tw.tw), h.sc v.d (fun i => (eb j i).tw.tw.tw), h.tw (fun i => (eb j i).tw.tw), h.tw (fun i => (eb j i).tw), h.tw (eb j)]
  rw [dec h, dec h', e]
theorem Lin.eq_on {T T' : Vc → Vc} (h : Lin T) (h' : Lin T') : ∀ (n : Nat), (∀ j, j < n → T (eb j) = T' (eb j)) → ∀ f : Vc, (∀ i, n ≤ i → f i = V4.zero) → T f = T' f
  | 0, _, f, hf => by
    have e : f = fun i => (eb 0 i).scale 0 := by
      funext i
      rw [hf i (Nat.zero_le _)]
      apply V4.ext4 <;> simp [V4.scale, V4.zero]
    rw [e, h.sc, h'.sc]
    funext i
    apply V4.ext4 <;> simp [V4.scale]
  | n + 1, hb, f, hf => by
    have e : f = fun i => ((fun i => if i = n then V4.zero else f i) i).add (DD.sg n (f n) i) := by
      funext i
      show f i = (if i = n then V4.zero else f i).add (if i = n then f n else V4.zero)
      split
      · next z => rw [z, V4.zero_add]
      · rw [V4.add_zero]
    have i1 := Lin.eq_on h h' n (fun j hj => hb j (by omega)) (fun i => if i = n then V4.zero else f i) (fun i hi => by
      show (if i = n then V4.zero else f i) = _
      split
      · rfl
      · exact hf i (by omega))
    have i2 := Lin.sg h h' (hb n (by omega)) (f n)
    rw [e, h.add, h'.add, i1, i2]
theorem lone_val (n j : Nat) (hj : j < n) : valS 0 (lone n j) = eb j := by
  funext i
  show val 0 (Stt.at ((List.replicate n Ray.zero).set j Ray.one) i) = if i = j then _ else _
  rw [at_set (by rw [List.length_replicate]; exact hj)]
  split
  · rfl
  · have : Stt.at (List.replicate n Ray.zero) i = Ray.zero := by
      unfold Stt.at
      rw [List.getD_eq_getElem?_getD, List.getElem?_replicate]
      split <;> rfl
    rw [this]
    rfl
/-- like columns, like deeds -/
theorem like_act {n N : Nat} {gs hs : List Deed} (hg : kw gs n) (hh : kw hs n) (hr : rowAt (lones n) gs = rowAt (lones n) hs) {s : Stt} (hl : s.length = n) (hc : CnS s) (hk : KB N s) : ledAll s gs = ledAll s hs := by
  have hcol : ∀ j, j < n → ledAll (lone n j) gs = ledAll (lone n j) hs := fun j hj => by
    rw [rowAt_map, rowAt_map] at hr
    have e : (lones n)[j]? = some (lone n j) := by
      unfold lones
      rw [List.getElem?_map, List.getElem?_range hj]
      rfl
    have z := congrArg (fun l : List Stt => l[j]?) hr
    simp only [List.getElem?_map, e, Option.map_some, Option.some.injEq] at z
    exact z
  obtain ⟨M, hM⟩ : ∃ M, M = max gs.length hs.length := ⟨_, rfl⟩
  have up : ∀ {ds : List Deed}, ds.length ≤ M → kw ds n → ∀ {t : Stt} {N : Nat}, t.length = n → KB N t → valS (N + M) (ledAll t ds) = (fun i => V4.rootN (M - ds.length) (Lgs ds (valS N t) i)) ∧ KB (N + M) (ledAll t ds) := by
    intro ds hd hk t N ht hN
    obtain ⟨h1, h2⟩ := ledAll_val ds (by rw [ht]; exact hk) hN
    refine ⟨?_, h2.mono (by omega)⟩
    rw [← h1]
    funext i
    show val (N + M) _ = V4.rootN _ (val (N + ds.length) _)
    rw [← val_up _ (h2.at i)]
    congr 1
    omega
  obtain ⟨g1, g2⟩ := up (by omega) hg hl hk
  obtain ⟨h1, h2⟩ := up (by omega) hh hl hk
  refine valS_inj (by rw [ledAll_len, ledAll_len]) (ledAll_cn gs hc) (ledAll_cn hs hc) g2 h2 ?_
  rw [g1, h1]
  refine Lin.eq_on (lin_up _ (lin_gs gs)) (lin_up _ (lin_gs hs)) n (fun j hj => ?_) _ (fun i hi => ?_)
  · obtain ⟨a1, _⟩ := up (ds := gs) (by omega) hg (t := lone n j) (N := 0) (lone_len n j) (lone_kb n j)
    obtain ⟨a2, _⟩ := up (ds := hs) (by omega) hh (t := lone n j) (N := 0) (lone_len n j) (lone_kb n j)
    rw [lone_val n j hj] at a1 a2
    show (fun i => V4.rootN (M - gs.length) (Lgs gs (eb j) i)) = fun i => V4.rootN (M - hs.length) (Lgs hs (eb j) i)
    rw [← a1, ← a2, hcol j hj]
  · show val N (s.at i) = _
    have : s.at i = Ray.zero := by
      unfold Stt.at
      rw [List.getD_eq_getElem?_getD, List.getElem?_eq_none (by omega)]
      rfl
    rw [this, val_zero]
end DD
/-! T8: the law's own rays, states -/
namespace DD
open PySem PySem.Spec L2
open PyProof.Rows hiding St
local macro_rules | `(tactic| walk_at "side") => `(tactic| first | exact Nat.le_of_ble_eq_true rfl | assumption | omega | decide | rfl | (simp; done) | (simp; omega))
theorem half_zero {v : V4} (h : v.even = true) (z : v.half = V4.zero) : v = V4.zero := by
  obtain ⟨a, b, c, d⟩ := v
  simp only [V4.even, Bool.and_eq_true, decide_eq_true_eq] at h
  simp only [V4.half, V4.zero, V4.mk.injEq] at z ⊢
  omega
theorem shL_zero (k : Nat) : Ray.shL k V4.zero = Ray.zero := by
  induction k with
  | zero => rfl
  | succ k ih => exact ih
theorem shL_ne {k : Nat} : ∀ {v : V4}, v ≠ V4.zero → (Ray.shL k v).v ≠ V4.zero := by
  induction k with
  | zero => intro v h; exact h
  | succ k ih =>
    intro v h
    show (if v.even = true then Ray.shL k v.half else ⟨v, k + 1⟩ : Ray).v ≠ _
    split
    · next he => exact ih fun z => h (half_zero he z)
    · exact h
theorem shorten_end {v u : V4} {k m : Nat} (h : Ray.shL k v = ⟨u, m⟩) : Ray.shorten v k = if u = V4.zero then Ray.zero else ⟨u, m⟩ := by
  unfold Ray.shorten
  by_cases e : v = V4.zero
  · subst e
    rw [shL_zero] at h
    cases h
    rw [if_pos rfl]
    rfl
  · have := shL_ne (k := k) e
    rw [h] at this
    rw [if_neg e, if_neg this, h]
section
variable {P : Program} {w : World} {K : PySem.W.Frag} {mg : Str → Option Value} {base : Heap}
def R_law_put (ds : List PyData) (d : PyData) : Prop := ∃ (xs : List PyData) (i : Int) (y : PyData), ds = [.tuple xs, .int i, y] ∧ xs.length ≤ 1000 ∧ d = .tuple (cutD xs none (some i) ++ [y] ++ cutD xs (some (i + 1)) none)
theorem ok_law_put (T : At K mg "_law_put" s_law_put ["_law_row_so", "_law_place_so", "_law_bit_so"]) : DefOk P w K mg base "_law_put" ["_law_row_so", "_law_place_so", "_law_bit_so"] 1 (spD K R_law_put) := by
  refine at_def T R_law_put sc_law_put (fun ds d h => by obtain ⟨_, _, _, rfl, _⟩ := h; rfl) fun f cdv A outer s H E hr c ds d h => ?_
  obtain ⟨xs, i, y, rfl, hx, rfl⟩ := h
  have l1 := cutD_len xs none (some i)
  have l2 := cutD_len xs (some (i + 1)) none
  exact ds_ret (de_bin (de_bin (de_slT (de_var 0 rfl) do_none (do_some (de_var 1 rfl))) (de_tup (da_cons (de_var 2 rfl) da_nil)) (b_catT (by walk_at "side"))) (de_slT (de_var 0 rfl) (do_some (de_bin (de_var 1 rfl) de_int b_add)) do_none) (b_catT (by walk_at "side"))) rfl
def R_law_ray (ds : List PyData) (d : PyData) : Prop := ∃ (v : V4) (k : Nat), ds = [.int v.a, .int v.b, .int v.c, .int v.d, .int k] ∧ d = encR (Ray.shorten v k)
theorem ok_law_ray (T : At K mg "_law_ray" s_law_ray ["_law_a_so", "_law_b_so", "_law_c_so", "_law_d_so", "_law_k_so"]) : DefOk P w K mg base "_law_ray" ["_law_a_so", "_law_b_so", "_law_c_so", "_law_d_so", "_law_k_so"] 1 (spD K R_law_ray) := by
  refine at_def T R_law_ray sc_law_ray (fun ds d h => by obtain ⟨_, _, rfl, _⟩ := h; rfl) fun f cdv A outer s H E hr c ds d h => ?_
  obtain ⟨v, k, rfl, rfl⟩ := h
  refine ds_while (fun n ρ' => ∃ (u : V4) (m : Nat) (y1 y2 y3 y4 : Sl), n = m ∧ Ray.shL m u = Ray.shL k v ∧ ρ' = [.d (.int u.a), .d (.int u.b), .d (.int u.c), .d (.int u.d), .d (.int m), y1, y2, y3, y4]) k ⟨v, k, .no, .no, .no, .no, rfl, rfl, rfl⟩ fun n ρ1 hI => ?_
  obtain ⟨u, m, y1, y2, y3, y4, rfl, hu, rfl⟩ := hI
  refine ⟨decide ((0 : Int) < n) && u.even, (dw_and (dt_cmp (de_var 4 rfl) de_int c_gt) (fun _ => (dw_and (dt_cmp (de_bin (de_bin (de_var 0 rfl) (de_var 2 rfl) b_add) de_int (b_mod (by decide))) de_int c_eqI) (fun _ => (dw_and1 (dt_cmp (de_bin (de_bin (de_var 1 rfl) (de_var 3 rfl) b_add) de_int (b_mod (by decide))) de_int c_eqI)))))).dt, fun h => ?_, fun h => ?_⟩
  · rw [Bool.and_eq_true] at h
    obtain ⟨h1, h2⟩ := h
    cases n with
    | zero => cases h1
    | succ m =>
      refine ds_par 5 6 (da_cons (de_bin (de_var 1 rfl) (de_var 3 rfl) b_sub) (da_cons (de_bin (de_var 0 rfl) (de_var 2 rfl) b_add) da_nil)) ?_ sc_law_ray.nd rfl
      refine ds_par 7 8 (da_cons (de_bin (de_var 1 rfl) (de_var 3 rfl) b_add) (da_cons (de_bin (de_var 2 rfl) (de_var 0 rfl) b_sub) da_nil)) ?_ sc_law_ray.nd rfl
      refine ds_par3 0 1 4 (da_cons (de_bin (de_var 5 rfl) de_int (b_div (by decide) (by decide))) (da_cons (de_bin (de_var 6 rfl) de_int (b_div (by decide) (by decide))) (da_cons (de_bin (de_var 4 rfl) de_int b_sub) da_nil))) ?_ sc_law_ray.nd rfl
      refine ds_par 2 3 (da_cons (de_bin (de_var 7 rfl) de_int (b_div (by decide) (by decide))) (da_cons (de_bin (de_var 8 rfl) de_int (b_div (by decide) (by decide))) da_nil)) ?_ sc_law_ray.nd rfl
      refine ds_nil ⟨m, by omega, u.half, m, .d (.int (u.b - u.d)), .d (.int (u.a + u.c)), .d (.int (u.b + u.d)), .d (.int (u.c - u.a)), rfl, (shL_step h2).symm.trans hu, ?_⟩
      rw [show ((m : Nat) : Int) = ((m + 1 : Nat) : Int) - 1 by omega]
      rfl
  · have e := eqv_dec (encV_ok u) (encV_ok V4.zero) encV_inj
    have e2 : Ray.shL k v = ⟨u, n⟩ := by rw [← hu, shL_stop h]
    rw [shorten_end e2]
    refine ds_ret (de_if (k := !decide (u = V4.zero)) (by
      rw [← e]
      exact (dt_cmp (de_tup (da_cons (de_var 0 rfl) (da_cons (de_var 1 rfl) (da_cons (de_var 2 rfl) (da_cons (de_var 3 rfl) da_nil))))) (de_tup (da_cons de_int (da_cons de_int (da_cons de_int (da_cons de_int da_nil))))) (c_neD (hu64 hr) (okn_shaped (encV_ok u)) (okn_shaped (encV_ok V4.zero))))) (fun z => (de_tup (da_cons (de_var 0 rfl) (da_cons (de_var 1 rfl) (da_cons (de_var 2 rfl) (da_cons (de_var 3 rfl) (da_cons (de_var 4 rfl) da_nil)))))).is ?_) (fun z => (de_tup (da_cons de_int (da_cons de_int (da_cons de_int (da_cons de_int (da_cons de_int da_nil)))))).is ?_)) rfl
    · rw [if_neg (by simpa using z)]; rfl
    · rw [if_pos (by simpa using z)]; rfl
def R_law_at (ds : List PyData) (d : PyData) : Prop := ∃ (r : Ray) (n : Nat), ds = [encR r, .int n] ∧ n ≤ 1000 ∧ r.k ≤ n ∧ d = encV (V4.rootN (n - r.k) r.v)
theorem rootN_root (n : Nat) : ∀ v : V4, V4.rootN n v.root = (V4.rootN n v).root := by
  induction n with
  | zero => intro v; rfl
  | succ n ih => intro v; exact ih v.root
theorem ok_law_at (Z : Bi mg) (T : At K mg "_law_at" s_law_at ["_law_ray_so", "_law_k_so"]) : DefOk P w K mg base "_law_at" ["_law_ray_so", "_law_k_so"] 1 (spD K R_law_at) := by
  refine at_def T R_law_at sc_law_at (fun ds d h => by obtain ⟨_, _, rfl, _⟩ := h; rfl) fun f cdv A outer s H E hr c ds d h => ?_
  obtain ⟨r, n, rfl, hn, hk, rfl⟩ := h
  refine ds_unp ((de_slT (de_var 0 rfl) do_none (do_some de_int)).is (cutV4 r)) (dg_tup rfl (dgs_cons (dg_name 2 sc_law_at.nd) (dgs_cons (dg_name 3 sc_law_at.nd) (dgs_cons (dg_name 4 sc_law_at.nd) (dgs_cons (dg_name 5 sc_law_at.nd) dgs_nil))))) ?_
  refine ds_for (di_rng1 Z.range (de_bin (de_var 1 rfl) (de_ixT (de_var 0 rfl) de_int rfl) b_sub) (by walk_at "side") (by walk_at "side")) (fun i ρ' => ∃ (u : V4) (y1 y2 y3 : Sl), u = V4.rootN i r.v ∧ ρ' = [.d (encR r), .d (.int n), .d (.int u.a), .d (.int u.b), .d (.int u.c), .d (.int u.d), y1, y2, y3]) ⟨r.v, .no, .no, .no, rfl, rfl⟩ (fun i x ρ1 hx hI => ?_) fun ρ1 hI => ?_
  · obtain ⟨u, y1, y2, y3, hu, rfl⟩ := hI
    refine ⟨_, _, dg_name 6 sc_law_at.nd, ?_⟩
    refine ds_par 7 8 (da_cons (de_bin (de_var 3 rfl) (de_var 5 rfl) b_sub) (da_cons (de_bin (de_var 2 rfl) (de_var 4 rfl) b_add) da_nil)) ?_ sc_law_at.nd rfl
    refine ds_par 4 5 (da_cons (de_bin (de_var 3 rfl) (de_var 5 rfl) b_add) (da_cons (de_bin (de_var 4 rfl) (de_var 2 rfl) b_sub) da_nil)) ?_ sc_law_at.nd rfl
    refine ds_par 2 3 (da_cons (de_var 7 rfl) (da_cons (de_var 8 rfl) da_nil)) ?_ sc_law_at.nd rfl
    refine ds_nil ⟨u.root, .d x, .d (.int (u.b - u.d)), .d (.int (u.a + u.c)), ?_, rfl⟩
    rw [hu]
    exact (rootN_root i r.v).symm
  · obtain ⟨u, y1, y2, y3, hu, rfl⟩ := hI
    rw [upD_len, show ((n : Int) - (r.k : Int)).toNat = n - r.k by omega] at hu
    rw [← hu]
    exact ds_ret (de_tup (da_cons (de_var 2 rfl) (da_cons (de_var 3 rfl) (da_cons (de_var 4 rfl) (da_cons (de_var 5 rfl) da_nil))))) rfl
def fourD (u x : V4) : PyData → PyData
  | .int 0 => .int (u.a + x.a)
  | .int 1 => .int (u.b + x.b)
  | .int 2 => .int (u.c + x.c)
  | _ => .int (u.d + x.d)
def R_law_ray_sum (ds : List PyData) (d : PyData) : Prop := ∃ (r s : Ray), ds = [encR r, encR s] ∧ r.k ≤ 120 ∧ s.k ≤ 120 ∧ d = encR (Ray.sum r s)
theorem ok_law_ray_sum (Z : Bi mg) (D_law_at : DefOk P w K mg base "_law_at" ["_law_ray_so", "_law_k_so"] 1 (spD K R_law_at)) (D_law_ray : DefOk P w K mg base "_law_ray" ["_law_a_so", "_law_b_so", "_law_c_so", "_law_d_so", "_law_k_so"] 1 (spD K R_law_ray)) (T : At K mg "_law_ray_sum" s_law_ray_sum ["_law_one_so", "_law_other_so"]) :
    DefOk P w K mg base "_law_ray_sum" ["_law_one_so", "_law_other_so"] 2 (spD K R_law_ray_sum) := by
  refine at_def T R_law_ray_sum sc_law_ray_sum (fun ds d h => by obtain ⟨_, _, rfl, _⟩ := h; rfl) fun f cdv A outer s' H E hr c ds d h => ?_
  obtain ⟨r, s, rfl, h1, h2, rfl⟩ := h
  refine ds_set 2 ((de_max Z.max (da_cons (de_ixT (de_var 0 rfl) de_int rfl) (da_cons (de_ixT (de_var 1 rfl) de_int rfl) da_nil))).is (congrArg PyData.int (max_int r.k s.k))) ?_ sc_law_ray_sum.nd
  refine ds_unp (de_tup (da_cons (de_call D_law_at (hr.mono (by decide)) (da_cons (de_var 0 rfl) (da_cons (de_var 2 rfl) da_nil)) ⟨r, max r.k s.k, rfl, by omega, by omega, rfl⟩) (da_cons (de_call D_law_at (hr.mono (by decide)) (da_cons (de_var 1 rfl) (da_cons (de_var 2 rfl) da_nil)) ⟨s, max r.k s.k, rfl, by omega, by omega, rfl⟩) da_nil))) (dg_tup rfl (dgs_cons (dg_name 3 sc_law_ray_sum.nd) (dgs_cons (dg_name 4 sc_law_ray_sum.nd) dgs_nil))) ?_
  generalize hu : V4.rootN (max r.k s.k - r.k) r.v = u
  generalize hx : V4.rootN (max r.k s.k - s.k) s.v = x
  have e : (upD 0 1 ((4 : Int)).toNat).filterMap (fun y => some (fourD u x y)) = [.int (u.a + x.a), .int (u.b + x.b), .int (u.c + x.c), .int (u.d + x.d)] := rfl
  refine ds_setLc 5 (own := [("_law_j", 6)]) (fun y => some (fourD u x y)) sc_law_ray_sum.nd (blkOk_by (N := N_law_ray_sum) (sc := defScope s_law_ray_sum) (by decide +kernel)) (di_rng1 Z.range de_int (by walk_at "side") (by walk_at "side")) (fun i y hi => ⟨[.d (encR r), .d (encR s), .d (.int (max r.k s.k : Nat)), .d (encV u), .d (encV x), .no, .d y], [6], true, by decide, fun s H' C cl fp => ⟨dg_name 6 sc_law_ray_sum.nd, dts_nil, fun _ => ⟨_, rfl, ?_⟩, fun z => nomatch z⟩⟩) (Nat.le_of_ble_eq_true rfl) ?_ rfl
  · obtain ⟨hi4, rfl⟩ := up_at hi
    have hi4 : i < 4 := hi4
    have : i = 0 ∨ i = 1 ∨ i = 2 ∨ i = 3 := by omega
    rcases this with rfl | rfl | rfl | rfl
    · exact DE.is (d := .int (u.a + x.a)) ((de_bin (de_ixT (de_var 3 rfl) (de_var 6 rfl) (show _ = some (PyData.int u.a) from rfl)) (de_ixT (de_var 4 rfl) (de_var 6 rfl) (show _ = some (PyData.int x.a) from rfl)) b_add)) rfl
    · exact DE.is (d := .int (u.b + x.b)) ((de_bin (de_ixT (de_var 3 rfl) (de_var 6 rfl) (show _ = some (PyData.int u.b) from rfl)) (de_ixT (de_var 4 rfl) (de_var 6 rfl) (show _ = some (PyData.int x.b) from rfl)) b_add)) rfl
    · exact DE.is (d := .int (u.c + x.c)) ((de_bin (de_ixT (de_var 3 rfl) (de_var 6 rfl) (show _ = some (PyData.int u.c) from rfl)) (de_ixT (de_var 4 rfl) (de_var 6 rfl) (show _ = some (PyData.int x.c) from rfl)) b_add)) rfl
    · exact DE.is (d := .int (u.d + x.d)) ((de_bin (de_ixT (de_var 3 rfl) (de_var 6 rfl) (show _ = some (PyData.int u.d) from rfl)) (de_ixT (de_var 4 rfl) (de_var 6 rfl) (show _ = some (PyData.int x.d) from rfl)) b_add)) rfl
  · rw [e]
    refine ds_ret (de_call D_law_ray (hr.mono (by decide)) (da_cons (de_ixL (de_var 5 rfl) de_int rfl) (da_cons (de_ixL (de_var 5 rfl) de_int rfl) (da_cons (de_ixL (de_var 5 rfl) de_int rfl) (da_cons (de_ixL (de_var 5 rfl) de_int rfl) (da_cons (de_var 2 rfl) da_nil))))) ⟨u.add x, max r.k s.k, rfl, rfl⟩) ?_
    rw [← hu, ← hx]
    rfl
def R_law_ray_minus (ds : List PyData) (d : PyData) : Prop := ∃ (r : Ray), ds = [encR r] ∧ d = encR r.neg
theorem ok_law_ray_minus (T : At K mg "_law_ray_minus" s_law_ray_minus ["_law_one_so"]) : DefOk P w K mg base "_law_ray_minus" ["_law_one_so"] 1 (spD K R_law_ray_minus) := by
  refine at_def T R_law_ray_minus sc_law_ray_minus (fun ds d h => by obtain ⟨_, rfl, _⟩ := h; rfl) fun f cdv A outer s' H E hr c ds d h => ?_
  obtain ⟨r, rfl, rfl⟩ := h
  exact ds_ret (de_tup (da_cons (de_neg (de_ixT (de_var 0 rfl) de_int rfl)) (da_cons (de_neg (de_ixT (de_var 0 rfl) de_int rfl)) (da_cons (de_neg (de_ixT (de_var 0 rfl) de_int rfl)) (da_cons (de_neg (de_ixT (de_var 0 rfl) de_int rfl)) (da_cons (de_ixT (de_var 0 rfl) de_int rfl) da_nil)))))) rfl
def R_law_turned (ds : List PyData) (d : PyData) : Prop := ∃ (r : Ray), ds = [encR r, .int 1] ∧ d = encR r.tw
theorem ok_law_turned (Z : Bi mg) (T : At K mg "_law_turned" s_law_turned ["_law_one_so", "_law_many_so"]) : DefOk P w K mg base "_law_turned" ["_law_one_so", "_law_many_so"] 1 (spD K R_law_turned) := by
  refine at_def T R_law_turned sc_law_turned (fun ds d h => by obtain ⟨_, rfl, _⟩ := h; rfl) fun f cdv A outer s' H E hr c ds d h => ?_
  obtain ⟨r, rfl, rfl⟩ := h
  refine ds_unp ((de_slT (de_var 0 rfl) do_none (do_some de_int)).is (cutV4 r)) (dg_tup rfl (dgs_cons (dg_name 2 sc_law_turned.nd) (dgs_cons (dg_name 3 sc_law_turned.nd) (dgs_cons (dg_name 4 sc_law_turned.nd) (dgs_cons (dg_name 5 sc_law_turned.nd) dgs_nil))))) ?_
  refine ds_for (di_rng1 Z.range (de_bin (de_var 1 rfl) de_int (b_mod (by decide))) (by walk_at "side") (by walk_at "side")) (fun i ρ' => ∃ (u : V4) (y1 : Sl), (i = 0 ∧ u = r.v ∨ i = 1 ∧ u = r.v.tw) ∧ ρ' = [.d (encR r), .d (.int 1), .d (.int u.a), .d (.int u.b), .d (.int u.c), .d (.int u.d), y1]) ⟨r.v, .no, .inl ⟨rfl, rfl⟩, rfl⟩ (fun i x ρ1 hx hI => ?_) fun ρ1 hI => ?_
  · obtain ⟨u, y1, hu, rfl⟩ := hI
    rcases hu with ⟨rfl, rfl⟩ | ⟨rfl, rfl⟩
    · refine ⟨_, _, dg_name 6 sc_law_turned.nd, ?_⟩
      exact ds_unp (de_tup (da_cons (de_neg (de_var 5 rfl)) (da_cons (de_var 2 rfl) (da_cons (de_var 3 rfl) (da_cons (de_var 4 rfl) da_nil))))) (dg_tup rfl (dgs_cons (dg_name 2 sc_law_turned.nd) (dgs_cons (dg_name 3 sc_law_turned.nd) (dgs_cons (dg_name 4 sc_law_turned.nd) (dgs_cons (dg_name 5 sc_law_turned.nd) dgs_nil))))) (ds_nil ⟨r.v.tw, _, .inr ⟨rfl, rfl⟩, rfl⟩)
    · exact absurd (List.getElem?_eq_some_iff.mp hx).1 (by rw [upD_len]; decide)
  · obtain ⟨u, y1, hu, rfl⟩ := hI
    rcases hu with ⟨h0, _⟩ | ⟨_, rfl⟩
    · exact absurd h0 (by decide)
    · exact ds_ret (de_tup (da_cons (de_var 2 rfl) (da_cons (de_var 3 rfl) (da_cons (de_var 4 rfl) (da_cons (de_var 5 rfl) (da_cons (de_ixT (de_var 0 rfl) de_int rfl) da_nil)))))) rfl
def R_law_place_state (ds : List PyData) (d : PyData) : Prop := ∃ (n i : Nat), ds = [.int n, .int i] ∧ n ≤ 1000 ∧ i < n ∧ d = encS (lone n i)
theorem ok_law_place_state (Z : Bi mg) (T : At K mg "_law_place_state" s_law_place_state ["_law_size_so", "_law_place_so"]) : DefOk P w K mg base "_law_place_state" ["_law_size_so", "_law_place_so"] 1 (spD K R_law_place_state) := by
  refine at_def T R_law_place_state sc_law_place_state (fun ds d h => by obtain ⟨_, _, rfl, _⟩ := h; rfl) fun f cdv A outer s' H E hr c ds d h => ?_
  obtain ⟨n, i, rfl, hn, hi, rfl⟩ := h
  have e : (upD 0 1 (n : Int).toNat).map (fun x => encR (if (natD x : Nat) = i then Ray.one else Ray.zero)) = (lone n i).map encR := by
    rw [Int.toNat_natCast, up_map (α := Nat) n _ (fun j => encR (if j = i then Ray.one else Ray.zero)) (fun i _ => rfl)]
    unfold lone
    apply List.ext_getElem?
    intro j
    rw [List.getElem?_map, List.getElem?_map, List.getElem?_set, List.getElem?_replicate, List.length_replicate]
    by_cases hj : j < n
    · rw [List.getElem?_range hj, if_pos hj]
      by_cases h : i = j
      · subst h
        simp [hj]
      · rw [if_neg h]
        simp [Ne.symm h]
    · rw [List.getElem?_eq_none (l := List.range n) (by rw [List.length_range]; omega), if_neg hj]
      by_cases h : i = j
      · exact absurd hi (by omega)
      · rw [if_neg h]
        rfl
  unfold encS
  rw [← e]
  refine ds_ret (de_tupL Z.tuple (DN.de (dn_lcM (own := [("_law_k", 2)]) (fun x => encR (if (natD x : Nat) = i then Ray.one else Ray.zero)) sc_law_place_state.nd (blkOk_by (N := N_law_place_state) (sc := defScope s_law_place_state) (by decide +kernel)) (di_rng1 Z.range (de_var 0 rfl) (by walk_at "side") (by walk_at "side")) (fun x => [.d (.int n), .d (.int i), .d x]) [2]
    (fun j x hj s H' C cl fp => ⟨dg_name 2 sc_law_place_state.nd, ?_⟩) (by rw [upD_len]; omega)))) rfl
  obtain ⟨hj, rfl⟩ := up_at hj
  refine de_if (k := decide (j = i)) (DT.is (dt_cmp (de_var 2 rfl) (de_var 1 rfl) c_eqI) (by simp only [decide_eq_decide]; omega)) (fun z => (de_tup (da_cons de_int (da_cons de_int (da_cons de_int (da_cons de_int (da_cons de_int da_nil)))))).is ?_) (fun z => (de_tup (da_cons de_int (da_cons de_int (da_cons de_int (da_cons de_int (da_cons de_int da_nil)))))).is ?_)
  · rw [if_pos (by simpa [natD] using z)]; rfl
  · rw [if_neg (by simpa [natD] using z)]; rfl
end
end DD
/-! T9: the law's own deeds, rows, cut, lists, same -/
namespace DD
open PySem PySem.Spec L2
open PyProof.Rows hiding St
local macro_rules | `(tactic| walk_at "side") => `(tactic| first | exact Nat.le_of_ble_eq_true rfl | assumption | omega | decide | rfl | (simp; done) | (simp; omega))
section
variable {P : Program} {w : World} {K : PySem.W.Frag} {mg : Str → Option Value} {base : Heap}
theorem lput_enc {s : Stt} {i : Nat} {r : Ray} (h : i < s.length) (hl : s.length ≤ 1000) : R_law_put [encS s, .int i, encR r] (encS (s.set i r)) :=
  ⟨s.map encR, i, encR r, rfl, by rw [List.length_map]; exact hl, by rw [cut_set _ _ _ (by rw [List.length_map]; exact h), set_enc]⟩
def R_law_deed_done (ds : List PyData) (d : PyData) : Prop := ∃ (s : Stt) (g : Deed), ds = [encS s, encG g] ∧ s.length ≤ 1000 ∧ g.ok s.length = true ∧ KB 119 s ∧ d = encS (led s g)
theorem ok_law_deed_done (D_law_put : DefOk P w K mg base "_law_put" ["_law_row_so", "_law_place_so", "_law_bit_so"] 1 (spD K R_law_put)) (D_law_turned : DefOk P w K mg base "_law_turned" ["_law_one_so", "_law_many_so"] 1 (spD K R_law_turned)) (D_law_ray_sum : DefOk P w K mg base "_law_ray_sum" ["_law_one_so", "_law_other_so"] 2 (spD K R_law_ray_sum))
    (D_law_ray_minus : DefOk P w K mg base "_law_ray_minus" ["_law_one_so"] 1 (spD K R_law_ray_minus)) (D_law_ray : DefOk P w K mg base "_law_ray" ["_law_a_so", "_law_b_so", "_law_c_so", "_law_d_so", "_law_k_so"] 1 (spD K R_law_ray)) (T : At K mg "_law_deed_done" s_law_deed_done ["_law_state_so", "_law_deed_so"]) : DefOk P w K mg base "_law_deed_done" ["_law_state_so", "_law_deed_so"] 3 (spD K R_law_deed_done) := by
  refine at_def T R_law_deed_done sc_law_deed_done (fun ds d h => by obtain ⟨_, _, rfl, _⟩ := h; rfl) fun f cdv A outer s' H E hr c ds d h => ?_
  obtain ⟨s, g, rfl, hl, hg, hk, rfl⟩ := h
  cases g with
  | turn i =>
    have hi : i < s.length := of_decide_eq_true hg
    refine ds_ifT (DT.is (dt_cmp (de_ixT (de_var 1 rfl) de_int rfl) de_str c_eqT) (decide_eq_true rfl)) (fun _ => False) ?_ (fun _ h => h.elim)
    exact ds_ret (de_call D_law_put (hr.mono (by decide)) (da_cons (de_var 0 rfl) (da_cons (de_ixT (de_var 1 rfl) de_int rfl) (da_cons (de_call D_law_turned (hr.mono (by decide)) (da_cons (de_ixT (de_var 0 rfl) (de_ixT (de_var 1 rfl) de_int rfl) (at_enc hi)) (da_cons de_int da_nil)) ⟨s.at i, rfl, rfl⟩) da_nil))) (lput_enc hi hl)) rfl
  | swap i j =>
    have hij : i < j ∧ j < s.length := by simpa [Deed.ok] using hg
    refine ds_ifF (DT.is (dt_cmp (de_ixT (de_var 1 rfl) de_int rfl) de_str c_eqT) (decide_eq_false ne_turn_swap.symm)) ?_
    refine ds_par 2 3 (da_cons (de_ixT (de_var 0 rfl) (de_ixT (de_var 1 rfl) de_int rfl) (at_enc (show i < s.length by omega))) (da_cons (de_ixT (de_var 0 rfl) (de_ixT (de_var 1 rfl) de_int rfl) (at_enc hij.2)) da_nil)) ?_ sc_law_deed_done.nd rfl
    refine ds_ifT (DT.is (dt_cmp (de_ixT (de_var 1 rfl) de_int rfl) de_str c_eqT) (decide_eq_true rfl)) (fun _ => False) ?_ (fun _ h => h.elim)
    exact ds_ret (de_call D_law_put (hr.mono (by decide)) (da_cons (de_call D_law_put (hr.mono (by decide)) (da_cons (de_var 0 rfl) (da_cons (de_ixT (de_var 1 rfl) de_int rfl) (da_cons (de_var 3 rfl) da_nil))) (lput_enc (show i < s.length by omega) hl)) (da_cons (de_ixT (de_var 1 rfl) de_int rfl) (da_cons (de_var 2 rfl) da_nil))) (lput_enc (show j < _ by rw [List.length_set]; omega) (by rw [List.length_set]; exact hl))) rfl
  | mix i j =>
    have hij : i < j ∧ j < s.length := by simpa [Deed.ok] using hg
    have b1 := hk.at i
    have b2 := hk.at j
    refine ds_ifF (DT.is (dt_cmp (de_ixT (de_var 1 rfl) de_int rfl) de_str c_eqT) (decide_eq_false ne_turn_mix.symm)) ?_
    refine ds_par 2 3 (da_cons (de_ixT (de_var 0 rfl) (de_ixT (de_var 1 rfl) de_int rfl) (at_enc (show i < s.length by omega))) (da_cons (de_ixT (de_var 0 rfl) (de_ixT (de_var 1 rfl) de_int rfl) (at_enc hij.2)) da_nil)) ?_ sc_law_deed_done.nd rfl
    refine ds_ifF (DT.is (dt_cmp (de_ixT (de_var 1 rfl) de_int rfl) de_str c_eqT) (decide_eq_false ne_swap_mix.symm)) ?_
    refine ds_par 4 5 (da_cons (de_call D_law_ray_sum (hr.mono (by decide)) (da_cons (de_var 2 rfl) (da_cons (de_var 3 rfl) da_nil)) ⟨s.at i, s.at j, rfl, by omega, by omega, rfl⟩) (da_cons (de_call D_law_ray_sum (hr.mono (by decide)) (da_cons (de_var 2 rfl) (da_cons (de_call D_law_ray_minus (hr.mono (by decide)) (da_cons (de_var 3 rfl) da_nil) ⟨s.at j, rfl, rfl⟩) da_nil)) ⟨s.at i, (s.at j).neg, rfl, by omega, by show (s.at j).k ≤ 120; omega, rfl⟩) da_nil)) ?_ sc_law_deed_done.nd rfl
    refine ds_setLc 6 (own := [("_law_own", 7)]) (fun y => some (encR (decR y).over)) sc_law_deed_done.nd (blkOk_by (N := N_law_deed_done) (sc := defScope s_law_deed_done) (by decide +kernel)) (di_tup (de_tup (da_cons (de_var 4 rfl) (da_cons (de_var 5 rfl) da_nil)))) (fun l y hi => ⟨[.d (encS s), .d (encG (.mix i j)), .d (encR (s.at i)), .d (encR (s.at j)), .d (encR ((s.at i).sum (s.at j))), .d (encR ((s.at i).sum (s.at j).neg)), .no, .d y], [7], true, by decide, fun s' H' C cl fp => ⟨dg_name 7 sc_law_deed_done.nd, dts_nil, fun _ => ⟨_, rfl, ?_⟩, fun z => nomatch z⟩⟩) (Nat.le_of_ble_eq_true rfl) ?_ rfl
    · have hy : ∃ r : Ray, y = encR r := by
        have := List.mem_of_getElem? hi
        simp only [List.mem_cons, List.not_mem_nil, or_false] at this
        rcases this with h | h
        · exact ⟨_, h⟩
        · exact ⟨_, h⟩
      obtain ⟨r, rfl⟩ := hy
      rw [decR_enc]
      exact (de_call D_law_ray (hr.mono (by decide)) (da_cons (de_ixT (de_var 7 rfl) de_int rfl) (da_cons (de_ixT (de_var 7 rfl) de_int rfl) (da_cons (de_ixT (de_var 7 rfl) de_int rfl) (da_cons (de_ixT (de_var 7 rfl) de_int rfl) (da_cons (de_bin (de_ixT (de_var 7 rfl) de_int rfl) de_int b_add) da_nil))))) ⟨r.v, r.k + 1, rfl, rfl⟩)
    · exact ds_ret (de_call D_law_put (hr.mono (by decide)) (da_cons (de_call D_law_put (hr.mono (by decide)) (da_cons (de_var 0 rfl) (da_cons (de_ixT (de_var 1 rfl) de_int rfl) (da_cons (de_ixL (de_var 6 rfl) de_int rfl) da_nil))) (lput_enc (r := ((s.at i).sum (s.at j)).over) (show i < s.length by omega) hl)) (da_cons (de_ixT (de_var 1 rfl) de_int rfl) (da_cons (de_ixL (de_var 6 rfl) de_int rfl) da_nil))) (lput_enc (r := ((s.at i).sum (s.at j).neg).over) (show j < _ by rw [List.length_set]; omega) (by rw [List.length_set]; exact hl))) rfl
def R_law_deeds_done (ds : List PyData) (d : PyData) : Prop := ∃ (s : Stt) (gs : List Deed) (m : Nat), ds = [encS s, encGs gs] ∧ s.length ≤ 1000 ∧ kw gs s.length ∧ KB m s ∧ m + mixN gs ≤ 119 ∧ d = encS (ledAll s gs)
theorem ok_law_deeds_done (D_law_deed_done : DefOk P w K mg base "_law_deed_done" ["_law_state_so", "_law_deed_so"] 3 (spD K R_law_deed_done)) (T : At K mg "_law_deeds_done" s_law_deeds_done ["_law_state_so", "_law_deeds_so"]) : DefOk P w K mg base "_law_deeds_done" ["_law_state_so", "_law_deeds_so"] 4 (spD K R_law_deeds_done) := by
  refine at_def T R_law_deeds_done sc_law_deeds_done (fun ds d h => by obtain ⟨_, _, _, rfl, _⟩ := h; rfl) fun f cdv A outer s' H E hr c ds d h => ?_
  obtain ⟨s, gs, m, rfl, hl, hg, hk, hm, rfl⟩ := h
  refine ds_for (di_tup (de_var 1 rfl)) (fun i ρ' => ∃ y, ρ' = [.d (encS (ledAll s (gs.take i))), .d (encGs gs), y]) ⟨.no, rfl⟩ (fun i g ρ1 hi hI => ?_) fun ρ1 hI => ?_
  · obtain ⟨y, rfl⟩ := hI
    rw [List.getElem?_map] at hi
    obtain ⟨g, hgi, rfl⟩ := Option.map_eq_some_iff.mp hi
    have b := ledAll_kb (gs.take i) m s hk
    have b2 := mixN_take gs i
    refine ⟨_, _, dg_name 2 sc_law_deeds_done.nd, ds_set 0 (de_call D_law_deed_done (hr.mono (by decide)) (da_cons (de_var 0 rfl) (da_cons (de_var 2 rfl) da_nil)) ⟨_, g, rfl, by rw [ledAll_len]; exact hl, by rw [ledAll_len]; exact hg g (List.mem_of_getElem? hgi), b.mono (by omega), rfl⟩) (ds_nil ⟨.d (encG g), ?_⟩) sc_law_deeds_done.nd⟩
    rw [take_snoc hgi, ledAll_snoc]
    rfl
  · obtain ⟨y, rfl⟩ := hI
    rw [List.length_map, List.take_length]
    exact ds_ret (de_var 0 rfl) rfl
def R_law_twos (ds : List PyData) (d : PyData) : Prop := ∃ (n : Nat), ds = [.int n] ∧ n ≤ 1000 ∧ d = .int (2 ^ n : Nat)
theorem ok_law_twos (Z : Bi mg) (T : At K mg "_law_twos" s_law_twos ["_law_many_so"]) : DefOk P w K mg base "_law_twos" ["_law_many_so"] 1 (spD K R_law_twos) := by
  refine at_def T R_law_twos sc_law_twos (fun ds d h => by obtain ⟨_, rfl, _⟩ := h; rfl) fun f cdv A outer s' H E hr c ds d h => ?_
  obtain ⟨n, rfl, hn, rfl⟩ := h
  refine ds_set 1 de_int ?_ sc_law_twos.nd
  refine ds_for (di_rng1 Z.range (de_var 0 rfl) (by walk_at "side") (by walk_at "side")) (fun i ρ' => ∃ y, ρ' = [.d (.int n), .d (.int (2 ^ i : Nat)), y]) ⟨.no, rfl⟩ (fun i x ρ1 hx hI => ?_) fun ρ1 hI => ?_
  · obtain ⟨y, rfl⟩ := hI
    refine ⟨_, _, dg_name 2 sc_law_twos.nd, ds_set 1 (de_bin de_int (de_var 1 rfl) (b_mulL (by decide) (by decide))) (ds_nil ⟨.d x, ?_⟩) sc_law_twos.nd⟩
    rw [Nat.pow_succ]
    show [_, Sl.d (.int (2 * ((2 ^ i : Nat) : Int))), _] = _
    rw [show (2 : Int) * ((2 ^ i : Nat) : Int) = ((2 ^ i * 2 : Nat) : Int) by omega]
  · obtain ⟨y, rfl⟩ := hI
    rw [upD_len, Int.toNat_natCast]
    exact ds_ret (de_var 1 rfl) rfl
def R_law_rows (ds : List PyData) (d : PyData) : Prop := ∃ (n : Nat) (gs : List Deed), ds = [.int n, encGs gs] ∧ n ≤ 1000 ∧ gs.length ≤ 1000 ∧ kw gs n ∧ mixN gs ≤ 119 ∧ d = .list ((rows n gs).map encRow)
theorem ok_law_rows (Z : Bi mg) (D_law_deed_done : DefOk P w K mg base "_law_deed_done" ["_law_state_so", "_law_deed_so"] 3 (spD K R_law_deed_done)) (D_law_place_state : DefOk P w K mg base "_law_place_state" ["_law_size_so", "_law_place_so"] 1 (spD K R_law_place_state)) (T : At K mg "_law_rows" s_law_rows ["_law_size", "_law_deeds_here"]) :
    DefOk P w K mg base "_law_rows" ["_law_size", "_law_deeds_here"] 4 (spD K R_law_rows) := by
  refine at_def T R_law_rows sc_law_rows (fun ds d h => by obtain ⟨_, _, rfl, _⟩ := h; rfl) fun f cdv A outer s' H E hr c ds d h => ?_
  obtain ⟨n, gs, rfl, hn, hl, hg, hm, rfl⟩ := h
  have e : (upD 0 1 (n : Int).toNat).map (fun x => encS (lone n (natD x))) = (lones n).map encS := by
    rw [Int.toNat_natCast, up_map (α := Nat) n _ (fun i => encS (lone n i)) (fun i _ => rfl)]
    unfold lones
    rw [List.map_map]
    rfl
  refine ds_setN (ds := [encRow (lones n)]) 2 (dn_lst (da_cons (by
    unfold encRow
    rw [← e]
    exact de_tupL Z.tuple (DN.de (dn_lcM (own := [("_law_k", 3)]) (fun x => encS (lone n (natD x))) sc_law_rows.nd (blkOk_by (N := N_law_rows) (sc := defScope s_law_rows) (by decide +kernel)) (di_rng1 Z.range (de_var 0 rfl) (by walk_at "side") (by walk_at "side")) (fun x => [.d (.int n), .d (encGs gs), .no, .d x, .no, .no]) [3]
    (fun i x hi s H' C cl fp => ⟨dg_name 3 sc_law_rows.nd, by
      obtain ⟨hi, rfl⟩ := up_at hi
      exact (de_call D_law_place_state (hr.mono (by decide)) (da_cons (de_var 0 rfl) (da_cons (de_var 3 rfl) da_nil)) ⟨n, i, rfl, hn, by omega, rfl⟩)⟩) (by rw [upD_len]; omega)))) da_nil)) ?_ sc_law_rows.nd
  refine ds_for (di_tup (de_var 1 rfl)) (fun i ρ' => ∃ y z u, ρ' = [.d (.int n), .d (encGs gs), .own ((rowsFrom (lones n) (gs.take i)).map encRow), y, z, u]) ⟨.no, .no, .no, rfl⟩ (fun i g ρ1 hi hI => ?_) fun ρ1 hI => ?_
  · obtain ⟨y, z, u, rfl⟩ := hI
    rw [List.getElem?_map] at hi
    obtain ⟨g, hgi, rfl⟩ := Option.map_eq_some_iff.mp hi
    have b := rowAt_rb (gs.take i) 0 _ (lones_rb n)
    have b2 := mixN_take gs i
    refine ⟨_, _, dg_name 4 sc_law_rows.nd, ds_app (d := encRow (ledRow (rowAt (lones n) (gs.take i)) g)) 2 rfl ?_ ?_ (ds_nil ⟨y, .d (encG g), u, ?_⟩)⟩
    · unfold encRow
      rw [← ledRow_enc]
      exact de_tupL Z.tuple (DN.de (dn_lcM (own := [("_law_column", 5)]) (fun x => encS (led (decS x) g)) sc_law_rows.nd (blkOk_by (N := N_law_rows) (sc := defScope s_law_rows) (by decide +kernel)) (di_tup (de_ownIx 2 rfl (de_neg de_int) (last_row _ _))) (fun x => [.d (.int n), .d (encGs gs), .own ((rowsFrom (lones n) (gs.take i)).map encRow), y, .d (encG g), .d x]) [5]
        (fun j x hj s H' C cl fp => ⟨dg_name 5 sc_law_rows.nd, by
          rw [List.getElem?_map] at hj
          obtain ⟨t, ht, rfl⟩ := Option.map_eq_some_iff.mp hj
          obtain ⟨c1, c2⟩ := b.2 t (List.mem_of_getElem? ht)
          rw [decS_enc]
          exact (de_call D_law_deed_done (hr.mono (by decide)) (da_cons (de_var 5 rfl) (da_cons (de_var 4 rfl) da_nil)) ⟨t, g, rfl, by omega, by rw [c1]; exact hg g (List.mem_of_getElem? hgi), c2.mono (by omega), rfl⟩)⟩) (by rw [List.length_map, b.1]; omega)))
    · rw [List.length_map, rowsFrom_len, List.length_take]
      omega
    · rw [take_snoc hgi, rowsFrom_snoc, List.map_append, rowAt_snoc]
      rfl
  · obtain ⟨y, z, u, rfl⟩ := hI
    rw [List.length_map, List.take_length]
    exact ds_freeze 2 rfl (ds_ret (de_var 2 rfl) rfl)
def R_law_first (ds : List PyData) (d : PyData) : Prop := ∃ (rs : List Row), ds = [.list (rs.map encRow)] ∧ rs.length ≤ 1000 ∧ (∀ r ∈ rs, okn false false 3 (encRow r) = true) ∧ d = encO (first rs)
theorem ok_law_first (Z : Bi mg) (T : At K mg "_law_first" s_law_first ["_law_rows_here"]) : DefOk P w K mg base "_law_first" ["_law_rows_here"] 1 (spD K R_law_first) := by
  refine at_def T R_law_first sc_law_first (fun ds d h => by obtain ⟨_, rfl, _⟩ := h; rfl) fun f cdv A outer s' H E hr c ds d h => ?_
  obtain ⟨rs, rfl, hn, hok, rfl⟩ := h
  have hatr : ∀ (i : Nat) (hi : i < rs.length), atI (rs.map encRow) (i : Int) = some (encRow rs[i]) := fun i hi => atI_nat (by rw [List.getElem?_map, List.getElem?_eq_getElem hi]; rfl)
  refine ds_for (di_rng1 Z.range (de_lenL Z.len (de_var 0 rfl)) (by walk_at "side") (by walk_at "side")) (fun i ρ' => i ≤ rs.length ∧ firstFrom rs 0 = firstFrom (rs.drop i) i ∧ ∃ y z, ρ' = [.d (.list (rs.map encRow)), y, z]) ⟨Nat.zero_le _, by rw [List.drop_zero], .no, .no, rfl⟩ (fun i x ρ1 hx hI => ?_) fun ρ1 hI => ?_
  · obtain ⟨_, hfi, y, z, rfl⟩ := hI
    obtain ⟨hi, rfl⟩ := up_at hx
    have hi : i < rs.length := by rw [List.length_map] at hi; omega
    rw [List.drop_eq_getElem_cons hi] at hfi
    have hfi : firstFrom rs 0 = (match behindOf rs[i] (rs.drop (i + 1)) (i + 1) with | some m => some (i, m) | none => firstFrom (rs.drop (i + 1)) (i + 1)) := hfi
    refine ⟨_, _, dg_name 1 sc_law_first.nd, ?_⟩
    refine ds_for (di_rng2 Z.range (da_cons (de_bin (de_var 1 rfl) de_int b_add) (da_cons (de_lenL Z.len (de_var 0 rfl)) da_nil)) (by walk_at "side")) (fun j ρ' => i + 1 + j ≤ rs.length ∧ behindOf rs[i] (rs.drop (i + 1)) (i + 1) = behindOf rs[i] (rs.drop (i + 1 + j)) (i + 1 + j) ∧ ∃ z, ρ' = [.d (.list (rs.map encRow)), .d (.int i), z]) ⟨by omega, rfl, _, rfl⟩ (fun j x ρ1 hx hI => ?_) fun ρ1 hI => ?_
    · obtain ⟨_, hb, z, rfl⟩ := hI
      have hj := (List.getElem?_eq_some_iff.mp hx).1
      rw [upD_len, List.length_map] at hj
      rw [upD_get (by rw [List.length_map]; exact hj)] at hx
      cases hx
      rw [show (i : Int) + 1 + (j : Nat) * 1 = ((i + 1 + j : Nat) : Int) by omega]
      have hj : i + 1 + j < rs.length := by omega
      rw [List.drop_eq_getElem_cons hj] at hb
      have hb : behindOf rs[i] (rs.drop (i + 1)) (i + 1) = if rs[i] = rs[i + 1 + j] then some (i + 1 + j) else behindOf rs[i] (rs.drop (i + 1 + j + 1)) (i + 1 + j + 1) := hb
      have o1 := hok rs[i] (List.getElem_mem hi)
      have o2 := hok rs[i + 1 + j] (List.getElem_mem hj)
      refine ⟨_, _, dg_name 2 sc_law_first.nd, ?_⟩
      refine ds_ifR (k := decide (rs[i] = rs[i + 1 + j])) ?_ (fun q => ?_) (fun q => ds_nil ⟨by omega, ?_, _, rfl⟩)
      · rw [← eqv_dec o1 o2 encRow_inj]
        exact (dt_cmp (de_ixL (de_var 0 rfl) (de_var 1 rfl) (hatr i hi)) (de_ixL (de_var 0 rfl) (de_var 2 rfl) (hatr (i + 1 + j) hj)) (c_eqD (hu64 hr) (okn_shaped o1) (okn_shaped o2)))
      · rw [if_pos (of_decide_eq_true q)] at hb
        rw [hb] at hfi
        refine ds_ret (DE.is (de_tup (da_cons (de_var 1 rfl) (da_cons (de_var 2 rfl) da_nil))) ?_) rfl
        unfold first
        rw [hfi]
        rfl
      · rw [if_neg (of_decide_eq_false q)] at hb
        exact hb
    · obtain ⟨_, hb, z, rfl⟩ := hI
      refine ds_nil ⟨hi, ?_, _, _, rfl⟩
      have e9 : rs.drop (i + 1 + ((rs.length : Int) - ((i : Int) + 1)).toNat) = [] := List.drop_eq_nil_of_le (by omega)
      rw [upD_len, List.length_map, e9] at hb
      have hb : behindOf rs[i] (rs.drop (i + 1)) (i + 1) = none := hb
      rw [hb] at hfi
      exact hfi
  · obtain ⟨_, hfi, y, z, rfl⟩ := hI
    rw [upD_len, List.length_map, Int.toNat_natCast, List.drop_length] at hfi
    refine ds_ret (DE.is de_non ?_) rfl
    unfold first
    rw [hfi]
    rfl
theorem cut_lo (xs : List PyData) (i : Nat) (h : i ≤ xs.length) : cutD xs none (some (i : Int)) = xs.take i := by
  unfold cutD
  rw [HT.sIx_none, HT.sIx_nat, List.drop_zero, Nat.sub_zero, Nat.min_eq_left h]
theorem cut_hi (xs : List PyData) (i : Nat) (h : i ≤ xs.length) : cutD xs (some (i : Int)) none = xs.drop i := by
  unfold cutD
  rw [HT.sIx_none, HT.sIx_nat, Nat.min_eq_left h, List.take_of_length_le (by rw [List.length_drop]; omega)]
theorem mixN_sub {gs hs : List Deed} (h : List.Sublist gs hs) : mixN gs ≤ mixN hs := (h.filter _).length_le
theorem kw_sub {gs hs : List Deed} {n : Nat} (h : List.Sublist gs hs) (k : kw hs n) : kw gs n := fun g hg => k g (h.subset hg)
def R_law_cut (ds : List PyData) (d : PyData) : Prop := ∃ (n : Nat) (gs : List Deed), ds = [.int n, encGs gs] ∧ n ≤ 1000 ∧ gs.length ≤ 900 ∧ kw gs n ∧ mixN gs ≤ 119 ∧ d = encGs (withoutIdle n gs)
theorem first_rows {n : Nat} {gs : List Deed} (hn : n ≤ 1000) (hl : gs.length ≤ 900) : R_law_first [.list ((rows n gs).map encRow)] (encO (first (rows n gs))) :=
  ⟨rows n gs, rfl, by rw [rows_len]; omega, fun r hr => by
    obtain ⟨i, hi⟩ := List.getElem?_of_mem hr
    exact row_ok hn hi, rfl⟩
theorem ok_law_cut (Z : Bi mg) (D_law_rows : DefOk P w K mg base "_law_rows" ["_law_size", "_law_deeds_here"] 4 (spD K R_law_rows)) (D_law_first : DefOk P w K mg base "_law_first" ["_law_rows_here"] 1 (spD K R_law_first)) (T : At K mg "_law_cut" s_law_cut ["_law_size", "_law_deeds_here"]) : DefOk P w K mg base "_law_cut" ["_law_size", "_law_deeds_here"] 5 (spD K R_law_cut) := by
  refine at_def T R_law_cut sc_law_cut (fun ds d h => by obtain ⟨_, _, rfl, _⟩ := h; rfl) fun f cdv A outer s' H E hr c ds d h => ?_
  obtain ⟨n, gs, rfl, hn, hl, hg, hm, rfl⟩ := h
  refine ds_set 2 (de_call D_law_rows (hr.mono (by decide)) (da_cons (de_var 0 rfl) (da_cons (de_var 1 rfl) da_nil)) ⟨n, gs, rfl, hn, by omega, hg, hm, rfl⟩) ?_ sc_law_cut.nd
  refine ds_while (fun m ρ' => ∃ (hs : List Deed) (y z : Sl), m = hs.length ∧ List.Sublist hs gs ∧ withoutIdle n hs = withoutIdle n gs ∧ ρ' = [.d (.int n), .d (encGs hs), .d (.list ((rows n hs).map encRow)), y, z]) gs.length ⟨gs, .no, .no, rfl, List.Sublist.refl _, rfl, rfl⟩ fun m ρ1 hI => ?_
  obtain ⟨hs, y, z, rfl, hsub, hwi, rfl⟩ := hI
  have hsl := hsub.length_le
  have D := first_rows (n := n) (gs := hs) hn (by omega)
  cases hf : first (rows n hs) with
  | none =>
    rw [hf] at D
    refine ⟨false, (dt_cmp (de_call D_law_first (hr.mono (by decide)) (da_cons (de_var 2 rfl) da_nil) D) de_non (c_notN rfl)), (fun q => nomatch q), fun _ => ?_⟩
    rw [← hwi, cut_none hf]
    exact ds_ret (de_var 1 rfl) rfl
  | some pq =>
    obtain ⟨p, q⟩ := pq
    obtain ⟨h1, h2, h3, h4, h5, h6⟩ := cut_step hf
    rw [hf] at D
    refine ⟨true, (dt_cmp (de_call D_law_first (hr.mono (by decide)) (da_cons (de_var 2 rfl) da_nil) D) de_non (c_notN rfl)), fun _ => ?_, (fun q => nomatch q)⟩
    refine ds_unp (de_call D_law_first (hr.mono (by decide)) (da_cons (de_var 2 rfl) da_nil) D) (dg_tup rfl (dgs_cons (dg_name 3 sc_law_cut.nd) (dgs_cons (dg_name 4 sc_law_cut.nd) dgs_nil))) ?_
    have l1 : (rows n hs).length = hs.length + 1 := rows_len n hs
    have c1 : cutD (hs.map encG) none (some (p : Int)) = ((hs.take p).map encG) := by rw [cut_lo _ _ (by rw [List.length_map]; omega), List.map_take]
    have c2 : cutD (hs.map encG) (some (q : Int)) none = ((hs.drop q).map encG) := by rw [cut_hi _ _ (by rw [List.length_map]; omega), List.map_drop]
    have c3 : cutD ((rows n hs).map encRow) none (some (p : Int)) = (((rows n hs).take p).map encRow) := by rw [cut_lo _ _ (by rw [List.length_map]; omega), List.map_take]
    have c4 : cutD ((rows n hs).map encRow) (some (q : Int)) none = (((rows n hs).drop q).map encRow) := by rw [cut_hi _ _ (by rw [List.length_map]; omega), List.map_drop]
    have c5 : (cutD (hs.map encG) none (some (p : Int))).length + (cutD (hs.map encG) (some (q : Int)) none).length ≤ 100000 := by rw [c1, c2, List.length_map, List.length_map, List.length_take, List.length_drop]; omega
    have c6 : (cutD ((rows n hs).map encRow) none (some (p : Int))).length + (cutD ((rows n hs).map encRow) (some (q : Int)) none).length ≤ 100000 := by rw [c3, c4, List.length_map, List.length_map, List.length_take, List.length_drop]; omega
    refine ds_par 1 2 (da_cons (d := encGs (hs.take p ++ hs.drop q)) (DE.is (de_bin (de_slT (de_var 1 rfl) do_none (do_some (de_var 3 rfl))) (de_slT (de_var 1 rfl) (do_some (de_var 4 rfl)) do_none) (b_catT (by walk_at "side"))) ?_) (da_cons (d := .list ((rows n (hs.take p ++ hs.drop q)).map encRow)) (DE.is (dn_bin (dn_slL (de_var 2 rfl) do_none (do_some (de_var 3 rfl))).de (dn_slL (de_var 2 rfl) (do_some (de_var 4 rfl)) do_none).de (b_cat (by walk_at "side"))).de ?_) da_nil)) ?_ sc_law_cut.nd rfl
    · rw [c1, c2, ← List.map_append]
      rfl
    · rw [c3, c4, ← List.map_append, h3]
    · exact ds_nil ⟨(hs.take p ++ hs.drop q).length, by rw [List.length_append, List.length_take, List.length_drop]; omega, _, _, _, rfl, h5.trans hsub, h4.trans hwi, rfl⟩
end
end DD
/-! T10: the law's own lists, same -/
namespace DD
open PySem PySem.Spec L2
open PyProof.Rows hiding St
local macro_rules | `(tactic| walk_at "side") => `(tactic| first | exact Nat.le_of_ble_eq_true rfl | assumption | omega | decide | rfl | (simp; done) | (simp; omega))
section
variable {P : Program} {w : World} {K : PySem.W.Frag} {mg : Str → Option Value} {base : Heap}
def R_law_lists (n : Nat) (ds : List PyData) (d : PyData) : Prop := ∃ x, ds = [x] ∧ okn true true n x = true ∧ d = lis n x
theorem ok_law_lists (Z : Bi mg) (T : At K mg "_law_lists" s_law_lists ["_law_matter"]) : ∀ n : Nat, DefOk P w K mg base "_law_lists" ["_law_matter"] (n + 1) (spD K (R_law_lists n)) := by
  intro n
  induction n with
  | zero =>
    refine at_def T (R_law_lists 0) sc_law_lists (fun ds d h => by obtain ⟨_, rfl, _⟩ := h; rfl) fun f cdv A outer s' H E hr c ds d h => ?_
    obtain ⟨x, rfl, hx, hd⟩ := h
    rw [hd]
    refine ds_ret (d := lis 0 x) (de_if (dt_val (de_is55 .list .tuple Z.isinstance Z.list Z.tuple (de_var 0 rfl))) (fun z => ?_) (fun _ => ((de_var 0 rfl)).is ?_)) rfl
    · cases x <;> first | exact absurd z Bool.false_ne_true | cases hx
    · cases x <;> rfl
  | succ n ih =>
    refine at_def T (R_law_lists (n + 1)) sc_law_lists (fun ds d h => by obtain ⟨_, rfl, _⟩ := h; rfl) fun f cdv A outer s' H E hr c ds d h => ?_
    obtain ⟨x, rfl, hx, rfl⟩ := h
    refine ds_ret (d := lis (n + 1) x) (de_if (dt_val (de_is55 .list .tuple Z.isinstance Z.list Z.tuple (de_var 0 rfl))) (fun z => ?_) (fun z => ((de_var 0 rfl)).is ?_)) rfl
    · cases x with
      | tuple xs =>
        simp only [okn, Bool.and_eq_true, decide_eq_true_eq, List.all_eq_true] at hx
        exact DN.de (dn_lcM (own := [("_law_bit", 1)]) (lis n) sc_law_lists.nd (blkOk_by (N := N_law_lists) (sc := defScope s_law_lists) (by decide +kernel)) (di_tup (de_var 0 rfl)) (fun x => [.d (.tuple xs), .d x]) [1]
          (fun i x hi s H' C cl fp => ⟨dg_name 1 sc_law_lists.nd, de_call ih hr (da_cons (de_var 1 rfl) da_nil) ⟨x, rfl, hx.2 x (List.mem_of_getElem? hi), rfl⟩⟩) (by omega))
      | list xs =>
        simp only [okn, Bool.true_and, Bool.and_eq_true, decide_eq_true_eq, List.all_eq_true] at hx
        exact DN.de (dn_lcM (own := [("_law_bit", 1)]) (lis n) sc_law_lists.nd (blkOk_by (N := N_law_lists) (sc := defScope s_law_lists) (by decide +kernel)) (di_list (de_var 0 rfl)) (fun x => [.d (.list xs), .d x]) [1]
          (fun i x hi s H' C cl fp => ⟨dg_name 1 sc_law_lists.nd, de_call ih hr (da_cons (de_var 1 rfl) da_nil) ⟨x, rfl, hx.2 x (List.mem_of_getElem? hi), rfl⟩⟩) (by omega))
      | _ => cases z
    · cases x <;> first | rfl | cases z
def R_law_same (n : Nat) (ds : List PyData) (d : PyData) : Prop := ∃ x, ds = [x, x] ∧ okn true true n x = true ∧ d = .bool true
def isSeqD : PyData → Bool
  | .tuple _ => true
  | .list _ => true
  | _ => false
theorem pairD_self {xs : List PyData} {i : Nat} {y : PyData} (h : (pairD xs xs)[i]? = some y) : ∃ u, u ∈ xs ∧ y = .tuple [u, u] := by
  have hi := (List.getElem?_eq_some_iff.mp h).1
  rw [pairD_len, Nat.min_self] at hi
  have e := List.getElem?_eq_getElem hi
  rw [pairD_get e e] at h
  cases h
  exact ⟨_, List.getElem_mem hi, rfl⟩
theorem same_flat (Z : Bi mg) {n k : Nat} {f : Addr} {cdv : Value} {A : Around} {outer : List Env} {s' : Shared} {H : Hp} {E : XK} (hr : Room k (A.deeper (envOfC "_law_same" (defScope s_law_same) s'.heap.objs.size f cdv))) {c : Wd} {x : PyData} (hx : okn true true n x = true) (hs : isSeqD x = false) :
    DS (cxD P w K mg base N_law_same "_law_same" s_law_same f cdv A outer s' H E) c [.d x, .d x, .no, .no] ((defBody s_law_same).drop 1) (endR (.bool true)) := by
  cases x with
  | tuple xs => cases hs
  | list xs => cases hs
  | dict xs => cases n <;> cases hx
  | none =>
    refine ds_ifT (DT.is (dw_or (dt_cmp (de_var 1 rfl) de_non (c_isN rfl)) (fun _ => (dw_or1 (dt_val (de_is55 .bool .str Z.isinstance Z.bool Z.str (de_var 1 rfl)))))).dt rfl) (fun _ => False) ?_ (fun _ h => h.elim)
    refine ds_ret (d := .bool true) (DE.is (de_and (de_cmp (de_var 0 rfl) (de_var 1 rfl) (c_eqD (hu64 hr) rfl rfl)) (fun _ => (de_and (de_cmp (de_is5 .bool Z.isinstance Z.bool (de_var 0 rfl)) (de_is5 .bool Z.isinstance Z.bool (de_var 1 rfl)) c_eqB) (fun _ => (de_one (de_cmp (de_cmp (de_var 0 rfl) de_non (c_isN rfl)) (de_cmp (de_var 1 rfl) de_non (c_isN rfl)) c_eqB)))))) ?_) rfl
    rfl
  | bool b =>
    refine ds_ifT (DT.is (dw_or (dt_cmp (de_var 1 rfl) de_non (c_isN rfl)) (fun _ => (dw_or1 (dt_val (de_is55 .bool .str Z.isinstance Z.bool Z.str (de_var 1 rfl)))))).dt rfl) (fun _ => False) ?_ (fun _ h => h.elim)
    exact ds_ret (((de_and (de_cmp (de_var 0 rfl) (de_var 1 rfl) c_eqB) (fun _ => (de_and (de_cmp (de_is5 .bool Z.isinstance Z.bool (de_var 0 rfl)) (de_is5 .bool Z.isinstance Z.bool (de_var 1 rfl)) c_eqB) (fun _ => (de_one (de_cmp (de_cmp (de_var 0 rfl) de_non (c_isN rfl)) (de_cmp (de_var 1 rfl) de_non (c_isN rfl)) c_eqB))))))).is (by rw [decide_eq_true rfl]; rfl)) rfl
  | str z =>
    refine ds_ifT (DT.is (dw_or (dt_cmp (de_var 1 rfl) de_non (c_isN rfl)) (fun _ => (dw_or1 (dt_val (de_is55 .bool .str Z.isinstance Z.bool Z.str (de_var 1 rfl)))))).dt rfl) (fun _ => False) ?_ (fun _ h => h.elim)
    exact ds_ret (((de_and (de_cmp (de_var 0 rfl) (de_var 1 rfl) c_eqT) (fun _ => (de_and (de_cmp (de_is5 .bool Z.isinstance Z.bool (de_var 0 rfl)) (de_is5 .bool Z.isinstance Z.bool (de_var 1 rfl)) c_eqB) (fun _ => (de_one (de_cmp (de_cmp (de_var 0 rfl) de_non (c_isN rfl)) (de_cmp (de_var 1 rfl) de_non (c_isN rfl)) c_eqB))))))).is (by rw [decide_eq_true rfl]; rfl)) rfl
  | int i =>
    refine ds_ifF (DT.is (dw_or (dt_cmp (de_var 1 rfl) de_non (c_isN rfl)) (fun _ => (dw_or1 (dt_val (de_is55 .bool .str Z.isinstance Z.bool Z.str (de_var 1 rfl)))))).dt rfl) ?_
    exact ds_ret (((de_and (de_is5 .int Z.isinstance Z.int (de_var 0 rfl)) (fun _ => (de_and (de_not (de_is5 .bool Z.isinstance Z.bool (de_var 0 rfl))) (fun _ => (de_one (de_cmp (de_var 0 rfl) (de_var 1 rfl) c_eqI))))))).is (by rw [decide_eq_true rfl]; rfl)) rfl
theorem ok_law_same (Z : Bi mg) (T : At K mg "_law_same" s_law_same ["_law_got", "_law_due"]) : ∀ n : Nat, DefOk P w K mg base "_law_same" ["_law_got", "_law_due"] (n + 1) (spD K (R_law_same n)) := by
  intro n
  induction n with
  | zero =>
    refine at_def T (R_law_same 0) sc_law_same (fun ds d h => by obtain ⟨_, rfl, _⟩ := h; rfl) fun f cdv A outer s' H E hr c ds d h => ?_
    obtain ⟨x, rfl, hx, rfl⟩ := h
    have hs : isSeqD x = false := by cases x <;> first | rfl | cases hx
    refine ds_ifF (DT.is (dt_val (de_is55 .list .tuple Z.isinstance Z.list Z.tuple (de_var 1 rfl))) ?_) (same_flat Z hr hx hs)
    cases x <;> first | rfl | cases hs
  | succ n ih =>
    refine at_def T (R_law_same (n + 1)) sc_law_same (fun ds d h => by obtain ⟨_, rfl, _⟩ := h; rfl) fun f cdv A outer s' H E hr c ds d h => ?_
    obtain ⟨x, rfl, hx, rfl⟩ := h
    cases hs : isSeqD x with
    | false =>
      refine ds_ifF (DT.is (dt_val (de_is55 .list .tuple Z.isinstance Z.list Z.tuple (de_var 1 rfl))) ?_) (same_flat Z hr hx hs)
      cases x <;> first | rfl | cases hs
    | true =>
      have ea : ∀ (xs : List PyData), (pairD xs xs).map (fun _ => PyData.bool true) = (List.replicate xs.length true).map PyData.bool := fun xs => by
        unfold pairD
        rw [List.map_map, List.map_replicate]
        exact (List.eq_replicate_iff.mpr ⟨by rw [List.length_map, List.length_zip, Nat.min_self], fun b hb => by obtain ⟨_, _, rfl⟩ := List.mem_map.mp hb; rfl⟩)
      have eb : ∀ m : Nat, (List.replicate m true).all id = true := fun m => List.all_eq_true.mpr fun b hb => by rw [List.eq_of_mem_replicate hb]; rfl
      cases x with
      | tuple xs =>
        simp only [okn, Bool.and_eq_true, decide_eq_true_eq, List.all_eq_true] at hx
        refine ds_ifT (DT.is (dt_val (de_is55 .list .tuple Z.isinstance Z.list Z.tuple (de_var 1 rfl))) rfl) (fun _ => False) ?_ (fun _ h => h.elim)
        refine ds_ifF (DT.is (dw_or (dt_cmp (de_is5 .list Z.isinstance Z.list (de_var 0 rfl)) (de_is5 .list Z.isinstance Z.list (de_var 1 rfl)) c_neB) (fun _ => (dw_or1 (dt_cmp (de_is5 .tuple Z.isinstance Z.tuple (de_var 0 rfl)) (de_is5 .tuple Z.isinstance Z.tuple (de_var 1 rfl)) c_neB)))).dt rfl) ?_
        refine ds_ret (DE.is (de_and (k := true) (l := true) (((de_cmp (de_lenT Z.len (de_var 0 rfl)) (de_lenT Z.len (de_var 1 rfl)) c_eqI)).is (by rw [decide_eq_true rfl])) (fun _ => de_one ((de_all (bs := List.replicate xs.length true) Z.all ?_).is (by rw [eb])))) rfl) rfl
        rw [← ea]
        refine DN.de (dn_lcM (own := [("_law_mine", 2), ("_law_its", 3)]) (fun _ => .bool true) sc_law_same.nd (blkOk_by (N := N_law_same) (sc := defScope s_law_same) (by decide +kernel)) (di_zipT Z.zip (da_cons (de_var 0 rfl) (da_cons (de_var 1 rfl) da_nil))) (fun y => match y with | .tuple [u, v] => [.d (.tuple xs), .d (.tuple xs), .d u, .d v] | _ => []) [2, 3]
          (fun i x hi s H' C cl fp => ?_) (by rw [pairD_len, Nat.min_self]; omega))
        obtain ⟨u, hu, rfl⟩ := pairD_self hi
        exact ⟨dg_tup rfl (dgs_cons (dg_name 2 sc_law_same.nd) (dgs_cons (dg_name 3 sc_law_same.nd) dgs_nil)), de_call ih hr (da_cons (de_var 2 rfl) (da_cons (de_var 3 rfl) da_nil)) ⟨u, rfl, hx.2 u hu, rfl⟩⟩
      | list xs =>
        simp only [okn, Bool.true_and, Bool.and_eq_true, decide_eq_true_eq, List.all_eq_true] at hx
        refine ds_ifT (DT.is (dt_val (de_is55 .list .tuple Z.isinstance Z.list Z.tuple (de_var 1 rfl))) rfl) (fun _ => False) ?_ (fun _ h => h.elim)
        refine ds_ifF (DT.is (dw_or (dt_cmp (de_is5 .list Z.isinstance Z.list (de_var 0 rfl)) (de_is5 .list Z.isinstance Z.list (de_var 1 rfl)) c_neB) (fun _ => (dw_or1 (dt_cmp (de_is5 .tuple Z.isinstance Z.tuple (de_var 0 rfl)) (de_is5 .tuple Z.isinstance Z.tuple (de_var 1 rfl)) c_neB)))).dt rfl) ?_
        refine ds_ret (DE.is (de_and (k := true) (l := true) (((de_cmp (de_lenL Z.len (de_var 0 rfl)) (de_lenL Z.len (de_var 1 rfl)) c_eqI)).is (by rw [decide_eq_true rfl])) (fun _ => de_one ((de_all (bs := List.replicate xs.length true) Z.all ?_).is (by rw [eb])))) rfl) rfl
        rw [← ea]
        refine DN.de (dn_lcM (own := [("_law_mine", 2), ("_law_its", 3)]) (fun _ => .bool true) sc_law_same.nd (blkOk_by (N := N_law_same) (sc := defScope s_law_same) (by decide +kernel)) (di_zipL Z.zip (da_cons (de_var 0 rfl) (da_cons (de_var 1 rfl) da_nil))) (fun y => match y with | .tuple [u, v] => [.d (.list xs), .d (.list xs), .d u, .d v] | _ => []) [2, 3]
          (fun i x hi s H' C cl fp => ?_) (by rw [pairD_len, Nat.min_self]; omega))
        obtain ⟨u, hu, rfl⟩ := pairD_self hi
        exact ⟨dg_tup rfl (dgs_cons (dg_name 2 sc_law_same.nd) (dgs_cons (dg_name 3 sc_law_same.nd) dgs_nil)), de_call ih hr (da_cons (de_var 2 rfl) (da_cons (de_var 3 rfl) da_nil)) ⟨u, rfl, hx.2 u hu, rfl⟩⟩
      | _ => cases hs
end
end DD
/-! T11: the drawing defs -/
namespace DD
open PySem PySem.Spec L2
open PyProof.Rows hiding St
local macro_rules | `(tactic| walk_at "side") => `(tactic| first | exact Nat.le_of_ble_eq_true rfl | assumption | omega | decide | rfl | (simp; done) | (simp; omega))
section
variable {P : Program} {w : World} {K : PySem.W.Frag} {mg : Str → Option Value} {base : Heap}
def F_take (ds : List PyData) (C : Nat) (R : PyData → Prop) : Prop := ∃ b : Nat, ds = [.int b] ∧ 1 ≤ b ∧ b < 1000000000 ∧ C = 1 ∧ R = fun d => ∃ i : Nat, d = .int i ∧ i < b
theorem draw_ok {x : Int} {b : Nat} (h : 1 ≤ b) : ∃ i : Nat, PyData.int (x % (b : Int)) = .int i ∧ i < b := by
  have h1 := Int.emod_nonneg x (b := (b : Int)) (by omega)
  have h2 := Int.emod_lt_of_pos x (b := (b : Int)) (by omega)
  refine ⟨(x % (b : Int)).toNat, by rw [Int.toNat_of_nonneg h1], by omega⟩
theorem ok_law_take (Z : Bi mg) (T : At K mg "_law_take" s_law_take ["_law_tin", "_law_below_so"]) : DefOk P w K mg base "_law_take" ["_law_tin", "_law_below_so"] 1 (spY K F_take) := by
  refine at_defO T F_take sc_law_take (fun ds C R h => by obtain ⟨_, rfl, _⟩ := h; rfl) fun f cdv A outer s' H E hr c ds n C R h hn i j l hi hj hj2 hl hln q => ?_
  obtain ⟨b, rfl, hb, hb2, rfl, rfl⟩ := h
  refine dso_if (k := decide (0 < i)) (dt_cmp (de_ownIx 0 rfl de_int rfl) de_int c_gt) (fun z => ?_) (fun z => ?_)
  · refine dso_set 2 (de_bin (de_intI Z.int (de_ownIx 0 rfl de_int rfl)) (de_var 1 rfl) (b_mod (by omega))) ?_ (by decide) sc_law_take.nd
    refine dso_own rfl (de_bin (de_ownIx 0 rfl de_int rfl) (de_var 1 rfl) (b_div (by omega) (by omega))) de_int (j := 0) rfl ?_
    exact dso_ret (de_var 2 rfl) ⟨draw_ok hb, i / b, j, l, rfl, Int.ediv_nonneg hi (by omega), hj, hj2, hl, by omega⟩
  · refine dso_own rfl (de_bin (de_ownIx 0 rfl de_int rfl) de_int b_add) de_int (j := 2) rfl ?_
    refine dso_set 3 (de_bin (de_intI Z.int (de_bin (de_bin (de_ownIx 0 rfl de_int rfl) (de_bin de_int (de_ownIx 0 rfl de_int rfl) (b_mulL (by decide) (by decide))) b_add) (de_bin de_int (de_ownIx 0 rfl de_int rfl) b_add) (b_mulR (by omega) (by omega)))) de_int (b_mod (by decide))) ?_ (by decide) sc_law_take.nd
    refine dso_set 4 (de_bin (de_bin (de_intI Z.int (de_var 3 rfl)) de_int (b_mod (by decide))) de_int b_add) ?_ (by decide) sc_law_take.nd
    generalize ho : ((j + 48271 * (l + 1)) * (39373 + (l + 1))) % 2147483647 = o
    have h1 := Int.emod_nonneg o (b := 40009) (by decide)
    have h2 := Int.emod_lt_of_pos o (b := 40009) (by decide)
    refine dso_set 5 (de_bin (de_intI Z.int (de_bin (de_bin (de_bin (de_var 3 rfl) (de_ownIx 0 rfl de_int rfl) b_add) (de_bin (de_ownIx 0 rfl de_int rfl) de_int (b_div (by decide) (by decide))) b_add) (de_var 4 rfl) (b_mulR (by omega) (by omega)))) de_int (b_mod (by decide))) ?_ (by decide) sc_law_take.nd
    exact dso_ret (de_bin (de_intI Z.int (de_bin (de_bin (de_intI Z.int (de_bin (de_bin (de_var 5 rfl) de_int (b_mulR (by decide) (by decide))) (de_var 3 rfl) b_add)) de_int (b_mod (by decide))) de_int (b_div (by decide) (by decide)))) (de_var 1 rfl) (b_mod (by omega))) ⟨draw_ok hb, i, j, l + 1, rfl, hi, hj, hj2, by omega, by omega⟩
def absI (n : Int) : Int := if n < 0 then -n else n
def F_box (ds es : List PyData) : Prop := ∃ (ns : List PyData) (k : Nat) (n : Int), ds = [.list ns, .int k] ∧ k < ns.length ∧ ns[k]? = some (.int n) ∧ es = [.int (absI n * (if decide ((10 : Int) ^ (18 : Int).toNat ≤ absI n) = true then 1 else 0)), .int (n % 2305843009213693951 + 39373 * (k : Int) + 9453), .int 0]
theorem ok_law_box (Z : Bi mg) (T : At K mg "_law_box" s_law_box ["_law_script", "_law_k"]) : DefOk P w K mg base "_law_box" ["_law_script", "_law_k"] 1 (spN K F_box) := by
  refine at_defN T F_box sc_law_box (fun ds es h => by obtain ⟨_, _, _, rfl, _⟩ := h; rfl) fun f cdv A outer s' H E hr c ds es h => ?_
  obtain ⟨ns, k, n, rfl, hk, hn, rfl⟩ := h
  refine dsn_set 2 (d := .int n) (de_ifT (DT.is (dt_cmp (de_var 1 rfl) (de_lenL Z.len (de_var 0 rfl)) c_lt) (decide_eq_true (by omega))) (de_ixL (de_var 0 rfl) (de_var 1 rfl) (atI_nat hn))) ?_ sc_law_box.nd
  have hb : ∀ l : Bool, -(2 ^ 64) < (if l = true then (1 : Int) else 0) ∧ (if l = true then (1 : Int) else 0) < 2 ^ 64 := fun l => by cases l <;> decide
  exact dsn_ret (dn_lst (da_cons (de_bin (de_abs Z.abs (de_var 2 rfl)) (de_intB Z.int (de_cmp (de_abs Z.abs (de_var 2 rfl)) (de_bin de_int de_int (b_pow ⟨by decide, by decide, by decide⟩)) c_ge)) (b_mulR (hb _).1 (hb _).2)) (da_cons (de_bin (de_bin (de_bin (de_intI Z.int (de_var 2 rfl)) de_int (b_mod (by decide))) (de_bin de_int (de_var 1 rfl) (b_mulL (by decide) (by decide))) b_add) de_int b_add) (da_cons de_int da_nil))))
def cellAcc (a : Int) (cs : List Int) : Nat → Int
  | 0 => a
  | i + 1 => cellAcc a cs i + cs.getD i 0 * ((i : Nat) + 2)
def intL (ns : List Int) : List PyData := ns.map .int
theorem cut_ints (ns : List Int) (lo hi : Option Int) : ∃ cs : List Int, cutD (intL ns) lo hi = intL cs ∧ cs.length ≤ ns.length := by
  refine ⟨(ns.drop (HT.sIx ns.length 0 lo)).take (HT.sIx ns.length ns.length hi - HT.sIx ns.length 0 lo), ?_, ?_⟩
  · unfold cutD intL
    rw [List.length_map, List.map_take, List.map_drop]
  · rw [List.length_take, List.length_drop]
    omega
def F_cells (ds0 ds : List PyData) (d : PyData) : Prop := ∃ ns : List Int, ds0 = intL ns ∧ ns.length ≤ 63 ∧ ds = [.int 1] ∧ ∃ a cs, orD (cutD (intL ns) none (some 1)) [.int 0] = [.int a] ∧ cutD (intL ns) (some 1) (some 63) = intL cs ∧ cs.length ≤ ns.length ∧ d = .list [.int (cellAcc a cs cs.length)]
theorem cells_some (ns : List Int) (h : ns.length ≤ 63) : ∃ a : Int, F_cells (intL ns) [.int 1] (.list [.int a]) := by
  obtain ⟨cs, h1, h2⟩ := cut_ints ns (some 1) (some 63)
  have : ∃ a : Int, orD (cutD (intL ns) none (some 1)) [.int 0] = [.int a] := by
    cases ns with
    | nil => exact ⟨0, rfl⟩
    | cons a r =>
      refine ⟨a, ?_⟩
      have : cutD (intL (a :: r)) none (some 1) = [.int a] := by
        have := cut_lo (intL (a :: r)) 1 (by unfold intL; rw [List.length_map, List.length_cons]; omega)
        exact this
      rw [this]
      rfl
  obtain ⟨a, ha⟩ := this
  exact ⟨_, ns, rfl, h, rfl, a, cs, ha, h1, h2, rfl⟩
theorem ok_law_cells (Z : Bi mg) (T : At K mg "_law_cells" s_law_cells ["_law_script", "_law_most_so"]) : DefOk P w K mg base "_law_cells" ["_law_script", "_law_most_so"] 1 (spQ K F_cells) := by
  refine at_defQ T F_cells sc_law_cells (fun ds0 ds d h => by obtain ⟨_, _, _, rfl, _⟩ := h; rfl) fun f cdv A outer s' H E hr c ds0 ds d h => ?_
  obtain ⟨ns, rfl, hl, rfl, a, cs, h1, h2, h3, rfl⟩ := h
  refine ds_setN 2 (dn_or (dn_listL Z.list (DN.de (dn_seqSl 0 rfl do_none (do_some (de_var 1 rfl))))) (dn_lst (da_cons de_int da_nil))) ?_ sc_law_cells.nd
  rw [h1]
  refine ds_for (di_enum Z.enumerate (DN.de (dn_seqSl 0 rfl (do_some (de_var 1 rfl)) (do_some de_int)))) (fun i ρ' => ∃ x y z, ρ' = [.seq (intL ns), .d (.int 1), .own [.int (cellAcc a cs i)], x, y, z]) ⟨.no, .no, .no, rfl⟩ (fun i x ρ1 hx hI => ?_) fun ρ1 hI => ?_
  · obtain ⟨x1, x2, x3, rfl⟩ := hI
    rw [h2] at hx
    have hi := (List.getElem?_eq_some_iff.mp hx).1
    rw [pairD_len, upD_len, Nat.min_self] at hi
    unfold intL at hi hx
    rw [List.length_map] at hi
    rw [pairD_get (upD_get (by rw [List.length_map]; exact hi)) (show (cs.map PyData.int)[i]? = some (.int cs[i]) by rw [List.getElem?_map, List.getElem?_eq_getElem hi]; rfl)] at hx
    cases hx
    rw [show (0 : Int) + (i : Nat) * 1 = (i : Int) by omega]
    refine ⟨_, _, dg_tup rfl (dgs_cons (dg_name 3 sc_law_cells.nd) (dgs_cons (dg_name 4 sc_law_cells.nd) dgs_nil)), ?_⟩
    have e0 : (i : Int) % 1 = 0 := by omega
    refine ds_set (d := .int 0) 5 (DE.is (de_bin (de_intI Z.int (de_var 3 rfl)) (de_var 1 rfl) (b_mod (by decide))) (by rw [e0])) ?_ sc_law_cells.nd
    refine ds_ownSet 2 rfl (de_bin (de_ownIx 2 rfl (de_var 5 rfl) rfl) (de_bin (de_var 4 rfl) (de_bin (de_var 3 rfl) de_int b_add) (b_mulR (by omega) (by omega))) b_add) (de_var 5 rfl) (j := 0) rfl (ds_nil ⟨.d (.int i), .d (.int cs[i]), .d (.int 0), ?_⟩)
    show [Sl.seq (intL ns), _, Sl.own [.int (cellAcc a cs i + cs[i] * ((i : Int) + 2))], _, _, _] = _
    have : cellAcc a cs (i + 1) = cellAcc a cs i + cs[i] * ((i : Int) + 2) := by
      show cellAcc a cs i + cs.getD i 0 * ((i : Nat) + 2) = _
      rw [List.getD_eq_getElem?_getD, List.getElem?_eq_getElem hi]
      rfl
    rw [this]
  · obtain ⟨x1, x2, x3, rfl⟩ := hI
    rw [h2, pairD_len, upD_len, Nat.min_self]
    unfold intL
    rw [List.length_map]
    exact ds_freeze 2 rfl (ds_ret (de_var 2 rfl) rfl)
def F_of (ds : List PyData) (C : Nat) (R : PyData → Prop) : Prop := ∃ gs : List PyData, ds = [.list gs] ∧ gs ≠ [] ∧ gs.length ≤ 1000 ∧ C = 1 ∧ R = fun d => d ∈ gs
theorem ok_law_of (Z : Bi mg) (D_law_take : DefOk P w K mg base "_law_take" ["_law_tin", "_law_below_so"] 1 (spY K F_take)) (T : At K mg "_law_of" s_law_of ["_law_tin", "_law_goods_so"]) : DefOk P w K mg base "_law_of" ["_law_tin", "_law_goods_so"] 2 (spY K F_of) := by
  refine at_defY T F_of sc_law_of (fun ds C R h => by obtain ⟨_, rfl, _⟩ := h; rfl) fun f cdv A outer s' H E hr c ds n C R h hn => ?_
  obtain ⟨gs, rfl, hne, hl, rfl, rfl⟩ := h
  have hp : 0 < gs.length := List.length_pos_iff.mpr hne
  refine ds_retY (R := fun d => d ∈ gs) (m := n + 1) (dy_ix (de_var 1 rfl) (dy_callP D_law_take (hr.mono (by decide)) rfl (da_cons (de_lenL Z.len (de_var 1 rfl)) da_nil) ⟨gs.length, rfl, hp, by omega, rfl, rfl⟩ hn) fun d hd => ?_) fun d hd => ⟨hd, n + 1, rfl, Nat.le_refl _⟩
  obtain ⟨i, rfl, hi⟩ := hd
  exact ⟨i, gs[i], rfl, atI_nat (List.getElem?_eq_getElem hi), List.getElem_mem hi⟩
def F_pick (ds : List PyData) (C : Nat) (R : PyData → Prop) : Prop := ∃ (gs : List PyData) (k : Nat), ds = [.list gs, .int k] ∧ gs.length ≤ 1000 ∧ k ≤ 10 ∧ C = k ∧ R = fun d => ∃ fs rest : List PyData, d = .list fs ∧ fs.length = min k gs.length ∧ (fs ++ rest).Perm gs
theorem erase_perm {α : Type} : ∀ (xs : List α) (j : Nat) (u : α), xs[j]? = some u → (u :: xs.eraseIdx j).Perm xs
  | [], _, _, h => by simp at h
  | x :: xs, 0, u, h => by
    have h : some x = some u := h
    cases h
    exact .refl _
  | x :: xs, j + 1, u, h => by
    rw [List.getElem?_cons_succ] at h
    exact (List.Perm.swap x u _).trans ((erase_perm xs j u h).cons x)
theorem ok_law_pick (Z : Bi mg) (D_law_take : DefOk P w K mg base "_law_take" ["_law_tin", "_law_below_so"] 1 (spY K F_take)) (T : At K mg "_law_pick" s_law_pick ["_law_tin", "_law_goods_so", "_law_count_so"]) : DefOk P w K mg base "_law_pick" ["_law_tin", "_law_goods_so", "_law_count_so"] 2 (spY K F_pick) := by
  refine at_defY T F_pick sc_law_pick (fun ds C R h => by obtain ⟨_, _, rfl, _⟩ := h; rfl) fun f cdv A outer s' H E hr c ds n C R h hn => ?_
  obtain ⟨gs, k, rfl, hl, hk, rfl, rfl⟩ := h
  refine ds_parNN 3 4 (dn_listL Z.list (de_var 1 rfl)) (dn_lst da_nil) ?_ sc_law_pick.nd rfl
  have em : (if (gs.length : Int) < ((C : Nat) : Int) then (gs.length : Int) else ((C : Nat) : Int)) = ((min C gs.length : Nat) : Int) := by split <;> omega
  refine ds_for (di_rng1 Z.range (de_min Z.min (da_cons (de_intI Z.int (de_var 2 rfl)) (da_cons (de_ownLen Z.len 3 rfl) da_nil))) (by walk_at "side") (by walk_at "side")) (fun i ρ' => i ≤ C ∧ ∃ (pool fs : List PyData) (y : Sl), ρ' = [.tin (n + i), .d (.list gs), .d (.int C), .own pool, .own fs, y] ∧ fs.length = i ∧ (fs ++ pool).Perm gs) ⟨Nat.zero_le _, gs, [], .no, rfl, rfl, .refl _⟩ (fun i x ρ1 hx hI => ?_) fun ρ1 hI => ?_
  · obtain ⟨_, pool, fs, y, rfl, hfl, hp⟩ := hI
    have hi := (List.getElem?_eq_some_iff.mp hx).1
    rw [upD_len] at hi
    have hi : i < min C gs.length := by
      refine Nat.lt_of_lt_of_le hi ?_
      split <;> omega
    have hpl : (fs ++ pool).length = gs.length := hp.length_eq
    rw [List.length_append] at hpl
    refine ⟨_, _, dg_name 5 sc_law_pick.nd, ds_appPop (m := n + i + 1) 4 3 rfl rfl (by decide) (dy_callP D_law_take (hr.mono (by decide)) rfl (da_cons (de_ownLen Z.len 3 rfl) da_nil) ⟨pool.length, rfl, by omega, by omega, rfl, rfl⟩ (by omega)) (fun d hd => ?_) (by omega) (by omega)⟩
    obtain ⟨j, rfl, hj⟩ := hd
    refine ⟨j, pool[j], rfl, List.getElem?_eq_getElem hj, ds_nil ⟨by omega, pool.eraseIdx j, fs ++ [pool[j]], .d x, rfl, by rw [List.length_append, hfl]; rfl, ?_⟩⟩
    rw [List.append_assoc]
    exact ((erase_perm pool j _ (List.getElem?_eq_getElem hj)).append_left fs).trans hp
  · obtain ⟨hle, pool, fs, y, rfl, hfl, hp⟩ := hI
    refine ds_freeze 4 rfl (ds_ret (de_var 4 rfl) ⟨⟨fs, pool, rfl, ?_, hp⟩, n + _, rfl, by omega⟩)
    rw [hfl, upD_len]
    split <;> omega
/-! deeds -/
def words3 : List PyData := [.str "turn", .str "mix", .str "swap", .str "mix", .str "turn"]
def F_deed (ds : List PyData) (C : Nat) (R : PyData → Prop) : Prop := ∃ N : Nat, ds = [.int N] ∧ 2 ≤ N ∧ N ≤ 1000 ∧ C = 4 ∧ R = fun d => ∃ g : Deed, d = encG g ∧ g.ok N = true
/-- two of 0 .. n - 1, in order -/
theorem two_of {N : Nat} (hN : 2 ≤ N) {fs rest : List PyData} (hl : fs.length = min 2 (upD 0 1 N).length) (hp : (fs ++ rest).Perm (upD 0 1 N)) : ∃ ns : List Int, fs = ns.map .int ∧ ∀ ms : List Int, ms.Perm ns → ms.Pairwise (· ≤ ·) → ∃ p q : Nat, ms = [(p : Int), (q : Int)] ∧ p < q ∧ q < N := by
  rw [upD_len, Nat.min_eq_left hN] at hl
  have e : upD 0 1 N = ((List.range N).map fun i : Nat => PyData.int i) := by
    unfold upD
    refine List.map_congr_left fun i _ => ?_
    rw [Int.mul_one, Int.zero_add]
  rw [e] at hp
  match fs, hl with
  | [a, b], _ =>
    have ha : a ∈ (List.range N).map fun i : Nat => PyData.int i := hp.mem_iff.mp (by simp)
    have hb : b ∈ (List.range N).map fun i : Nat => PyData.int i := hp.mem_iff.mp (by simp)
    obtain ⟨i, hi, rfl⟩ := List.mem_map.mp ha
    obtain ⟨j, hj, rfl⟩ := List.mem_map.mp hb
    have hi := List.mem_range.mp hi
    have hj := List.mem_range.mp hj
    have nd : ((List.range N).map fun i : Nat => PyData.int i).Nodup := by
      refine List.Pairwise.map _ (fun a b h => ?_) (List.nodup_range (n := N))
      intro z
      exact h (by have := PyData.int.inj z; omega)
    have nd2 := hp.nodup_iff.mpr nd
    have hne : i ≠ j := by
      rw [List.cons_append, List.nodup_cons] at nd2
      intro z
      subst z
      exact nd2.1 (by simp)
    refine ⟨[(i : Int), (j : Int)], rfl, fun ms hm hs => ?_⟩
    have hml := hm.length_eq
    match ms, hml with
    | [x, y], _ =>
      have hx : x ∈ [(i : Int), (j : Int)] := hm.mem_iff.mp (by simp)
      have hy : y ∈ [(i : Int), (j : Int)] := hm.mem_iff.mp (by simp)
      have hxy : x ≤ y := by
        rw [List.pairwise_cons] at hs
        exact hs.1 y (by simp)
      have nd3 : [x, y].Nodup := hm.nodup_iff.mpr (by simp; omega)
      have hxy2 : x ≠ y := by
        rw [List.nodup_cons] at nd3
        intro z
        exact nd3.1 (by simp [z])
      simp only [List.mem_cons, List.not_mem_nil, or_false] at hx hy
      rcases hx with rfl | rfl <;> rcases hy with rfl | rfl
      · exact absurd rfl hxy2
      · exact ⟨i, j, rfl, by omega, hj⟩
      · exact ⟨j, i, rfl, by omega, hi⟩
      · exact absurd rfl hxy2
theorem ok_law_deed (Z : Bi mg) (D_law_of : DefOk P w K mg base "_law_of" ["_law_tin", "_law_goods_so"] 2 (spY K F_of)) (D_law_pick : DefOk P w K mg base "_law_pick" ["_law_tin", "_law_goods_so", "_law_count_so"] 2 (spY K F_pick)) (T : At K mg "_law_deed" s_law_deed ["_law_tin", "_law_size_so"]) : DefOk P w K mg base "_law_deed" ["_law_tin", "_law_size_so"] 3 (spY K F_deed) := by
  refine at_defY T F_deed sc_law_deed (fun ds C R h => by obtain ⟨_, rfl, _⟩ := h; rfl) fun f cdv A outer s' H E hr c ds n C R h hn => ?_
  obtain ⟨N, rfl, h2, hN, rfl, rfl⟩ := h
  refine ds_setY (m := n + 1) 2 (dy_callP D_law_of (hr.mono (by decide)) rfl (da_cons (de_lst (da_cons de_str (da_cons de_str (da_cons de_str (da_cons de_str (da_cons de_str da_nil)))))) da_nil) ⟨words3, rfl, by unfold words3; simp, by unfold words3; simp, rfl, rfl⟩ (by omega)) (fun d hd => ?_) sc_law_deed.nd
  have hd2 : ∃ z : Str, d = .str z ∧ (z = ("turn" : Str) ∨ z = ("mix" : Str) ∨ z = ("swap" : Str)) := by
    unfold words3 at hd
    simp only [List.mem_cons, List.not_mem_nil, or_false] at hd
    rcases hd with h | h | h | h | h
    · exact ⟨_, h, .inl rfl⟩
    · exact ⟨_, h, .inr (.inl rfl)⟩
    · exact ⟨_, h, .inr (.inr rfl)⟩
    · exact ⟨_, h, .inr (.inl rfl)⟩
    · exact ⟨_, h, .inl rfl⟩
  obtain ⟨z, rfl, hz⟩ := hd2
  refine ds_setY (m := n + 1 + 2) (R := fun d => ∃ p q : Nat, d = .list [.int p, .int q] ∧ p < q ∧ q < N) 3 (dy_sorted Z.sorted (dy_callP D_law_pick (hr.mono (by decide)) rfl (da_cons (dn_listRg Z.list Z.range (de_var 1 rfl) (by omega)).de (da_cons de_int da_nil)) ⟨upD 0 1 N, 2, rfl, by rw [upD_len]; exact hN, by decide, rfl, rfl⟩ (by omega)) fun d hd => ?_) (fun d hd => ?_) sc_law_deed.nd
  · obtain ⟨fs, rest, rfl, hfl, hp⟩ := hd
    obtain ⟨ns, rfl, h⟩ := two_of h2 hfl hp
    refine ⟨ns, rfl, fun ms h1 h3 => ?_⟩
    obtain ⟨p, q, rfl, hpq, hq⟩ := h ms h1 h3
    exact ⟨p, q, rfl, hpq, hq⟩
  · obtain ⟨p, q, rfl, hpq, hq⟩ := hd
    rcases hz with rfl | hz
    · refine ds_ifT (DT.is (dt_cmp (de_var 2 rfl) de_str c_eqT) (decide_eq_true rfl)) (fun _ => False) ?_ (fun _ h => h.elim)
      refine ds_retY (R := fun d => ∃ g : Deed, d = encG g ∧ g.ok N = true) (m := n + 1 + 2 + 1) (dy_tup (Rs := fun ds => ∃ i : Nat, i < N ∧ ds = [.str "turn", .int i]) (dya_de de_str (dya_cons (dy_callP D_law_of (hr.mono (by decide)) rfl (da_cons (de_var 3 rfl) da_nil) ⟨[.int p, .int q], rfl, by simp, by simp, rfl, rfl⟩ (by omega)) fun d hd => by
        refine dya_nil ?_
        show ∃ i : Nat, i < N ∧ [.str "turn", d] = [.str "turn", .int i]
        simp only [List.mem_cons, List.not_mem_nil, or_false] at hd
        rcases hd with rfl | rfl
        · exact ⟨p, by omega, rfl⟩
        · exact ⟨q, hq, rfl⟩)) fun ds hds => ?_) fun d hd => ⟨hd, n + 1 + 2 + 1, rfl, by omega⟩
      · obtain ⟨i, hi, e⟩ := hds
        rw [e]
        exact ⟨⟨.turn i, rfl, decide_eq_true hi⟩, by simp⟩
    · refine ds_ifF (DT.is (dt_cmp (de_var 2 rfl) de_str c_eqT) ?_) ?_
      · rcases hz with rfl | rfl
        · exact decide_eq_false ne_turn_mix.symm
        · exact decide_eq_false ne_turn_swap.symm
      · refine ds_ret (de_tup (da_cons (de_var 2 rfl) (da_cons (de_ixL (de_var 3 rfl) de_int rfl) (da_cons (de_ixL (de_var 3 rfl) de_int rfl) da_nil)))) ⟨?_, n + 1 + 2, rfl, by omega⟩
        have hok : (decide (p < q) && decide (q < N)) = true := by rw [decide_eq_true hpq, decide_eq_true hq]; rfl
        rcases hz with rfl | rfl
        · exact ⟨.mix p q, rfl, hok⟩
        · exact ⟨.swap p q, rfl, hok⟩
end
end DD
/-! T12: drawn deeds, states, gates, circuits -/
namespace DD
open PySem PySem.Spec L2
open PyProof.Rows hiding St
open Evl (Ex ex_rd ex_l ex_t fresh_back)
local macro_rules | `(tactic| walk_at "side") => `(tactic| first | exact Nat.le_of_ble_eq_true rfl | assumption | omega | decide | rfl | (simp; done) | (simp; omega))
section
variable {P : Program} {w : World} {K : PySem.W.Frag} {mg : Str → Option Value} {base : Heap}
theorem all_enc : ∀ {ds : List PyData} {N : Nat}, (∀ d ∈ ds, ∃ g : Deed, d = encG g ∧ g.ok N = true) → ∃ gs : List Deed, ds = gs.map encG ∧ kw gs N ∧ gs.length = ds.length
  | [], _, _ => ⟨[], rfl, (fun _ h => nomatch h), rfl⟩
  | d :: ds, N, h => by
    obtain ⟨g, rfl, hg⟩ := h d List.mem_cons_self
    obtain ⟨gs, rfl, hk, hl⟩ := all_enc fun x hx => h x (List.mem_cons_of_mem _ hx)
    refine ⟨g :: gs, rfl, fun x hx => ?_, by rw [List.length_cons, List.length_cons, hl]⟩
    rcases List.mem_cons.mp hx with rfl | hx
    · exact hg
    · exact hk x hx
def F_deeds (ds : List PyData) (C : Nat) (R : PyData → Prop) : Prop := ∃ N M : Nat, ds = [.int N, .int M] ∧ 2 ≤ N ∧ N ≤ 1000 ∧ M ≤ 100 ∧ M * 4 ≤ C ∧ R = fun d => ∃ gs : List Deed, d = encGs gs ∧ kw gs N ∧ gs.length = M
theorem ok_law_deeds (Z : Bi mg) (D_law_deed : DefOk P w K mg base "_law_deed" ["_law_tin", "_law_size_so"] 3 (spY K F_deed)) (T : At K mg "_law_deeds" s_law_deeds ["_law_tin", "_law_size_so", "_law_many_so"]) : DefOk P w K mg base "_law_deeds" ["_law_tin", "_law_size_so", "_law_many_so"] 4 (spY K F_deeds) := by
  refine at_defY T F_deeds sc_law_deeds (fun ds C R h => by obtain ⟨_, _, rfl, _⟩ := h; rfl) fun f cdv A outer s' H E hr c ds n C R h hn => ?_
  obtain ⟨N, M, rfl, h2, hN, hM, hC, rfl⟩ := h
  refine ds_retY (R := fun d => ∃ gs : List Deed, d = encGs gs ∧ kw gs N ∧ gs.length = M) (m := n + M * 4) (dy_tupL (R1 := fun d => ∃ ds : List PyData, d = .list ds ∧ ds.length = M ∧ ∀ d ∈ ds, ∃ g : Deed, d = encG g ∧ g.ok N = true) Z.tuple (dy_lc (own := [("_law_lap", 3)]) (n := n) (C := 4) (P2 := fun d => ∃ g : Deed, d = encG g ∧ g.ok N = true) rfl sc_law_deeds.nd (blkOk_by (N := N_law_deeds) (sc := defScope s_law_deeds) (by decide +kernel)) (di_rng1 Z.range (de_var 2 rfl) (by walk_at "side") (by walk_at "side")) (by rw [upD_len]; omega)
    (fun i x => [.tin (n + i * 4), .d (.int N), .d (.int M), .d x]) [3] (fun i x => ⟨_, rfl⟩) (fun i x hi s H' C cl fp => ⟨dg_name 3 sc_law_deeds.nd, ?_⟩) (fun ds hl hd => ⟨ds, rfl, by rw [hl, upD_len]; omega, hd⟩) (by rw [upD_len, Int.toNat_natCast])) fun d hd => ?_) fun d hd => ⟨hd, n + M * 4, rfl, by omega⟩
  · obtain ⟨hi, rfl⟩ := up_at hi
    have hi : i < M := by omega
    rw [show n + (i + 1) * 4 = n + i * 4 + 4 by omega]
    exact dy_callP D_law_deed (hr.mono (by decide)) rfl (da_cons (de_var 1 rfl) da_nil) ⟨N, rfl, h2, hN, rfl, rfl⟩ (by omega)
  · obtain ⟨ds, rfl, hl, hd⟩ := hd
    obtain ⟨gs, rfl, hk, hl2⟩ := all_enc hd
    exact ⟨_, rfl, gs, rfl, hk, by omega⟩
def F_state (ds : List PyData) (C : Nat) (R : PyData → Prop) : Prop := ∃ N M : Nat, ds = [.int N, .int M] ∧ 2 ≤ N ∧ N ≤ 1000 ∧ M ≤ 50 ∧ C = 1 + M * 4 ∧ R = fun d => ∃ s : Stt, d = encS s ∧ s.length = N ∧ CnS s ∧ KB M s
theorem mixN_le (gs : List Deed) : mixN gs ≤ gs.length := List.length_filter_le _ _
theorem ok_law_state (D_law_take : DefOk P w K mg base "_law_take" ["_law_tin", "_law_below_so"] 1 (spY K F_take)) (D_law_deeds : DefOk P w K mg base "_law_deeds" ["_law_tin", "_law_size_so", "_law_many_so"] 4 (spY K F_deeds))
    (D_law_deeds_done : DefOk P w K mg base "_law_deeds_done" ["_law_state_so", "_law_deeds_so"] 4 (spD K R_law_deeds_done)) (D_law_place_state : DefOk P w K mg base "_law_place_state" ["_law_size_so", "_law_place_so"] 1 (spD K R_law_place_state))
    (T : At K mg "_law_state" s_law_state ["_law_tin", "_law_size_so", "_law_many_so"]) : DefOk P w K mg base "_law_state" ["_law_tin", "_law_size_so", "_law_many_so"] 5 (spY K F_state) := by
  refine at_defY T F_state sc_law_state (fun ds C R h => by obtain ⟨_, _, rfl, _⟩ := h; rfl) fun f cdv A outer s' H E hr c ds n C R h hn => ?_
  obtain ⟨N, M, rfl, h2, hN, hM, rfl, rfl⟩ := h
  refine ds_retY (R := fun d => ∃ s : Stt, d = encS s ∧ s.length = N ∧ CnS s ∧ KB M s) (m := n + 1 + M * 4) (dy_callD (Rs := fun ds => ∃ (i : Nat) (gs : List Deed), ds = [encS (lone N i), encGs gs] ∧ i < N ∧ kw gs N ∧ gs.length = M) D_law_deeds_done (hr.mono (by decide))
    (dya_cons (m1 := n + 1) (R1 := fun d => ∃ i : Nat, d = encS (lone N i) ∧ i < N) (dy_callD (Rs := fun ds => ∃ i : Nat, ds = [.int N, .int i] ∧ i < N) D_law_place_state (hr.mono (by decide)) (dya_de (de_var 1 rfl) (dya_cons (dy_callP D_law_take (hr.mono (by decide)) rfl (da_cons (de_var 1 rfl) da_nil) ⟨N, rfl, by omega, by omega, rfl, rfl⟩ (by omega)) fun d hd => ?_)) fun ds hds => ?_) fun d hd =>
      dya_cons (m1 := n + 1 + M * 4) (R1 := fun d => ∃ gs : List Deed, d = encGs gs ∧ kw gs N ∧ gs.length = M) (dy_callP D_law_deeds (hr.mono (by decide)) rfl (da_cons (de_var 1 rfl) (da_cons (de_var 2 rfl) da_nil)) ⟨N, M, rfl, h2, hN, by omega, Nat.le_refl _, rfl⟩ (by omega)) fun d2 hd2 => ?_) fun ds hds => ?_) fun d hd => ⟨hd, n + 1 + M * 4, rfl, by omega⟩
  · obtain ⟨i, rfl, hi⟩ := hd
    exact dya_nil ⟨i, rfl, hi⟩
  · obtain ⟨i, rfl, hi⟩ := hds
    exact ⟨_, ⟨N, i, rfl, hN, hi, rfl⟩, i, rfl, hi⟩
  · obtain ⟨i, rfl, hi⟩ := hd
    obtain ⟨gs, rfl, hk, hl⟩ := hd2
    exact dya_nil ⟨i, gs, rfl, hi, hk, hl⟩
  · obtain ⟨i, gs, rfl, hi, hk, hl⟩ := hds
    have hm := mixN_le gs
    have e := lone_len N i
    refine ⟨_, ⟨lone N i, gs, 0, rfl, by rw [e]; exact hN, by rw [e]; exact hk, lone_kb N i, by omega, rfl⟩, ledAll (lone N i) gs, rfl, by rw [ledAll_len]; exact e, ledAll_cn gs (lone_cn N i), (ledAll_kb gs 0 _ (lone_kb N i)).mono (by omega)⟩
/-! gates -/
theorem opd_catT {X : Cx} {xs ys : List PyData} (h : xs.length + ys.length ≤ 100000) : OpD X.K (rCatA X.K) (.tuple xs) (.tuple ys) (.tuple (xs ++ ys)) := fun x y B H Q e rx ry q => by
  cases rx with
  | tup h1 r1 =>
    cases ry with
    | tup h2 r2 =>
      refine ⟨_, _, _, _, rfl, rfl, ex_t e h1, ex_t e h2, ?_, fun z => ?_, fun _ z => ?_, fun _ _ p hp => ?_⟩
      · rw [r1.length, r2.length]; exact line_of h
      · have := r1.nil_iff.mp z
        subst this
        exact q _ B H (Stp.refl e) (.tup h2 r2)
      · have := r2.nil_iff.mp z
        subst this
        rw [List.append_nil] at q
        exact q _ B H (Stp.refl e) (.tup h1 r1)
      · exact q _ _ _ (Stp.new e _ hp) (.tup (SqT.of upd_same) ((r1.append r2).mono (Ex.new (free_of e hp))))
theorem opd_catL {X : Cx} {xs ys : List PyData} (h : xs.length + ys.length ≤ 100000) : OpD X.K rCat (.list xs) (.list ys) (.list (xs ++ ys)) := fun x y B H Q e rx ry q => by
  cases rx with
  | lst h1 r1 =>
    cases ry with
    | lst h2 r2 => exact ⟨_, _, _, _, rfl, rfl, e _ _ h1, e _ _ h2, by rw [r1.length, r2.length]; exact line_of h, fun p hp => q _ _ _ (Stp.new e _ hp) (.lst upd_same ((r1.append r2).mono (Ex.new (free_of e hp))))⟩
theorem opd_add {X : Cx} {i j : Int} : OpD X.K (rI0 fun i j => .int (i + j)) (.int i) (.int j) (.int (i + j)) := opd_I0 fun _ => .int _
theorem opd_eqI {X : Cx} {i j : Int} : OpD X.K rEq (.int i) (.int j) (.bool (decide (i = j))) := fun x y B H Q e rx ry q => by
  cases rx
  cases ry
  have e2 : decide (V.int i = V.int j) = decide (i = j) := by simp
  exact ⟨rfl, by rw [e2]; exact q _ B H (Stp.refl e) (.bl _)⟩
def w8 : List PyData := [.str "H", .str "T", .str "S", .str "X", .str "Z", .str "T", .str "H", .str "W"]
def w4 : List PyData := [.str "CX", .str "CZ", .str "CX", .str "CX"]
def wordsS : Nat → List Str
  | 1 => ["H", "T", "S", "X", "Z", "W"]
  | 2 => ["H", "T", "S", "X", "Z", "W", "CX", "CZ"]
  | _ => []
def wsL (n : Nat) : Nat → List (List Nat)
  | 0 => [[]]
  | 1 => (List.range n).map fun i => [i]
  | _ => (List.range n).flatMap fun i => ((List.range n).filter fun j => decide (j ≠ i)).map fun j => [i, j]
def inG (n : Nat) (z : Str) (ws : List Nat) : Bool := (gatesL n).any fun g => decide (g.z = z) && decide (g.ws = ws)
theorem inG_ok {n : Nat} {z : Str} {ws : List Nat} (h : inG n z ws = true) : GOk n ⟨z, ws⟩ := by
  unfold inG at h
  rw [List.any_eq_true] at h
  obtain ⟨g, hg, h⟩ := h
  rw [Bool.and_eq_true, decide_eq_true_eq, decide_eq_true_eq] at h
  obtain ⟨h1, h2⟩ := h
  obtain ⟨z', ws'⟩ := g
  subst h1 h2
  exact hg
theorem gw_all1 : (wordsS 1).all (fun z => decide (gwN z ≤ 1) && (wsL 1 (gwN z)).all fun ws => inG 1 z ws) = true := by decide +kernel
theorem gw_all2 : (wordsS 2).all (fun z => decide (gwN z ≤ 2) && (wsL 2 (gwN z)).all fun ws => inG 2 z ws) = true := by decide +kernel
theorem pick_ws {n : Nat} {fs rest : List PyData} (hp : (fs ++ rest).Perm (upD 0 1 n)) : ∃ ws : List Nat, fs = intsD ws ∧ ws.Nodup ∧ (∀ a ∈ ws, a < n) ∧ ws.length = fs.length := by
  have e : upD 0 1 n = ((List.range n).map fun i : Nat => PyData.int i) := by
    unfold upD
    refine List.map_congr_left fun i _ => ?_
    rw [Int.mul_one, Int.zero_add]
  rw [e] at hp
  have nd : ((List.range n).map fun i : Nat => PyData.int i).Nodup := by
    refine List.Pairwise.map _ (fun a b h => ?_) (List.nodup_range (n := n))
    intro z
    exact h (by have := PyData.int.inj z; omega)
  have nd2 : fs.Nodup := (List.nodup_append.mp (hp.nodup_iff.mpr nd)).1
  have hm : ∀ x ∈ fs, ∃ i : Nat, i < n ∧ x = .int i := fun x hx => by
    have : x ∈ (List.range n).map fun i : Nat => PyData.int i := hp.mem_iff.mp (List.mem_append_left _ hx)
    obtain ⟨i, hi, rfl⟩ := List.mem_map.mp this
    exact ⟨i, List.mem_range.mp hi, rfl⟩
  clear hp
  induction fs with
  | nil => exact ⟨[], rfl, List.nodup_nil, (fun _ h => nomatch h), rfl⟩
  | cons x fs ih =>
    rw [List.nodup_cons] at nd2
    obtain ⟨ws, rfl, h1, h2, h3⟩ := ih nd2.2 fun y hy => hm y (List.mem_cons_of_mem _ hy)
    obtain ⟨i, hi, rfl⟩ := hm x List.mem_cons_self
    refine ⟨i :: ws, rfl, List.nodup_cons.mpr ⟨fun z => nd2.1 (List.mem_map.mpr ⟨i, z, rfl⟩), h1⟩, fun a ha => ?_, by rw [List.length_cons, List.length_cons, h3]⟩
    rcases List.mem_cons.mp ha with rfl | ha
    · exact hi
    · exact h2 a ha
theorem ws_in {n k : Nat} {ws : List Nat} (hk : k ≤ 2) (hl : ws.length = k) (hnd : ws.Nodup) (hlt : ∀ a ∈ ws, a < n) : ws ∈ wsL n k := by
  match ws, hl with
  | [], hl => subst hl; exact List.mem_singleton.mpr rfl
  | [a], hl =>
    subst hl
    exact List.mem_map.mpr ⟨a, List.mem_range.mpr (hlt a (by simp)), rfl⟩
  | [a, b], hl =>
    subst hl
    have hab : b ≠ a := by
      rw [List.nodup_cons] at hnd
      intro z
      exact hnd.1 (by simp [z])
    exact List.mem_flatMap.mpr ⟨a, List.mem_range.mpr (hlt a (by simp)), List.mem_map.mpr ⟨b, List.mem_filter.mpr ⟨List.mem_range.mpr (hlt b (by simp)), decide_eq_true hab⟩, rfl⟩⟩
  | a :: b :: c :: r, hl =>
    simp only [List.length_cons] at hl
    omega
def F_gate (ds : List PyData) (C : Nat) (R : PyData → Prop) : Prop := ∃ N : Nat, ds = [.int N] ∧ (N = 1 ∨ N = 2) ∧ C = 4 ∧ R = fun d => ∃ g : Gate, d = encW g ∧ GOk N g
theorem ok_law_gate (Z : Bi mg) (D_law_of : DefOk P w K mg base "_law_of" ["_law_tin", "_law_goods_so"] 2 (spY K F_of)) (D_law_pick : DefOk P w K mg base "_law_pick" ["_law_tin", "_law_goods_so", "_law_count_so"] 2 (spY K F_pick)) (T : At K mg "_law_gate" s_law_gate ["_law_tin", "_law_n_so"]) : DefOk P w K mg base "_law_gate" ["_law_tin", "_law_n_so"] 3 (spY K F_gate) := by
  refine at_defY T F_gate sc_law_gate (fun ds C R h => by obtain ⟨_, rfl, _⟩ := h; rfl) fun f cdv A outer s' H E hr c ds n C R h hn => ?_
  obtain ⟨N, rfl, hN, rfl, rfl⟩ := h
  refine ds_set (d := .list (w8 ++ (if 1 < N then w4 else []))) 2 (DN.de (dn_bin (de_lst (da_cons de_str (da_cons de_str (da_cons de_str (da_cons de_str (da_cons de_str (da_cons de_str (da_cons de_str (da_cons de_str da_nil))))))))) (de_if (k := decide (1 < (N : Int))) (d := .list (if 1 < N then w4 else [])) (dt_cmp (de_var 1 rfl) de_int c_gt) (fun z => (de_lst (da_cons de_str (da_cons de_str (da_cons de_str (da_cons de_str da_nil))))).is ?_) (fun z => (de_lst da_nil).is ?_)) (b_cat (by split <;> decide)))) ?_ sc_law_gate.nd
  · have z := of_decide_eq_true z
    rw [if_pos (by omega)]; rfl
  · have z := of_decide_eq_false z
    rw [if_neg (by omega)]
  refine ds_set (d := .list (w8 ++ (if 1 < N then w4 else []))) 2 (DE.is (d := .list (w8 ++ (if 1 < N then w4 else []) ++ [])) (DN.de (dn_bin (de_var 2 rfl) (de_ifF (DT.is (dt_cmp (de_var 1 rfl) de_int c_gt) (decide_eq_false (by omega))) (de_lst da_nil)) (b_cat (by rw [List.length_append]; split <;> decide)))) (by rw [List.append_nil])) ?_ sc_law_gate.nd
  refine ds_setY (m := n + 1) (R := fun d => ∃ z : Str, d = .str z ∧ z ∈ wordsS N) 3 (DY.imp (dy_callP D_law_of (hr.mono (by decide)) rfl (da_cons (de_var 2 rfl) da_nil) ⟨_, rfl, by unfold w8; simp, by rw [List.length_append]; split <;> decide, rfl, rfl⟩ (by omega)) fun d hd => ?_) (fun d hd => ?_) sc_law_gate.nd
  · rcases hN with rfl | rfl
    · simp only [w8, w4, List.mem_append, List.mem_cons, List.not_mem_nil, or_false, Nat.lt_irrefl, if_false] at hd
      rcases hd with h | h | h | h | h | h | h | h <;> exact ⟨_, h, by simp [wordsS]⟩
    · have e1 : (if 1 < 2 then w4 else []) = w4 := rfl
      rw [e1] at hd
      simp only [w8, w4, List.mem_append, List.mem_cons, List.not_mem_nil, or_false] at hd
      rcases hd with (h | h | h | h | h | h | h | h) | h | h | h | h <;> exact ⟨_, h, by simp [wordsS]⟩
  · obtain ⟨z, rfl, hz⟩ := hd
    have hg : gwN z ≤ N ∧ ∀ ws ∈ wsL N (gwN z), inG N z ws = true := by
      rcases hN with rfl | rfl
      · have := List.all_eq_true.mp gw_all1 z hz
        rw [Bool.and_eq_true, decide_eq_true_eq, List.all_eq_true] at this
        exact this
      · have := List.all_eq_true.mp gw_all2 z hz
        rw [Bool.and_eq_true, decide_eq_true_eq, List.all_eq_true] at this
        exact this
    refine ds_set 4 (de_getW (Nat.lt_of_le_of_lt (Nat.add_le_add_left (by decide : 1 ≤ 20) _) (hu20 hr)) (de_var 3 rfl) ⟨rfl, rfl, rfl, rfl⟩) ?_ sc_law_gate.nd
    refine ds_retY (R := fun d => ∃ g : Gate, d = encW g ∧ GOk N g) (m := n + 1 + gwN z) (dy_opR op_catA (de_tup (da_cons (de_var 3 rfl) da_nil)) (dy_tupL (R := fun d => ∃ fs rest : List PyData, d = .tuple fs ∧ fs.length = min (gwN z) (upD 0 1 N).length ∧ (fs ++ rest).Perm (upD 0 1 N)) Z.tuple (dy_callP D_law_pick (hr.mono (by decide)) rfl (da_cons (dn_listRg Z.list Z.range (de_var 1 rfl) (by omega)).de (da_cons (de_var 4 rfl) da_nil)) ⟨upD 0 1 N, gwN z, rfl, by rw [upD_len]; omega, by omega, rfl, rfl⟩ (by omega)) fun d hd => ?_) fun d hd => ?_) fun d hd => ⟨hd, n + 1 + gwN z, rfl, by omega⟩
    · obtain ⟨fs, rest, rfl, h⟩ := hd
      exact ⟨fs, rfl, fs, rest, rfl, h⟩
    · obtain ⟨fs, rest, rfl, hl, hp⟩ := hd
      obtain ⟨ws, rfl, h1, h2, h3⟩ := pick_ws hp
      rw [upD_len, Nat.min_eq_left hg.1] at hl
      exact ⟨_, ⟨⟨z, ws⟩, rfl, inG_ok (hg.2 ws (ws_in (by omega) (by omega) h1 h2))⟩, opd_catT (xs := [.str z]) (by simp; omega)⟩
theorem all_encW : ∀ {ds : List PyData} {N : Nat}, (∀ d ∈ ds, ∃ g : Gate, d = encW g ∧ GOk N g) → ∃ gs : List Gate, ds = gs.map encW ∧ (∀ g ∈ gs, GOk N g) ∧ gs.length = ds.length
  | [], _, _ => ⟨[], rfl, (fun _ h => nomatch h), rfl⟩
  | d :: ds, N, h => by
    obtain ⟨g, rfl, hg⟩ := h d List.mem_cons_self
    obtain ⟨gs, rfl, hk, hl⟩ := all_encW fun x hx => h x (List.mem_cons_of_mem _ hx)
    refine ⟨g :: gs, rfl, fun x hx => ?_, by rw [List.length_cons, List.length_cons, hl]⟩
    rcases List.mem_cons.mp hx with rfl | hx
    · exact hg
    · exact hk x hx
def F_circuit (ds : List PyData) (C : Nat) (R : PyData → Prop) : Prop := ∃ N M : Nat, ds = [.int N, .int M] ∧ (N = 1 ∨ N = 2) ∧ 1 ≤ M ∧ M ≤ 3 ∧ M * 4 ≤ C ∧ R = fun d => ∃ gs : List Gate, d = encC N gs ∧ (∀ g ∈ gs, GOk N g) ∧ gs.length = M
theorem ok_law_circuit (Z : Bi mg) (D_law_gate : DefOk P w K mg base "_law_gate" ["_law_tin", "_law_n_so"] 3 (spY K F_gate)) (T : At K mg "_law_circuit" s_law_circuit ["_law_tin", "_law_n_so", "_law_many_so"]) : DefOk P w K mg base "_law_circuit" ["_law_tin", "_law_n_so", "_law_many_so"] 4 (spY K F_circuit) := by
  refine at_defY T F_circuit sc_law_circuit (fun ds C R h => by obtain ⟨_, _, rfl, _⟩ := h; rfl) fun f cdv A outer s' H E hr c ds n C R h hn => ?_
  obtain ⟨N, M, rfl, h2, hM1, hM, hC, rfl⟩ := h
  refine ds_retY (R := fun d => ∃ gs : List Gate, d = encC N gs ∧ (∀ g ∈ gs, GOk N g) ∧ gs.length = M) (m := n + M * 4) (dy_tup (Rs := fun ds => ∃ gs : List Gate, ds = [.int N, encWs gs] ∧ (∀ g ∈ gs, GOk N g) ∧ gs.length = M) (dya_de (de_var 1 rfl) (dya_cons (R1 := fun d => ∃ gs : List Gate, d = encWs gs ∧ (∀ g ∈ gs, GOk N g) ∧ gs.length = M) (dy_tupL (R1 := fun d => ∃ ds : List PyData, d = .list ds ∧ ds.length = M ∧ ∀ d ∈ ds, ∃ g : Gate, d = encW g ∧ GOk N g) Z.tuple (dy_lc (own := [("_law_lap", 3)]) (n := n) (C := 4) (P2 := fun d => ∃ g : Gate, d = encW g ∧ GOk N g) rfl sc_law_circuit.nd (blkOk_by (N := N_law_circuit) (sc := defScope s_law_circuit) (by decide +kernel)) (di_rng1 Z.range (de_var 2 rfl) (by walk_at "side") (by walk_at "side")) (by rw [upD_len]; omega)
    (fun i x => [.tin (n + i * 4), .d (.int N), .d (.int M), .d x]) [3] (fun i x => ⟨_, rfl⟩) (fun i x hi s' H' C cl fp => ⟨dg_name 3 sc_law_circuit.nd, ?_⟩) (fun ds hl hd => ⟨ds, rfl, by rw [hl, upD_len]; omega, hd⟩) (by rw [upD_len, Int.toNat_natCast])) fun d hd => ?_) fun d hd => ?_)) fun ds hds => ?_) fun d hd => ⟨hd, n + M * 4, rfl, by omega⟩
  · obtain ⟨hi, rfl⟩ := up_at hi
    have hi : i < M := by omega
    rw [show n + (i + 1) * 4 = n + i * 4 + 4 by omega]
    exact dy_callP D_law_gate (hr.mono (by decide)) rfl (da_cons (de_var 1 rfl) da_nil) ⟨N, rfl, h2, rfl, rfl⟩ (by omega)
  · obtain ⟨ds, rfl, hl, hd⟩ := hd
    obtain ⟨gs, rfl, hk, hl2⟩ := all_encW hd
    exact ⟨_, rfl, gs, rfl, hk, by omega⟩
  · obtain ⟨gs, rfl, hk, hl⟩ := hd
    exact dya_nil ⟨gs, rfl, hk, hl⟩
  · obtain ⟨gs, rfl, hk, hl⟩ := hds
    exact ⟨⟨gs, rfl, hk, hl⟩, by simp⟩
end
end DD
/-! T13: still deeds, drawn deeds -/
namespace DD
open PySem PySem.Spec L2
open PyProof.Rows hiding St
local macro_rules | `(tactic| walk_at "side") => `(tactic| first | exact Nat.le_of_ble_eq_true rfl | assumption | omega | decide | rfl | (simp; done) | (simp; omega))
section
variable {P : Program} {w : World} {K : PySem.W.Frag} {mg : Str → Option Value} {base : Heap}
theorem ds_ifYc {X : Cx} {c : Wd} {ρ : List Sl} {a b : Expr} {db : PyData} {pos p : Pos} {m : Nat} {R1 : PyData → Prop} {rest : List Stmt} {E : EndsD} {op : CmpOp} {r : R2} {A Bs : List Stmt} (M : List Sl → Prop) (ho : OpR X (compareOp op) r) (ha : DY X c ρ a m R1) (hb : DE X c (retin m ρ) b db) (h : ∀ da, R1 da → ∃ k : Bool, OpD X.K r da db (.bool k)) (h1 : DS X c (retin m ρ) A (E.then M)) (h2 : DS X c (retin m ρ) Bs (E.then M)) (k3 : ∀ ρ', M ρ' → DS X c ρ' rest E)
    (hm : behindInMarks op b = false := by first | exact nomark _ | rfl) : DS X c ρ (.If (.Compare a [op] [b] p) A Bs pos :: rest) E :=
  ds_of (pss_cons (ps_if (pt_cmpR ho (pe_w X) (pe_w X) hm) (pss_w X) (pss_w X)) (pss_w X)) fun σ B H S D q => ha σ B H S _ fun x B1 H1 da hda y1 S1 r1 => hb σ B1 H1 S1 _ fun y B2 H2 s2 r2 => by
    obtain ⟨k, hop⟩ := h da hda
    refine hop x y B2 H2 _ s2.bh (r1.mono s2.b) r2 fun v B3 H3 s3 r3 => ?_
    cases r3
    have S3 := (S1.stp s2).stp s3
    have e3 := (y1.b.trans s2.b).trans s3.b
    have q2 : EndsOk X.pr c B3 (E.then M) { D with nx := wSs X rest D } := (q.up e3).then fun ρ' σ' B' H' m e' S' => k3 ρ' m σ' B' H' S' D ((q.up e3).up e')
    refine ⟨k, rfl, ?_⟩
    cases k with
    | true => exact iteT (h1 σ B3 H3 S3 _ q2)
    | false => exact iteF (h2 σ B3 H3 S3 _ q2)
def dl (p q : Nat) : Fin 4 → Deed
  | 0 => .turn p
  | 1 => .turn q
  | 2 => .swap p q
  | 3 => .mix p q
def goods1 : List (List (Fin 4)) := [[3, 3], [2, 2], [2, 0, 2, 1, 1, 1, 1, 1, 1, 1], [3, 0, 1, 0, 1, 0, 1, 0, 1, 3, 0, 1, 0, 1, 0, 1, 0, 1]]
def goods2 : List (List (Fin 4)) := [[0, 1, 0, 1, 0, 1, 0, 1, 0, 1, 0, 1, 0, 1, 0, 1], [2, 3, 2, 3, 2, 3, 2, 3, 2, 3, 2, 3, 2, 3, 2, 3], [0, 0, 0, 0, 0, 0, 0, 0], [1, 0, 1, 1, 1, 1, 1, 1, 1, 0, 0, 0, 0, 0, 0, 0]]
def goods3 : List (List (Fin 4)) := [[3, 1, 1, 1, 1, 3, 2]]
def gEnc (p q : Nat) (l : List (List (Fin 4))) : List PyData := l.map fun g => encGs (g.map (dl p q))
theorem goods_len : (goods1 ++ goods2 ++ goods3).all (fun g => decide (g.length ≤ 18)) = true := by decide +kernel
theorem dl_ok {p q N : Nat} (h : p < q) (h2 : q < N) : ∀ x : Fin 4, (dl p q x).ok N = true
  | 0 => decide_eq_true (by omega)
  | 1 => decide_eq_true h2
  | 2 => by show (decide (p < q) && decide (q < N)) = true; rw [decide_eq_true h, decide_eq_true h2]; rfl
  | 3 => by show (decide (p < q) && decide (q < N)) = true; rw [decide_eq_true h, decide_eq_true h2]; rfl
theorem goods_ok {p q N : Nat} (h : p < q) (h2 : q < N) {d : PyData} (hd : d ∈ gEnc p q (goods1 ++ goods2 ++ goods3)) : ∃ gs : List Deed, d = encGs gs ∧ kw gs N ∧ gs.length ≤ 18 := by
  obtain ⟨g, hg, rfl⟩ := List.mem_map.mp hd
  refine ⟨_, rfl, fun x hx => ?_, ?_⟩
  · obtain ⟨y, _, rfl⟩ := List.mem_map.mp hx
    exact dl_ok h h2 y
  · rw [List.length_map]
    exact of_decide_eq_true (List.all_eq_true.mp goods_len g hg)
def F_still (ds : List PyData) (C : Nat) (R : PyData → Prop) : Prop := ∃ N : Nat, ds = [.int N] ∧ 2 ≤ N ∧ N ≤ 1000 ∧ C = 3 ∧ R = fun d => ∃ gs : List Deed, d = encGs gs ∧ kw gs N ∧ gs.length ≤ 18
theorem ok_law_still (Z : Bi mg) (D_law_of : DefOk P w K mg base "_law_of" ["_law_tin", "_law_goods_so"] 2 (spY K F_of)) (D_law_pick : DefOk P w K mg base "_law_pick" ["_law_tin", "_law_goods_so", "_law_count_so"] 2 (spY K F_pick)) (T : At K mg "_law_still" s_law_still ["_law_tin", "_law_size"]) : DefOk P w K mg base "_law_still" ["_law_tin", "_law_size"] 3 (spY K F_still) := by
  refine at_defY T F_still sc_law_still (fun ds C R h => by obtain ⟨_, rfl, _⟩ := h; rfl) fun f cdv A outer s' H E hr c ds n C R h hn => ?_
  obtain ⟨N, rfl, h2, hN, rfl, rfl⟩ := h
  refine ds_unpY (m := n + 2) (R := fun d => ∃ p q : Nat, d = .list [.int p, .int q] ∧ p < q ∧ q < N) (dy_sorted Z.sorted (dy_callP D_law_pick (hr.mono (by decide)) rfl (da_cons (dn_listRg Z.list Z.range (de_var 1 rfl) (by omega)).de (da_cons de_int da_nil)) ⟨upD 0 1 N, 2, rfl, by rw [upD_len]; exact hN, by decide, rfl, rfl⟩ (by omega)) fun d hd => ?_) (fun d hd => ?_)
  · obtain ⟨fs, rest, rfl, hfl, hp⟩ := hd
    obtain ⟨ns, rfl, h⟩ := two_of h2 hfl hp
    refine ⟨ns, rfl, fun ms h1 h3 => ?_⟩
    obtain ⟨p, q, rfl, hpq, hq⟩ := h ms h1 h3
    exact ⟨p, q, rfl, hpq, hq⟩
  · obtain ⟨p, q, rfl, hpq, hq⟩ := hd
    refine ⟨_, _, dg_unl rfl (dgs_cons (dg_name 2 sc_law_still.nd) (dgs_cons (dg_name 3 sc_law_still.nd) dgs_nil)), ?_⟩
    refine ds_unp (de_tup (da_cons (de_tup (da_cons de_str (da_cons (de_var 2 rfl) da_nil))) (da_cons (de_tup (da_cons de_str (da_cons (de_var 3 rfl) da_nil))) (da_cons (de_tup (da_cons de_str (da_cons (de_var 2 rfl) (da_cons (de_var 3 rfl) da_nil)))) (da_cons (de_tup (da_cons de_str (da_cons (de_var 2 rfl) (da_cons (de_var 3 rfl) da_nil)))) da_nil))))) (dg_tup rfl (dgs_cons (dg_name 4 sc_law_still.nd) (dgs_cons (dg_name 5 sc_law_still.nd) (dgs_cons (dg_name 6 sc_law_still.nd) (dgs_cons (dg_name 7 sc_law_still.nd) dgs_nil))))) ?_
    refine ds_set (d := .list (gEnc p q goods1)) 8 (DE.is (de_lst (da_cons (de_tup (da_cons (de_var 7 rfl) (da_cons (de_var 7 rfl) da_nil))) (da_cons (de_tup (da_cons (de_var 6 rfl) (da_cons (de_var 6 rfl) da_nil))) (da_cons (de_bin (de_tup (da_cons (de_var 6 rfl) (da_cons (de_var 4 rfl) (da_cons (de_var 6 rfl) da_nil)))) (de_bin (de_tup (da_cons (de_var 5 rfl) da_nil)) de_int (b_repT (by walk_at "side") (by walk_at "side") (by walk_at "side") (by walk_at "side"))) (b_catT (by walk_at "side"))) (da_cons (de_bin (de_bin (de_bin (de_tup (da_cons (de_var 7 rfl) da_nil)) (de_bin (de_tup (da_cons (de_var 4 rfl) (da_cons (de_var 5 rfl) da_nil))) de_int (b_repT (by walk_at "side") (by walk_at "side") (by walk_at "side") (by walk_at "side"))) (b_catT (by walk_at "side"))) (de_tup (da_cons (de_var 7 rfl) da_nil)) (b_catT (by walk_at "side"))) (de_bin (de_tup (da_cons (de_var 4 rfl) (da_cons (de_var 5 rfl) da_nil))) de_int (b_repT (by walk_at "side") (by walk_at "side") (by walk_at "side") (by walk_at "side"))) (b_catT (by walk_at "side"))) da_nil))))) rfl) ?_ sc_law_still.nd
    refine ds_set (d := .list (gEnc p q (goods1 ++ goods2))) 8 (DE.is (dn_bin (de_var 8 rfl) (de_lst (da_cons (de_bin (de_tup (da_cons (de_var 4 rfl) (da_cons (de_var 5 rfl) da_nil))) de_int (b_repT (by walk_at "side") (by walk_at "side") (by walk_at "side") (by walk_at "side"))) (da_cons (de_bin (de_tup (da_cons (de_var 6 rfl) (da_cons (de_var 7 rfl) (da_cons (de_var 6 rfl) (da_cons (de_var 7 rfl) da_nil))))) (de_bin (de_tup (da_cons (de_var 6 rfl) (da_cons (de_var 7 rfl) (da_cons (de_var 6 rfl) (da_cons (de_var 7 rfl) da_nil))))) de_int (b_repT (by walk_at "side") (by walk_at "side") (by walk_at "side") (by walk_at "side"))) (b_catT (by walk_at "side"))) (da_cons (de_bin (de_tup (da_cons (de_var 4 rfl) da_nil)) de_int (b_repT (by walk_at "side") (by walk_at "side") (by walk_at "side") (by walk_at "side"))) (da_cons (de_bin (de_bin (de_tup (da_cons (de_var 5 rfl) (da_cons (de_var 4 rfl) da_nil))) (de_bin (de_tup (da_cons (de_var 5 rfl) da_nil)) de_int (b_repT (by walk_at "side") (by walk_at "side") (by walk_at "side") (by walk_at "side"))) (b_catT (by walk_at "side"))) (de_bin (de_tup (da_cons (de_var 4 rfl) da_nil)) de_int (b_repT (by walk_at "side") (by walk_at "side") (by walk_at "side") (by walk_at "side"))) (b_catT (by walk_at "side"))) da_nil))))) (b_cat (by walk_at "side"))).de rfl) ?_ sc_law_still.nd
    refine ds_retY (R := fun d => ∃ gs : List Deed, d = encGs gs ∧ kw gs N ∧ gs.length ≤ 18) (m := n + 2 + 1) (DY.imp (dy_callP D_law_of (hr.mono (by decide)) rfl (da_cons (d := .list (gEnc p q (goods1 ++ goods2 ++ goods3))) (DE.is (dn_bin (de_var 8 rfl) (de_lst (da_cons (de_bin (de_bin (de_tup (da_cons (de_var 7 rfl) da_nil)) (de_bin (de_tup (da_cons (de_var 5 rfl) da_nil)) de_int (b_repT (by walk_at "side") (by walk_at "side") (by walk_at "side") (by walk_at "side"))) (b_catT (by walk_at "side"))) (de_tup (da_cons (de_var 7 rfl) (da_cons (de_var 6 rfl) da_nil))) (b_catT (by walk_at "side"))) da_nil)) (b_cat (by walk_at "side"))).de rfl) da_nil) ⟨_, rfl, by simp [gEnc, goods1], by simp [gEnc, goods1, goods2, goods3], rfl, rfl⟩ (by omega)) fun d hd => goods_ok hpq hq hd) fun d hd => ⟨hd, n + 2 + 1, rfl, by omega⟩
/-! drawn -/
def F_drawn (ds : List PyData) (C : Nat) (R : PyData → Prop) : Prop := ∃ N : Nat, ds = [.int N] ∧ 2 ≤ N ∧ N ≤ 1000 ∧ C = 28 ∧ R = fun d => ∃ gs : List Deed, d = encGs gs ∧ kw gs N ∧ gs.length ≤ 40
theorem cut_last (gs : List Deed) : cutD (gs.map encG) none (some (-1)) = (gs.take (gs.length - 1)).map encG := by
  unfold cutD
  rw [HT.sIx_none, List.length_map, List.drop_zero, Nat.sub_zero, List.map_take]
  have e : HT.sIx gs.length gs.length (some (-1)) = gs.length - 1 := by
    show (if (-1 : Int) < 0 then ((-1 : Int) + (gs.length : Int)).toNat else min (-1 : Int).toNat gs.length) = _
    rw [if_pos (by decide)]
    omega
  rw [e]
theorem ok_law_drawn (Z : Bi mg) (D_law_take : DefOk P w K mg base "_law_take" ["_law_tin", "_law_below_so"] 1 (spY K F_take)) (D_law_deeds : DefOk P w K mg base "_law_deeds" ["_law_tin", "_law_size_so", "_law_many_so"] 4 (spY K F_deeds)) (D_law_still : DefOk P w K mg base "_law_still" ["_law_tin", "_law_size"] 3 (spY K F_still)) (T : At K mg "_law_drawn" s_law_drawn ["_law_tin", "_law_size"]) :
    DefOk P w K mg base "_law_drawn" ["_law_tin", "_law_size"] 5 (spY K F_drawn) := by
  refine at_defY T F_drawn sc_law_drawn (fun ds C R h => by obtain ⟨_, rfl, _⟩ := h; rfl) fun f cdv A outer s' H E hr c ds n C R h hn => ?_
  obtain ⟨N, rfl, h2, hN, rfl, rfl⟩ := h
  refine ds_setY (m := n + 1 + 16) (R := fun d => ∃ gs : List Deed, d = encGs gs ∧ kw gs N ∧ gs.length ≤ 4) 2 (dy_call (Rs := fun ds => ∃ M : Nat, ds = [.int N, .int M] ∧ 1 ≤ M ∧ M ≤ 4) (C := 16) D_law_deeds (hr.mono (by decide)) rfl (hle := Nat.le_succ n) (ha := dya_de (de_var 1 rfl) (dya_cons (R1 := fun d => ∃ M : Nat, d = .int M ∧ 1 ≤ M ∧ M ≤ 4) (dy_opR op_add de_int (dy_callP D_law_take (hr.mono (by decide)) rfl (da_cons de_int da_nil) ⟨4, rfl, by omega, by omega, rfl, rfl⟩ (by omega)) fun d hd => ?_) fun d hd => ?_)) (h := fun ds hds => ?_) (hC := by omega)) (fun d hd => ?_) sc_law_drawn.nd
  · obtain ⟨i, rfl, hi⟩ := hd
    exact ⟨_, ⟨1 + i, by rw [show (1 : Int) + (i : Int) = ((1 + i : Nat) : Int) by omega], by omega, by omega⟩, opd_add⟩
  · obtain ⟨M, rfl, h1, h4⟩ := hd
    exact dya_nil ⟨M, rfl, h1, h4⟩
  · obtain ⟨M, rfl, h1, h4⟩ := hds
    refine ⟨_, ⟨N, M, rfl, h2, hN, by omega, by omega, rfl⟩, fun d hd => ?_⟩
    obtain ⟨gs, rfl, hk, hl⟩ := hd
    exact ⟨gs, rfl, hk, by omega⟩
  · obtain ⟨gs, rfl, hk, hl⟩ := hd
    refine ds_forY (m := n + 18) (R1 := fun d => ∃ i : Nat, d = .int i ∧ i ≤ 2) Z.range (dy_opR op_add de_int (dy_intB (R := fun d => ∃ i : Nat, d = .int i ∧ i ≤ 1) Z.int (dy_cmpL (R := fun d => ∃ k : Bool, d = .bool k) op_eq (dy_callP (C := 1) D_law_take (hr.mono (by decide)) rfl (da_cons de_int da_nil) ⟨4, rfl, by omega, by omega, rfl, rfl⟩ (by omega)) de_int fun d hd => ?_) fun d hd => ?_) fun d hd => ?_) fun d hd => ?_
    · obtain ⟨i, rfl, hi⟩ := hd
      exact ⟨_, ⟨_, rfl⟩, opd_eqI⟩
    · obtain ⟨k, rfl⟩ := hd
      exact ⟨k, rfl, (if k = true then 1 else 0), by cases k <;> rfl, by cases k <;> decide⟩
    · obtain ⟨i, rfl, hi⟩ := hd
      exact ⟨_, ⟨1 + i, by rw [show (1 : Int) + (i : Int) = ((1 + i : Nat) : Int) by omega], by omega⟩, opd_add⟩
    · obtain ⟨i, rfl, hi⟩ := hd
      refine ⟨i, rfl, by omega, fun k ρ' => k ≤ 2 ∧ ∃ (gs : List Deed) (x y z : Sl), ρ' = [.tin (n + 18 + k * 5), .d (.int N), .d (encGs gs), x, y, z] ∧ kw gs N ∧ gs.length ≤ 4 + 18 * k, ⟨by omega, gs, .no, .no, .no, rfl, hk, by omega⟩, fun k ρ1 hki hI => ?_, fun ρ1 hI => ?_⟩
      · obtain ⟨_, gs, x, y, z, rfl, hk, hl⟩ := hI
        refine ⟨_, _, dg_name 3 sc_law_drawn.nd, ds_forget 4 (ds_forget 5 ?_)⟩
        refine ds_parY (m := n + 18 + k * 5 + 1 + 3) (Rs := fun ds => ∃ (j : Nat) (hs : List Deed), ds = [.int j, encGs hs] ∧ j ≤ gs.length ∧ kw hs N ∧ hs.length ≤ 18) 4 5 (dya_cons (dy_callP D_law_take (hr.mono (by decide)) rfl (da_cons (de_bin (de_lenT Z.len (de_var 2 rfl)) de_int b_add) da_nil) ⟨gs.length + 1, by rw [List.length_map]; rfl, by omega, by omega, rfl, rfl⟩ (by omega)) fun d hd => dya_cons (dy_callP D_law_still (hr.mono (by decide)) rfl (da_cons (de_var 1 rfl) da_nil) ⟨N, rfl, h2, hN, rfl, rfl⟩ (by omega)) fun d2 hd2 => ?_) (fun ds hds => ?_) sc_law_drawn.nd rfl
        · obtain ⟨j, rfl, hj⟩ := hd
          obtain ⟨hs, rfl, h1, h3⟩ := hd2
          exact dya_nil ⟨j, hs, rfl, by omega, h1, h3⟩
        · obtain ⟨j, hs, rfl, hj, h1, h3⟩ := hds
          refine ⟨_, _, rfl, ?_⟩
          refine ds_ifYc (m := n + 18 + k * 5 + 1 + 3 + 1) (fun ρ' => ∃ hs : List Deed, ρ' = [.tin (n + 18 + k * 5 + 1 + 3 + 1), .d (.int N), .d (encGs gs), .d (.int k), .d (.int j), .d (encGs hs)] ∧ kw hs N ∧ hs.length ≤ 18) op_eq (dy_callP (C := 1) D_law_take (hr.mono (by decide)) rfl (da_cons de_int da_nil) ⟨4, rfl, by omega, by omega, rfl, rfl⟩ (by omega)) de_int (fun d hd => ?_) ?_ (ds_nil ⟨hs, rfl, h1, h3⟩) fun ρ' hρ => ?_
          · obtain ⟨i, rfl, hi⟩ := hd
            exact ⟨_, opd_eqI⟩
          · refine ds_set (d := encGs (hs.take (hs.length - 1))) 5 (DE.is (de_slT (de_var 5 rfl) do_none (do_some (de_neg de_int))) (by rw [cut_last]; rfl)) (ds_nil ⟨hs.take (hs.length - 1), rfl, kw_sub (List.take_sublist _ _) h1, by rw [List.length_take]; omega⟩) sc_law_drawn.nd
          · obtain ⟨hs, rfl, h1, h3⟩ := hρ
            have c1 : cutD (gs.map encG) none (some (j : Int)) = (gs.take j).map encG := by rw [cut_lo _ _ (by rw [List.length_map]; omega), List.map_take]
            have c2 : cutD (gs.map encG) (some (j : Int)) none = (gs.drop j).map encG := by rw [cut_hi _ _ (by rw [List.length_map]; omega), List.map_drop]
            refine ds_set (d := encGs (gs.take j ++ hs ++ gs.drop j)) 2 (DE.is (de_bin (de_bin (de_slT (de_var 2 rfl) do_none (do_some (de_var 4 rfl))) (de_var 5 rfl) (b_catT (by rw [c1, List.length_map, List.length_map, List.length_take]; omega))) (de_slT (de_var 2 rfl) (do_some (de_var 4 rfl)) do_none) (b_catT (by rw [c1, c2, List.length_append, List.length_map, List.length_map, List.length_map, List.length_take, List.length_drop]; omega))) ?_) (ds_nil ⟨by omega, gs.take j ++ hs ++ gs.drop j, .d (.int k), .d (.int j), .d (encGs hs), ?_, ?_, ?_⟩) sc_law_drawn.nd
            · rw [c1, c2, ← List.map_append, ← List.map_append]
              rfl
            · rw [show n + 18 + (k + 1) * 5 = n + 18 + k * 5 + 1 + 3 + 1 by omega]
              rfl
            · intro g hg
              rcases List.mem_append.mp hg with q | q
              · rcases List.mem_append.mp q with q | q
                · exact hk g (List.mem_of_mem_take q)
                · exact h1 g q
              · exact hk g (List.mem_of_mem_drop q)
            · rw [List.length_append, List.length_append, List.length_take, List.length_drop]; omega
      · obtain ⟨_, gs, x, y, z, rfl, hk, hl⟩ := hI
        exact ds_ret (de_var 2 rfl) ⟨⟨gs, rfl, hk, by omega⟩, n + 18 + i * 5, rfl, by omega⟩
end
end DD
/-! EX1: NoPlace, a LookupError with a field of its own: made, raised, read. -/
namespace PySem
namespace NPX
open PySem.W PySem.Calls PyProof.Rows PySem.HandSPX L2
/-- what the written part says of NoPlace, at C, and of its __init__, at fI -/
structure NpTxt (K : Frag) (mg : Str → Option Value) (C fI : Addr) : Prop where
  gC : mg "NoPlace" = some (.ref C)
  cls : ∃ nm q N bs bm sn sub ab col dd k0 k1 k2 k3 k5, K.lookup C = some (excClassObj nm q C N bs bm true sn sub ab col dd k0 k1 k2 k3 k5 "LookupError.__new__") ∧ ∀ X : String, bm.contains (.type X) = leBase.contains (.type X)
  over : excOver K C leBase = true
  sa : findIn K (.ref C) "__setattr__" = some (some (.builtin "object.__setattr__"))
  ga : findIn K (.ref C) "__getattribute__" = some (some (.builtin "BaseException.__getattribute__"))
  gg : findIn K (.ref C) "__getattr__" = some none
  noN : findIn K (.ref C) "number" = some none
  iC : findIn K (.ref C) "__init__" = some (some (.ref fI))
  tC : typeIn K (.ref fI) = some (.type "function")
  kC : keepIn K (.ref C) = true
  exC : subIn K (.ref C) (.type "BaseException") = some true
  tyC : typeIn K (.ref C) = some (.type "type")
  hdC : hasDictIn K C = true
  te : exmOne K (.ref C) (.ref C) = some true
  fn : ∃ (oc : Value) (od : Option Addr) (kV doc pm : Value) (an : Option Addr) (cdv ct : Value) (osl : Array (Option Value)),
    K.lookup fI = some ⟨oc, od, .func (fnOf "__init__" "NoPlace.__init__" (defArgs DD.s_np) (defBody DD.s_np) (defScope DD.s_np) .none kV doc pm an cdv ct), osl⟩ ∧ codeIn K cdv "NoPlace.__init__" = true
theorem one_size (v : Value) : [v].length ≤ sizeLine := by
  rw [sizeLine_eq]
  exact (by decide : 1 ≤ 16777216)
theorem ldC {M : Model} {s : Shared} {name : Str} {scope : Scope} {L a : Addr} {cd : Value} {m : Str → Option Value} {x : Str} {pos : Pos} {v : Value} {Q : Value → Shared → Prop} {A : Around} {E : Value → Shared → Prop} (hn : s.heap.Ns L m) (hv : m x = some v) (h : Q v s)
    (hk : scope.kind = .function := by rfl) (hl : (envOfC name scope L a cd).kindOf x = some .local := by rfl) (hd : (x == ("__debug__" : Str)) = false := by decide) :
    wpAny M A (eval (.Name x pos) (envOfC name scope L a cd)) Q E s := wpAny_Name (wpAny_loadName_local hk hl hn hv h) hd
/-- what __init__ leaves of a fresh exception at x -/
structure InitEnd (h h' : Heap) (x C dx t1 : Addr) (v : Value) : Prop where
  keep : ∀ b o, b ≠ x → h.get? b = some o → h'.get? b = some o
  obj : h'.get? x = some { cls := .ref C, dict := some dx, data := .fields #[.ref t1, .none, .none, .none, .bool false, .none] }
  dbig : h.objs.size ≤ dx
  dne : dx ≠ x
  ns : h'.Ns1 dx (fun y => if y = "number" then some v else none)
structure OwnMade (h h' : Heap) (e C d : Addr) (v : Value) : Prop where
  keep : ∀ b o, h.get? b = some o → h'.get? b = some o
  new : h.objs.size ≤ e
  obj : ∃ oe vs, h'.get? e = some oe ∧ oe.cls = .ref C ∧ oe.dict = some d ∧ oe.data = .fields vs ∧ vs[1]? = some .none
  dbig : h.objs.size ≤ d
  dne : d ≠ e
  ns : h'.Ns1 d (fun y => if y = "number" then some v else none)
section
open Builtin Builtin.ObjectAttr
variable {prog : Program} {w : World} {A : Around} {R : Result → Shared → Prop} {hp : Heap} {g : Array GenState} {d : Drawn} {t : Nat} {os : OsState}
theorem np_osa {K : W.Frag} {name : Str} {tk : Tok} {v : Value} {x C : Addr} {fv : Array Value} {cd : ClassData}
    (X : K.In hp) (hx : hp.get? x = some { cls := .ref C, data := .fields fv }) (hcd : W.clsIn K C = some cd) (ho : excOver K C leBase = true) (hh : cd.hasDict = true) (ha : W.findIn K (.ref C) name = some none)
    (hq : ∀ h' tk' dx, (∀ b o, b ≠ x → hp.get? b = some o → h'.get? b = some o) → hp.objs.size ≤ dx → dx ≠ x → h'.get? x = some { cls := .ref C, dict := some dx, data := .fields fv } →
      h'.Ns1 dx (fun y => if y = name then some v else none) → R (.ok (.ret .none)) ⟨h', g, d, tk', os⟩) :
    codeAny (model prog w) A (.call (.builtin "object.__setattr__") ⟨[.ref x, .str name tk, v], []⟩) R ⟨hp, g, d, t, os⟩ := by
  have I : W.InstAt hp x { cls := .ref C, data := .fields fv } C none := ⟨hx, rfl, rfl, trivial⟩
  have hxs : x ≠ hp.objs.size := Nat.ne_of_lt (Heap.lt_size hx)
  have hcls : W.Looks (model prog w) hp (classData C) cd := W.looks_clsIn X hcd
  refine osa_openX (s := ⟨hp, g, d, t, os⟩) F.store_LookupError X I ho (by unfold takerIn; rw [ha]; rfl) fun b => ?_
  show wpAny _ _ (storeInOwnDict (.ref x) (.ref C) (.str name tk) name v b) _ _ _
  obtain ⟨nm, bs, mro, ns, qn, hd, sn, sb, ab, col, del⟩ := cd
  dsimp only at hh
  subst hh
  unfold storeInOwnDict ownDictForStores
  repeat (first | with_reducible refine store_in_new ?_ ?_ | with_reducible refine wpAny_loadPart_at hx ?_ | with_reducible refine hcls.at ?_ | wp_step)
  · exact ⟨_, #[], _, (Heap.get?_update_ne _ _ _ _ hxs.symm).trans (Heap.get?_push_at rfl rfl), rfl, fun e he => absurd he (by simp), fun _ => rfl⟩
  · intro h' tk' hn' hs
    have hx₁ : (hp.push { cls := .type "dict", data := .dict #[] }).get? x = some { cls := .ref C, data := .fields fv } := Heap.get?_push_of_some _ hx
    refine hq h' tk' hp.objs.size (fun b o hb ho => ?_) (Nat.le_refl _) hxs.symm ?_ hn'
    · exact (hs.2 b (Nat.ne_of_lt (Heap.lt_size ho))).trans ((Heap.get?_update_ne _ _ _ _ hb).trans (Heap.get?_push_of_some _ ho))
    · exact (hs.2 x hxs).trans (Heap.get?_update_self _ hx₁ rfl)
end
section
variable {prog : Program} {w : World} {A : Around} {E : Value → Shared → Prop} {R : Result → Shared → Prop} {s : Shared} {K : Frag} {mg : Str → Option Value} {C fI : Addr}
theorem np_over (T : NpTxt K mg C fI) : excOver K C leBase = true := T.over
theorem np_init (T : NpTxt K mg C fI) {x t0 : Addr} {v : Value} (X : K.In s.heap) (hlim : s.heap.NoLimit) (hx : s.heap.get? x = some (excO C t0)) (hnx : K.lookup x = none) (hroom : A.depth < recursionLimit)
    (hq : ∀ h' tk dx, InitEnd s.heap h' x C dx t0 v → R (.ok (.ret .none)) { s with heap := h', toks := tk }) :
    codeAny (model prog w) A (.call (.ref fI) ⟨[.ref x, v], []⟩) R s := by
  obtain ⟨oc, od, kV, doc, pm, an, cdv, ct, osl, ho, hcd⟩ := T.fn
  have hov := np_over T
  obtain ⟨nm, q, N, bs, bm, sn, sub, ab, col, dd, k0, k1, k2, k3, k5, hC, hbm⟩ := T.cls
  have hcl : clsIn K C = some { name := nm, bases := bs, mro := .ref C :: bm, ns := N, qualname := q, hasDict := true, slotNames := sn, subclasses := sub, abstract := ab, collection := col, hasDel := false } := by unfold clsIn; rw [hC] <;> rfl
  refine Att.call_fn (binds := [("self", .ref x), ("number", v)]) X hlim ho hcd hroom (BindsTo.of_eq (by first | rfl | with_unfolding_all rfl)) (by first | rfl | decide | with_unfolding_all rfl) (fun s₁ IC => ?_) rfl rfl rfl
  obtain ⟨h₁, tk₁, rfl⟩ := IC.toInCall.same
  have k : ∀ b o, s.heap.get? b = some o → h₁.get? b = some o := IC.toInCall.keep
  have hn := IC.toInCall.ns
  have hxL : s.heap.objs.size ≠ x := Nat.ne_of_gt (Heap.lt_size hx)
  have X₁ : K.In h₁ := X.keeps k
  have hx₁ := k _ _ hx
  show wpAny _ _ (execs _ _) _ _ _
  refine wpAny_execs_cons (plainObj_wpAny_Assign_Attribute ?_)
  refine ldC (v := v) hn (by first | rfl | with_unfolding_all rfl | kernel_rfl) (ldC (v := .ref x) hn (by first | rfl | with_unfolding_all rfl | kernel_rfl) ?_)
  refine set_plain X₁ (ox := excO C t0) (od := none) ⟨hx₁, rfl, rfl, trivial⟩ T.sa ?_
  refine np_osa X₁ hx₁ hcl hov rfl T.noN (fun h₃ tk₃ dx k₃ dn dne hx₃ hn₃ => ?_)
  show wpAny _ _ (execs _ _) _ _ _
  have z : s.heap.objs.size < h₁.objs.size := hn.lt
  exact wpAny_execs_nil (hq h₃ tk₃ dx ⟨fun b o hb e => k₃ b o hb (k b o e), hx₃, Nat.le_of_lt (Nat.lt_of_lt_of_le z dn), dne, hn₃⟩)
theorem np_made (T : NpTxt K mg C fI) {v : Value} (X : K.In s.heap) (hlim : s.heap.NoLimit) (hroom : A.depth + 1 < recursionLimit)
    (hq : ∀ h' tk e d, OwnMade s.heap h' e C d v → R (.ok (.ret (.ref e))) { s with heap := h', toks := tk }) :
    codeAny (model prog w) A (.call (.ref C) ⟨[v], []⟩) R s := by
  obtain ⟨nm, q, N, bs, bm, sn, sub, ab, col, dd, k0, k1, k2, k3, k5, hC, hbm⟩ := T.cls
  obtain ⟨hp, g, dr, tk, os⟩ := s
  have k : ∀ b o, hp.get? b = some o → ((hp.push (kdv_tup [v])).push (excO C hp.objs.size)).get? b = some o := fun b o e => Heap.get?_push_of_some _ (Heap.get?_push_of_some _ e)
  have hget : ((hp.push (kdv_tup [v])).push (excO C hp.objs.size)).get? (hp.objs.size + 1) = some (excO C hp.objs.size) := by heap_get
  have hnx : K.lookup (hp.objs.size + 1) = none := by
    cases e : K.lookup (hp.objs.size + 1) with
    | none => rfl
    | some o =>
      have z : hp.get? (hp.objs.size + 1) = some o := X _ _ e
      exact absurd (Nat.lt_of_succ_lt (Heap.lt_size z)) (Nat.lt_irrefl _)
  refine call_own F.excBase_LookupError (fun X => hbm X) (X _ _ hC) (looks_findIn X T.iC) (fun self => bind_fn X self T.tC) (one_size v) ?_
  refine np_init (s := ⟨(hp.push (kdv_tup [v])).push (excO C hp.objs.size), g, dr, tk, os⟩) T (X.keeps k) (hlim.keeps k) hget hnx ?_ fun h' tk' dx ⟨k', hx, dn, dne, hns⟩ => ?_
  · show A.depth + 1 < recursionLimit
    exact hroom
  · have old : ∀ b o, hp.get? b = some o → h'.get? b = some o := fun b o e => k' b o (Nat.ne_of_lt (Nat.lt_succ_of_lt (Heap.lt_size e))) (k b o e)
    have z : hp.objs.size + 1 + 1 ≤ dx := by
      first
        | (simpa only [Heap.size_push] using dn)
        | exact dn
        | (have q := dn; rw [Heap.size_push, Heap.size_push] at q; exact q)
    exact ⟨rfl, hq h' tk' (hp.objs.size + 1) dx ⟨old, Nat.le_succ _, ⟨_, _, hx, rfl, rfl, rfl, rfl⟩, Nat.le_trans (Nat.le_trans (Nat.le_succ _) (Nat.le_succ _)) z, dne, hns⟩⟩
end
end NPX
end PySem
/-! EX2: raise NoPlace(..), raise NoPaper(), flaw.number. -/
namespace L2
open PySem PySem.Spec PyProof.Rows
theorem relO_np {v : V} {v' : Value} (r : RelV v v') (f : Str) : RelO (List.lookup f [(("number" : Str), v)]) (if f = "number" then some v' else none) := by
  by_cases hw : f = "number"
  · subst hw
    rw [if_pos rfl]
    have q : List.lookup ("number" : Str) [(("number" : Str), v)] = some v := by simp [List.lookup]
    rw [q]
    exact r
  · rw [if_neg hw]
    have qw : (f == ("number" : Str)) = false := by simpa using hw
    have q2 : List.lookup f [(("number" : Str), v)] = none := by simp [List.lookup, qw]
    rw [q2]
    trivial
section
variable {X : Cx} {C fI : Addr}
/-- NoPlace(e) -/
def tMkNp (C : Addr) (ta : TA) : St → Hp → XK → Prop := fun σ H Q => ta σ H fun vs H1 => ∃ v, vs = [v] ∧ ∀ d, H1 d = none → Q (.ref C) (some d) (upd H1 d (.xd [(("number" : Str), v)]))
theorem pmk_np {a : Expr} {ta : TA} {p pos : Pos} {k : Nat} (T : PySem.NPX.NpTxt X.K X.mg C fI) (hr : Room k X.A) (ha : PA X [a] ta) (hg : Gl X "NoPlace" := by rfl)
    (he : starEach (a :: []) X.env = (false, eval a X.env) :: starEach [] X.env := by rfl) (hpl : (backTo pos (starEach [] X.env)).any (·.1) = false := by rfl) :
    PMk X (.Call (.Name "NoPlace" p) [a] [] pos) (tMkNp C ta) := by
  intro pins s σ H Q I h
  refine wpAny_Call_Name_kw (ld_glob I hg T.gC ?_)
  refine PySem.W.callWith_K (h₀ := X.base) I.ok.mod.kin T.kC (thn (ha.run pos pins s σ H _ I h) fun us s1 hh => ?_) he hpl
  obtain ⟨vs, H1, I1, r1, v, ev, q1⟩ := hh
  subst ev
  refine ⟨I1.kIn, ?_⟩
  cases r1 with
  | cons rv rn =>
    rename_i v' us'
    cases rn
    show wpAny _ _ (call (.ref C) [v']) _ _ _
    have hlim := I1.nolimit
    obtain ⟨hp, g, dr, tk, os⟩ := s1
    refine wpAny_call (PySem.NPX.np_made T I1.kIn hlim (by have := hr.dp; omega) fun h' tk' e d M => ?_)
    show MkP X pins σ Q (.ref e) ⟨h', g, dr, tk', os⟩
    obtain ⟨oe, fv, hoe, hc, hd, hdat, h1⟩ := M.obj
    have hns := M.ns
    obtain ⟨G', g1, g2⟩ := restrict h' fun b => decide (b ≠ e)
    have gk : ∀ b, b ≠ e → G'.get? b = h'.get? b := fun b hb => g1 b (decide_eq_true hb)
    have ge : G'.get? e = none := g2 e (by simp)
    have old : ∀ b o, hp.get? b = some o → G'.get? b = some o := fun b o q => (gk b (Nat.ne_of_lt (Nat.lt_of_lt_of_le (Heap.lt_size q) M.new))).trans (M.keep b o q)
    have ob : ObjOk X.prog X.w (upd H1 d (.xd [(("number" : Str), v)])) G' d (.xd [(("number" : Str), v)]) :=
      ⟨_, hns.at (fun o q => (gk d M.dne).trans q), fun f => relO_np rv f⟩
    have J : Inv X pins σ (upd H1 d (.xd [(("number" : Str), v)])) ⟨G', g, dr, tk', os⟩ := I1.laid (t' := tk') old M.dbig ob
    refine ⟨e, oe, fv, ⟨G', g, dr, tk', os⟩, _, .ref C, some d, rfl, J, fun b o q => ?_, ge, hoe, ⟨hc, hd⟩, hdat, h1, ?_, rfl, I1.bare, raises_own T.exC T.tyC, q1 d (I1.hok.fresh M.dbig)⟩
    · by_cases hb : b = e
      · have q' : G'.get? b = some o := q
        rw [hb, ge] at q'; cases q'
      · exact (gk b hb).symm.trans q
    · rw [upd_ne (Ne.symm M.dne)]
      exact I1.hok.fresh M.new
/-- flaw.number, flaw the exception that the suite holds (at a; its class cls, its dict d) -/
def tNum (C : Addr) (a : Addr) (cls : Value) (d : Option Addr) (te : TE) : TE := fun σ H Q => te σ H fun x H1 => x = .ref a ∧ cls = .ref C ∧ ∃ (dd : Addr) (v : V), d = some dd ∧ H1 dd = some (.xd [(("number" : Str), v)]) ∧ Q v H1
theorem pe_num {a : Addr} {oe : Obj} {cls : Value} {d : Option Addr} {pn : List (Addr × Obj)} {e : Expr} {te : TE} {pos : Pos} (T : PySem.NPX.NpTxt X.K X.mg C fI) (hz : Zc cls d oe) (hf : ∃ vs, oe.data = .fields vs) (he : PE (X.suite a ((a, oe) :: pn)) e te)
    (hb : attributeBase e "number" X.env (eval e X.env) = eval e X.env := by rfl) :
    PE (X.suite a ((a, oe) :: pn)) (.Attribute e "number" pos) (tNum C a cls d te) := by
  refine ⟨fun pins s σ H Q I h => ?_⟩
  refine attr_of hb (thn (he.run pins s σ H _ I h) fun u s1 hh => ?_)
  obtain ⟨x, H1, I1, rx, ex, ec, dd, v, ed, ea, q⟩ := hh
  subst ex
  obtain rfl : u = Value.ref a := rx
  subst ec
  subst ed
  obtain ⟨ha, _⟩ := I1.pin (a, oe) (List.mem_append_left _ List.mem_cons_self)
  obtain ⟨vs, hd⟩ := hf
  have hx : ObjOk X.prog X.w H1 s1.heap dd (.xd [(("number" : Str), v)]) := I1.hok dd _ ea
  obtain ⟨mA, hns, hr⟩ := hx
  obtain ⟨od, ho, hl⟩ := lookIn_ns hns
  have l : List.lookup ("number" : Str) [(("number" : Str), v)] = some v := by simp [List.lookup]
  obtain ⟨u, hu, ru⟩ := RelO.some_of (v := v) (o := mA "number") (by rw [← l]; exact hr "number")
  have J : PySem.W.InstAt s1.heap a oe C (some od) := ⟨ha, hz.1, by unfold PySem.W.notCls; rw [hd] <;> rfl, by rw [hz.2]; exact ho⟩
  exact HandSPX.exc_get I1.kIn J T.ga T.gg T.exC (PySem.W.findObj_own T.hdC T.noN rfl (by rw [hl, hu])) (handed_of ru) ⟨v, H1, I1.tok _, ru, q⟩
/-- X(), X an own exception class without own __init__ -/
theorem pmk_own00 {C : Addr} {bmB : List Value} {B newId initId : String} {x : Str} {p pos : Pos} (F : ExcBaseFacts B newId initId bmB) (q : PySem.W.excIn X.K C bmB newId = true) (gC : X.mg x = some (.ref C))
    (kC : PySem.W.keepIn X.K (.ref C) = true) (r : Raises X (.ref C)) (hg : Gl X x) (hdb : (x == ("__debug__" : Str)) = false := by decide) :
    PMk X (.Call (.Name x p) [] [] pos) (fun σ H Q => Q (.ref C) none H) := by
  intro pins s σ H Q I h
  refine wpAny_Call_Name_kw (ld_glob I hg gC ?_ hdb)
  refine PySem.W.callWith_K0 I.kIn kC ?_
  show wpAny _ _ (call (.ref C) []) _ _ _
  obtain ⟨bm, N, nm, qn, bs, hdct, sn, sub, ab, col, dd, k0, k1, k2, k3, k5, mN, hC, hN, hni, T⟩ := exc_obj I.kIn q
  refine wpAny_call_exc_subT F T hC hN hni (fun h' e hm => ?_) (Nat.zero_le _)
  exact mk_of I hm r h (I.hok.gone hm.new)
end
end L2
/-! EX3: bodies that raise; try. -/
namespace DD
open PySem PySem.Spec L2
open PyProof.Rows hiding St
open Evl (Ex ex_rd ex_l ex_t fresh_back)
section
variable {X : Cx} {c : Wd} {ρ ρ' : List Sl} {e a : Expr} {d : PyData} {pos p p2 : Pos} {rest : List Stmt} {E : EndsD} {W : WX} {C fI : Addr} {i : Int}
/-- raise NoPlace(i) -/
theorem ds_raiseNP {k : Nat} (tk : Takes X W) (T : PySem.NPX.NpTxt X.K X.mg C fI) (hr : Room k X.A) (he : DE X c ρ a (.int i)) (hW : ∀ σ B H, Sx X.pr c ρ σ B H → ∀ d, H d = none → W (.ref C) (some d) σ (upd H d (.xd [(("number" : Str), V.int i)]))) (hc : X.calm = true := by rfl) (hg : Gl X "NoPlace" := by rfl)
    (hs : starEach (a :: []) X.env = (false, eval a X.env) :: starEach [] X.env := by rfl) (hpl : (backTo p2 (starEach [] X.env)).any (·.1) = false := by rfl) : DS X c ρ (.Raise (some (.Call (.Name "NoPlace" p) [a] [] p2)) none pos :: rest) E :=
  ds_of (pss_cons (ps_raise hc tk (pmk_np T hr (pa_cons (pe_w X) pa_nil hs) hg hs hpl)) (pss_w X)) fun σ B H S D q => he σ B H S _ fun v B1 H1 s1 r1 => by
    cases r1
    exact ⟨_, rfl, fun d hd => hW σ B1 H1 (S.stp s1) d hd⟩
/-- raise NoPaper() -/
theorem ds_raise0 {bmB : List Value} {Bn newId initId : String} {x : Str} (tk : Takes X W) (F : ExcBaseFacts Bn newId initId bmB) (q : PySem.W.excIn X.K C bmB newId = true) (gC : X.mg x = some (.ref C)) (kC : PySem.W.keepIn X.K (.ref C) = true) (r : Raises X (.ref C))
    (hW : ∀ σ B H, Sx X.pr c ρ σ B H → W (.ref C) none σ H) (hc : X.calm = true := by rfl) (hg : Gl X x := by rfl) (hdb : (x == ("__debug__" : Str)) = false := by decide) : DS X c ρ (.Raise (some (.Call (.Name x p) [] [] p2)) none pos :: rest) E :=
  ds_of (pss_cons (ps_raise hc tk (pmk_own00 F q gC kC r hg hdb)) (pss_w X)) fun σ B H S D q => hW σ B H S
end
def spE (K : PySem.W.Frag) (C : Addr) (R : List PyData → Int → Prop) : Sp := fun vs H _ E => ∃ B ds i, Ex B H ∧ RpL K B vs ds ∧ R ds i ∧ ∀ B' H' d, Stp B H B' H' → H' d = none → E (.ref C) (some d) (upd H' d (.xd [(("number" : Str), V.int i)]))
def sp0 (K : PySem.W.Frag) (C : Addr) (R : List PyData → Prop) : Sp := fun vs H _ E => ∃ B ds, Ex B H ∧ RpL K B vs ds ∧ R ds ∧ ∀ B' H', Stp B H B' H' → E (.ref C) none H'
structure DefX (P : Program) (w : World) (K : PySem.W.Frag) (mg : Str → Option Value) (base : Heap) (x : Str) (ps : List Str) (k : Nat) (sp : Sp) : Prop where
  ex : ∃ f fd, FnOk P w K mg base (L2.CX P w) k f fd ps sp ∧ mg x = some (.ref f) ∧ PySem.W.keepIn K (.ref f) = true ∧ Binds K fd ps []
abbrev cxE (P : Program) (w : World) (K : PySem.W.Frag) (mg : Str → Option Value) (base : Heap) (N : List Str) (qual : Str) (st : Stmt) (f : Addr) (cdv : Value) (A : Around) (outer : List Env) (s : Shared) (H : Hp) (E : XK) : Cx := cxOf (L2.CX P w) P w K mg base N qual (defScope st) f cdv A outer s H E
def noEnd : EndsD := {}
section
variable {P : Program} {w : World} {K : PySem.W.Frag} {mg : Str → Option Value} {base : Heap}
theorem noEnd_ok {p : Pr} {c : Wd} {B : Hp} {D : Ends} : EndsOk p c B noEnd D := ⟨fun _ _ _ _ z => z.elim, fun _ _ _ _ _ _ z => z.elim, fun _ _ _ _ z => z.elim, fun _ _ _ _ z => z.elim⟩
theorem at_defE {x : Str} {st : Stmt} {ps N : List Str} {k : Nat} {C : Addr} (T : At K mg x st ps) (R : List PyData → Int → Prop) (S : FnScope N ps (defScope st)) (hl : ∀ ds i, R ds i → ds.length = ps.length)
    (h : ∀ (f : Addr) (cdv : Value) (A : Around) (outer : List Env) (s : Shared) (H : Hp) (E : XK), Room k (A.deeper (envOfC x (defScope st) s.heap.objs.size f cdv)) → ∀ (c : Wd) (ds : List PyData) (i : Int), R ds i → Takes (cxE P w K mg base N x st f cdv A outer s H E) (fun cls d _ H => E cls d H) → PassesOwn (model P w) (cxE P w K mg base N x st f cdv A outer s H E).A (cxE P w K mg base N x st f cdv A outer s H E).env (cxE P w K mg base N x st f cdv A outer s H E).xe →
      (∀ σ ρ' B' H', Sx ⟨P, w, K⟩ c ρ' σ B' H' → ∀ d, H' d = none → E (.ref C) (some d) (upd H' d (.xd [(("number" : Str), V.int i)]))) →
      DS (cxE P w K mg base N x st f cdv A outer s H E) c (startR N.length ds) (defBody st) noEnd) : DefX P w K mg base x ps (k + 1) (spE K C R) := by
  obtain ⟨f, fd, Fn, hm, hb⟩ := T.ex
  refine ⟨f, fd, Fn.okX S (fun vs H Q E z => ?_) (fun cdv A outer s H vs Q E hr z => ?_), hm, Fn.kp, hb⟩
  · obtain ⟨B, ds, i, _, r, hR, _⟩ := z
    rw [r.length]
    exact hl ds i hR
  · obtain ⟨B, ds, i, e, r, hR, q⟩ := z
    refine ⟨_, pss_w _, h f cdv A outer s H E hr ⟨B, H, none⟩ ds i hR (takes_of rfl rfl rfl rfl) PassesOwn.leaving (fun σ ρ' B' H' S' d hd => ?_) _ B H (startR_sx N e r) _ noEnd_ok⟩
    exact q B' H' d ⟨S'.b0, S'.bh, fun b o h => S'.h0 b o (by simp) h, S'.fr⟩ hd
theorem at_def0 {x : Str} {st : Stmt} {ps N : List Str} {k : Nat} {C : Addr} (T : At K mg x st ps) (R : List PyData → Prop) (S : FnScope N ps (defScope st)) (hl : ∀ ds, R ds → ds.length = ps.length)
    (h : ∀ (f : Addr) (cdv : Value) (A : Around) (outer : List Env) (s : Shared) (H : Hp) (E : XK), Room k (A.deeper (envOfC x (defScope st) s.heap.objs.size f cdv)) → ∀ (c : Wd) (ds : List PyData), R ds → Takes (cxE P w K mg base N x st f cdv A outer s H E) (fun cls d _ H => E cls d H) → PassesOwn (model P w) (cxE P w K mg base N x st f cdv A outer s H E).A (cxE P w K mg base N x st f cdv A outer s H E).env (cxE P w K mg base N x st f cdv A outer s H E).xe →
      (∀ σ ρ' B' H', Sx ⟨P, w, K⟩ c ρ' σ B' H' → E (.ref C) none H') →
      DS (cxE P w K mg base N x st f cdv A outer s H E) c (startR N.length ds) (defBody st) noEnd) : DefX P w K mg base x ps (k + 1) (sp0 K C R) := by
  obtain ⟨f, fd, Fn, hm, hb⟩ := T.ex
  refine ⟨f, fd, Fn.okX S (fun vs H Q E z => ?_) (fun cdv A outer s H vs Q E hr z => ?_), hm, Fn.kp, hb⟩
  · obtain ⟨B, ds, _, r, hR, _⟩ := z
    rw [r.length]
    exact hl ds hR
  · obtain ⟨B, ds, e, r, hR, q⟩ := z
    refine ⟨_, pss_w _, h f cdv A outer s H E hr ⟨B, H, none⟩ ds hR (takes_of rfl rfl rfl rfl) PassesOwn.leaving (fun σ ρ' B' H' S' => ?_) _ B H (startR_sx N e r) _ noEnd_ok⟩
    exact q B' H' ⟨S'.b0, S'.bh, fun b o h => S'.h0 b o (by simp) h, S'.fr⟩
end
end DD
/-! T14: sure_deeds, is_idle_stretch where a place is not; parting_start where nothing parts -/
namespace DD
open PySem PySem.Spec L2
open PyProof.Rows hiding St
local macro_rules | `(tactic| walk_at "side") => `(tactic| first | exact Nat.le_of_ble_eq_true rfl | assumption | omega | decide | rfl | (simp; done) | (simp; omega))
def natsG : Deed → List Nat
  | .turn i => [i]
  | .swap i j => [i, j]
  | .mix i j => [i, j]
theorem natsG_ok {g : Deed} {n : Nat} (h : g.ok n = true) : ∀ a ∈ natsG g, a < n := by
  intro a ha
  cases g with
  | turn i =>
    have h : i < n := of_decide_eq_true h
    simp only [natsG, List.mem_singleton] at ha
    omega
  | swap i j =>
    have h : i < j ∧ j < n := by simpa [Deed.ok] using h
    simp only [natsG, List.mem_cons, List.not_mem_nil, or_false] at ha
    omega
  | mix i j =>
    have h : i < j ∧ j < n := by simpa [Deed.ok] using h
    simp only [natsG, List.mem_cons, List.not_mem_nil, or_false] at ha
    omega
def badN (n : Nat) (g : Deed) : Option Nat := (natsG g).find? fun a => decide (n ≤ a)
theorem find_first {α : Type} {p : α → Bool} : ∀ {xs : List α} {j : Nat} {m : α}, (∀ a ∈ xs.take j, p a = false) → xs[j]? = some m → p m = true → xs.find? p = some m
  | [], _, _, _, h, _ => by simp at h
  | x :: xs, 0, m, _, h, hm => by
    have h : some x = some m := h
    cases h
    rw [List.find?_cons, hm]
  | x :: xs, j + 1, m, ha, h, hm => by
    rw [List.find?_cons, ha x (by simp)]
    exact find_first (fun a z => ha a (by rw [List.take_succ_cons]; exact List.mem_cons_of_mem _ z)) (by rw [List.getElem?_cons_succ] at h; exact h) hm
section
variable {P : Program} {w : World} {K : PySem.W.Frag} {mg : Str → Option Value} {base : Heap} {C fI : Addr}
def R_sure_bad (ds : List PyData) (i : Int) : Prop := ∃ (n : Nat) (x : PyData) (gs rest : List Deed) (g : Deed) (b : Nat), ds = [.int n, x] ∧ okn true true 5 x = true ∧ tup 5 x = encGs (gs ++ g :: rest) ∧ kw gs n ∧ badN n g = some b ∧ i = b
theorem bad_sure_deeds (Z : Bi mg) (TN : PySem.NPX.NpTxt K mg C fI) (D_tupled : DefOk P w K mg base "tupled" ["thing"] 6 (spD K (R_tupled 5))) (T : At K mg "sure_deeds" s_sure_deeds ["many", "deeds"]) : DefX P w K mg base "sure_deeds" ["many", "deeds"] 7 (spE K C R_sure_bad) := by
  refine at_defE T R_sure_bad sc_sure_deeds (fun ds d h => by obtain ⟨_, _, _, _, _, _, rfl, _⟩ := h; rfl) fun f cdv A outer s' H E hr c ds d h tk hp hE => ?_
  obtain ⟨n, x, gs, rest, g, b, rfl, hx, ht, hk, hb, rfl⟩ := h
  refine ds_set 2 (de_call D_tupled (hr.mono (by decide)) (da_cons (de_var 1 rfl) da_nil) ⟨x, rfl, hx, rfl⟩) ?_ sc_sure_deeds.nd
  rw [ht]
  refine ds_for (di_tup (de_var 2 rfl)) (fun i ρ' => i ≤ gs.length ∧ ∃ y z, ρ' = [.d (.int n), .d x, .d (encGs (gs ++ g :: rest)), y, z]) ⟨Nat.zero_le _, .no, .no, rfl⟩ (fun t g' ρ1 hi hI => ?_) (fun ρ1 hI => ?_) hp
  · obtain ⟨htl, y, z, rfl⟩ := hI
    rw [List.getElem?_map] at hi
    obtain ⟨g', hg, rfl⟩ := Option.map_eq_some_iff.mp hi
    have hc : ∃ l, encG g' = .tuple l ∧ cutD l (some 1) none = intsD (natsG g') := by cases g' <;> exact ⟨_, rfl, rfl⟩
    obtain ⟨l, hl, hcut⟩ := hc
    rw [hl]
    have hcase : (t < gs.length ∧ g' ∈ gs) ∨ (t = gs.length ∧ g' = g) := by
      by_cases q : t < gs.length
      · rw [List.getElem?_append_left q] at hg
        exact .inl ⟨q, List.mem_of_getElem? hg⟩
      · have e : t = gs.length := by omega
        subst e
        rw [List.getElem?_append_right (Nat.le_refl _), Nat.sub_self] at hg
        have hg : some g = some g' := hg
        cases hg
        exact .inr ⟨rfl, rfl⟩
    refine ⟨_, _, dg_name 3 sc_sure_deeds.nd, ?_⟩
    refine ds_for (di_tup (de_slT (de_var 3 rfl) (do_some de_int) do_none)) (fun j ρ' => (∀ a ∈ (natsG g').take j, decide (n ≤ a) = false) ∧ ∃ z, ρ' = [.d (.int n), .d x, .d (encGs (gs ++ g :: rest)), .d (.tuple l), z]) ⟨by simp, _, rfl⟩ (fun j v ρ1 hj hJ => ?_) (fun ρ1 hJ => ?_) hp
    · obtain ⟨hfine, z, rfl⟩ := hJ
      rw [hcut] at hj
      unfold intsD at hj
      rw [List.getElem?_map] at hj
      obtain ⟨m, hm, rfl⟩ := Option.map_eq_some_iff.mp hj
      refine ⟨_, _, dg_name 4 sc_sure_deeds.nd, ds_ifR (k := decide (n ≤ m)) (DT.is (dt_not (dt_chain de_int (de_var 4 rfl) (de_var 0 rfl) c_le c_lt)) ?_) (fun q => ?_) (fun q => ds_nil ⟨fun a ha => ?_, .d (.int m), rfl⟩)⟩
      · rw [decide_eq_true (show (0 : Int) ≤ m by omega), Bool.true_and]
        by_cases q : n ≤ m
        · rw [decide_eq_true q, decide_eq_false (by omega)]; rfl
        · rw [decide_eq_false q, decide_eq_true (by omega)]; rfl
      · have hmb : m = b := by
          rcases hcase with ⟨_, hin⟩ | ⟨_, rfl⟩
          · exact absurd (natsG_ok (hk g' hin) m (List.mem_of_getElem? hm)) (by have := of_decide_eq_true q; omega)
          · have := find_first (p := fun a => decide (n ≤ a)) hfine hm q
            unfold badN at hb
            rw [this] at hb
            exact Option.some.inj hb
        subst hmb
        exact ds_raiseNP (k := 6) tk TN hr (de_var 4 rfl) (fun σ B H S d hd => hE σ _ B H S d hd)
      · rw [List.take_add_one, hm] at ha
        rcases List.mem_append.mp ha with z | z
        · exact hfine a z
        · have : a = m := by simpa using z
          rw [this]; exact q
    · obtain ⟨hfine, z, rfl⟩ := hJ
      rw [hcut] at hfine
      have hlen : (intsD (natsG g')).length = (natsG g').length := by unfold intsD; rw [List.length_map]
      rw [hlen, List.take_length] at hfine
      rcases hcase with ⟨q, _⟩ | ⟨_, rfl⟩
      · exact ds_nil ⟨q, .d (.tuple l), z, rfl⟩
      · exfalso
        unfold badN at hb
        have := List.find?_some hb
        rw [hfine b (List.mem_of_find?_eq_some hb)] at this
        cases this
  · obtain ⟨htl, _⟩ := hI
    rw [List.length_map, List.length_append, List.length_cons] at htl
    omega
def R_idle_bad (ds : List PyData) (i : Int) : Prop := ∃ x y z : PyData, ds = [x, y, z] ∧ R_sure_bad [x, y] i
theorem bad_is_idle_stretch (D_sure_bad : DefX P w K mg base "sure_deeds" ["many", "deeds"] 7 (spE K C R_sure_bad)) (D_columns_behind : DefOk P w K mg base "columns_behind" ["many", "deeds"] 4 (spD K R_columns_behind)) (T : At K mg "is_idle_stretch" s_is_idle_stretch ["many", "deeds", "thing"]) :
    DefX P w K mg base "is_idle_stretch" ["many", "deeds", "thing"] 8 (spE K C R_idle_bad) := by
  refine at_defE T R_idle_bad sc_is_idle_stretch (fun ds d h => by obtain ⟨_, _, _, rfl, _⟩ := h; rfl) fun f cdv A outer s' H E hr c ds i h tk hp hE => ?_
  obtain ⟨x, y, z, rfl, hb⟩ := h
  obtain ⟨f2, fd2, F2, hm2, hk2, hb2⟩ := D_sure_bad.ex
  refine ds_of (pss_cons (ps_set (i := 3) sc_is_idle_stretch.nd rfl (.inr rfl) (pe_callD D_columns_behind (hr.mono (by decide)) rfl (pa_cons (pe_w _) (pa_cons (pe_call F2 (hr.mono (by decide)) rfl hm2 hk2 hb2 .nil (passes_call tk fun _ _ _ _ h => h) (pa_w _)) pa_nil))) rfl (.inl rfl)) (pss_w _)) fun σ B Ha S D q => ?_
  have a1 : ∀ pos, DE (cxE P w K mg base N_is_idle_stretch "is_idle_stretch" s_is_idle_stretch f cdv A outer s' H E) c [.d x, .d y, .d z, .no, .no] (.Name "many" pos) x := fun pos => (de_var 0 rfl)
  refine a1 _ σ B Ha S _ fun v B1 H1 s1 r1 => ?_
  have a2 : ∀ p1 p2, DA (cxE P w K mg base N_is_idle_stretch "is_idle_stretch" s_is_idle_stretch f cdv A outer s' H E) c [.d x, .d y, .d z, .no, .no] [.Name "many" p1, .Name "deeds" p2] [x, y] := fun p1 p2 => (da_cons (de_var 0 rfl) (da_cons (de_var 1 rfl) da_nil))
  refine a2 _ _ σ B1 H1 (S.stp s1) _ fun vs B2 H2 s2 r2 => ?_
  have S2 := (S.stp s1).stp s2
  exact ⟨B2, [x, y], i, s2.bh, by rw [List.append_nil]; exact r2, hb, fun B' H' d st hd => hE σ _ B' H' (S2.stp st) d hd⟩
end
end DD
/-! T15: parting_start where nothing parts; _law_heard, _law_asked -/
namespace DD
open PySem PySem.Spec L2
open PyProof.Rows hiding St
open Evl (Ex ex_rd ex_l ex_t fresh_back)
local macro_rules | `(tactic| walk_at "side") => `(tactic| first | exact Nat.le_of_ble_eq_true rfl | assumption | omega | decide | rfl | (simp; done) | (simp; omega))
/-- NoPaper -/
structure PpTxt (K : PySem.W.Frag) (mg : Str → Option Value) (C : Addr) : Prop where
  gC : mg "NoPaper" = some (.ref C)
  q : PySem.W.excIn K C [.type "ValueError", .type "Exception", .type "BaseException", .type "object"] "ValueError.__new__" = true
  kC : PySem.W.keepIn K (.ref C) = true
  exC : PySem.W.subIn K (.ref C) (.type "BaseException") = some true
  tyC : PySem.W.typeIn K (.ref C) = some (.type "type")
  te : PySem.W.exmOne K (.ref C) (.ref C) = some true
section
variable {P : Program} {w : World} {K : PySem.W.Frag} {mg : Str → Option Value} {base : Heap} {C fI : Addr}
def R_part0 (ds : List PyData) : Prop := ∃ (n : Nat) (gs hs : List Deed), ds = [.int n, encGs gs, encGs hs] ∧ 2 ≤ n ∧ n ≤ 1000 ∧ gs.length ≤ 1000 ∧ hs.length ≤ 1000 ∧ kw gs n ∧ kw hs n ∧ mixN gs ≤ 119 ∧ mixN hs ≤ 119 ∧ rowAt (lones n) gs = rowAt (lones n) hs
theorem bad_parting_start (Z : Bi mg) (TP : PpTxt K mg C) (D_columns_of_both : DefOk P w K mg base "columns_of_both" ["many", "one", "other"] 8 (spD K R_columns_of_both)) (T : At K mg "parting_start" s_parting_start ["many", "one", "other"]) : DefX P w K mg base "parting_start" ["many", "one", "other"] 9 (sp0 K C R_part0) := by
  refine at_def0 T R_part0 sc_parting_start (fun ds h => by obtain ⟨_, _, _, rfl, _⟩ := h; rfl) fun f cdv A outer s' H E hr c ds h tk hp hE => ?_
  obtain ⟨n, gs, hs, rfl, h2, hn, l1, l2, k1, k2, m1, m2, hrow⟩ := h
  refine ds_unp (de_call D_columns_of_both (hr.mono (by decide)) (da_cons (de_var 0 rfl) (da_cons (de_var 1 rfl) (da_cons (de_var 2 rfl) da_nil))) ⟨n, gs, hs, rfl, h2, hn, l1, l2, k1, k2, m1, m2, rfl⟩) (dg_tup rfl (dgs_cons (dg_name 3 sc_parting_start.nd) (dgs_cons (dg_name 4 sc_parting_start.nd) dgs_nil))) ?_
  rw [hrow]
  have b := rowAt_rb hs 0 _ (lones_rb n)
  generalize hr0 : rowAt (lones n) hs = r at b ⊢
  refine ds_for (di_rng1 Z.range (de_var 0 rfl) (by walk_at "side") (by walk_at "side")) (fun i ρ' => ∃ y, ρ' = [.d (.int n), .d (encGs gs), .d (encGs hs), .d (encRow r), .d (encRow r), y]) ⟨.no, rfl⟩ (fun i x ρ1 hx hI => ?_) (fun ρ1 hI => ?_) hp
  · obtain ⟨y, rfl⟩ := hI
    obtain ⟨hi, rfl⟩ := up_at hx
    have hi : i < r.length := by rw [b.1]; omega
    have a1 : atI (r.map encS) (i : Int) = some (encS r[i]) := atI_nat (by rw [List.getElem?_map, List.getElem?_eq_getElem hi]; rfl)
    have o1 : okn false false 2 (encS r[i]) = true := encS_ok (by rw [(b.2 _ (List.getElem_mem hi)).1]; exact hn)
    refine ⟨_, _, dg_name 5 sc_parting_start.nd, ds_ifF (DT.is (dt_cmp (de_ixT (de_var 3 rfl) (de_var 5 rfl) a1) (de_ixT (de_var 4 rfl) (de_var 5 rfl) a1) (c_neD (hu64 hr) (okn_shaped o1) (okn_shaped o1))) ?_) (ds_nil ⟨.d (.int i), rfl⟩)⟩
    have e := eqv_dec o1 o1 encS_inj
    rw [decide_eq_true rfl] at e
    show (!PyData.eqv (encS r[i]) (encS r[i])) = false
    rw [e]
    rfl
  · obtain ⟨y, rfl⟩ := hI
    exact ds_raise0 tk PySem.F.excBase_ValueError TP.q TP.gC TP.kC (raises_own TP.exC TP.tyC) (fun σ B H S => hE σ _ B H S)
/-! try -/
theorem ds_tryOk {X : Cx} {c : Wd} {ρ : List Sl} {body : List Stmt} {h₀ : ExceptHandler} {hs : List ExceptHandler} {pos : Pos} {rest : List Stmt} {E : EndsD} (M : List Sl → Prop) (hb : DS X.nox c ρ body (E.then M)) (k : ∀ ρ', M ρ' → DS X c ρ' rest E) : DS X c ρ (.Try body (h₀ :: hs) [] [] pos :: rest) E :=
  ds_of (pss_cons (ps_try_thru0 (pss_w X.nox)) (pss_w X)) fun σ B H S D q => hb σ B H S _ (q.then fun ρ' σ' B' H' m e' S' => k ρ' m σ' B' H' S' D (q.up e'))
def bT' (X : Cx) (body : List Stmt) (W : WX) : TS := fun D σ H => ∀ (pn : List (Addr × Obj)) (xe : Value → Shared → Prop), Takes (X.tr pn xe) W → PassesOwn (model X.prog X.w) X.A X.env xe → wSs (X.tr pn xe) body D σ H
def bS' (X : Cx) (suite : List Stmt) (a : Addr) (cls : Value) (d : Option Addr) : TS := fun D σ H => ∀ (oe : Obj) (pn : List (Addr × Obj)), Zc cls d oe → (∃ vs, oe.data = .fields vs) → wSs (X.suite a ((a, oe) :: pn)) suite D σ H
def R_asked (ds : List PyData) (d : PyData) : Prop := (R_is_idle_stretch ds d) ∨ ∃ i, R_idle_bad ds i ∧ d = .list [.str "place", .int i]
theorem ok_law_asked (TN : PySem.NPX.NpTxt K mg C fI) (D_is_idle_stretch : DefOk P w K mg base "is_idle_stretch" ["many", "deeds", "thing"] 8 (spD K R_is_idle_stretch)) (D_idle_bad : DefX P w K mg base "is_idle_stretch" ["many", "deeds", "thing"] 8 (spE K C R_idle_bad)) (T : At K mg "_law_asked" s_law_asked ["_law_size", "_law_deeds_here", "_law_thing"]) :
    DefOk P w K mg base "_law_asked" ["_law_size", "_law_deeds_here", "_law_thing"] 9 (spD K R_asked) := by
  refine at_def T R_asked sc_law_asked (fun ds d h => by
    rcases h with ⟨_, _, _, _, rfl, _⟩ | ⟨_, ⟨_, _, _, rfl, _⟩, _⟩ <;> rfl) fun f cdv A outer s' H E hr c ds d h => ?_
  have h3 : ∃ x y z, ds = [x, y, z] := by
    rcases h with ⟨_, _, _, _, rfl, _⟩ | ⟨_, ⟨_, _, _, rfl, _⟩, _⟩ <;> exact ⟨_, _, _, rfl⟩
  obtain ⟨x, y, z, rfl⟩ := h3
  refine ds_unp (de_tup (da_cons de_non (da_cons de_non da_nil))) (dg_tup rfl (dgs_cons (dg_name 3 sc_law_asked.nd) (dgs_cons (dg_name 4 sc_law_asked.nd) dgs_nil))) ?_
  rcases h with h | ⟨i, hb, rfl⟩
  · have hnn : (match d with | .none => true | _ => false) = false := by
      obtain ⟨_, _, _, _, _, _, _, _, _, _, _, _, _, rfl⟩ := h
      rfl
    refine ds_tryOk (fun ρ' => ρ' = [.d x, .d y, .d z, .d d, .d .none, .no]) ?_ (fun ρ' hρ => ?_)
    · show DS (cxD P w K mg base N_law_asked "_law_asked" s_law_asked f cdv A outer s' H E) c _ _ _
      exact ds_set 3 (de_call D_is_idle_stretch (hr.mono (by decide)) (da_cons (de_var 0 rfl) (da_cons (de_var 1 rfl) (da_cons (de_var 2 rfl) da_nil))) h) (ds_nil rfl) sc_law_asked.nd
    · subst hρ
      exact ds_ret (de_ifT (DT.is (dt_cmp (de_var 4 rfl) de_non (c_isN rfl)) rfl) (de_var 3 rfl)) rfl
  · obtain ⟨f2, fd2, F2, hm2, hk2, hb2⟩ := D_idle_bad.ex
    refine ds_of (pss_cons (ps_try_as (X := cxD P w K mg base N_law_asked "_law_asked" s_law_asked f cdv A outer s' H E) (c := .ref C) (i := 5) (tb := bT' (cxD P w K mg base N_law_asked "_law_asked" s_law_asked f cdv A outer s' H E) _) (ts := bS' (cxD P w K mg base N_law_asked "_law_asked" s_law_asked f cdv A outer s' H E) _) rfl rfl sc_law_asked.nd rfl rfl ⟨rfl, by decide, .inl TN.gC⟩ takes0
      (fun W pn xe tk hp => ⟨fun pins s σ H D I h => (pss_w _).run pins s σ H D I (h pn xe tk hp)⟩) (fun a oe cls d pn hz hf => ⟨fun pins s σ H D I h => (pss_w _).run pins s σ H D I (h oe pn hz hf)⟩)) (pss_w _)) fun σ B Ha S D q => ?_
    intro pn xe tk hp
    have a2 : ∀ p1 p2 p3, DA ((cxD P w K mg base N_law_asked "_law_asked" s_law_asked f cdv A outer s' H E).tr pn xe) c [.d x, .d y, .d z, .d .none, .d .none, .no] [.Name "_law_size" p1, .Name "_law_deeds_here" p2, .Name "_law_thing" p3] [x, y, z] := fun p1 p2 p3 => (da_cons (de_var 0 rfl) (da_cons (de_var 1 rfl) (da_cons (de_var 2 rfl) da_nil)))
    refine ⟨_, pss_one (ps_set (i := 3) sc_law_asked.nd rfl (.inl rfl) (pe_callS F2 (hr.mono (by decide)) rfl hm2 hk2 hb2 (fun σ => passAt tk σ) (pa_w _))), ?_⟩
    refine a2 _ _ _ σ B Ha S _ fun vs B1 H1 s1 r1 => ?_
    have S1 := S.stp s1
    refine ⟨B1, [x, y, z], i, s1.bh, r1, hb, fun B' H' d st hd => ⟨true, TN.te, fun _ a0 na => ?_, fun z => nomatch z⟩⟩
    intro oe pn2 hz hf2
    refine ⟨_, pss_one (ps_set (i := 4) sc_law_asked.nd rfl (.inl rfl) (pe_lst (pa_cons pe_str (pa_cons (pe_num TN hz hf2 (pe_var (i := 5) rfl (.inl rfl))) pa_nil)))), ?_⟩
    have S2 := S1.stp st
    have l5 : 5 < σ.length := by rw [S.len]; exact (by decide : 5 < 6)
    have sg : Stp B' H' B' (upd H' d (.xd [(("number" : Str), V.int i)])) := Stp.grow st.bh (Ex.new hd)
    refine ⟨.ref a0, by rw [List.getElem?_set_self l5], rfl, rfl, d, .int i, rfl, upd_same, by show (2 : Nat) ≤ sizeLine; rw [sizeLine_eq]; decide, fun p hp => ?_⟩
    have sn : Stp B' (upd H' d (.xd [(("number" : Str), V.int i)])) (upd B' p (.lst [.str "place", .int i])) (upd (upd H' d (.xd [(("number" : Str), V.int i)])) p (.lst [.str "place", .int i])) := Stp.new sg.bh _ hp
    have S3 := (S2.stp sg).stp sn
    have S4 := ((S3.forget (i := 5) (x := some (.ref a0))).putD (i := 4) (v := .ref p) (d := .list [.str "place", .int i]) (.lst upd_same (.cons (.str _) (.cons (.int _) .nil)))).forget (i := 5) (x := none)
    have fin : DS (cxD P w K mg base N_law_asked "_law_asked" s_law_asked f cdv A outer s' H E) c [.d x, .d y, .d z, .d .none, .d (.list [.str "place", .int i]), .no] ((defBody s_law_asked).drop 2) (endR (.list [.str "place", .int i])) :=
      ds_ret (de_ifF (DT.is (dt_cmp (de_var 4 rfl) de_non (c_isN rfl)) rfl) (de_var 4 rfl)) rfl
    exact fin _ _ _ S4 D (q.up (((s1.b.trans st.b).trans sg.b).trans sn.b))
def R_heard (ds : List PyData) (d : PyData) : Prop := R_part0 ds ∧ d = .str "no paper"
theorem ok_law_heard (TP : PpTxt K mg C) (D_part0 : DefX P w K mg base "parting_start" ["many", "one", "other"] 9 (sp0 K C R_part0)) (T : At K mg "_law_heard" s_law_heard ["_law_size", "_law_one", "_law_other"]) : DefOk P w K mg base "_law_heard" ["_law_size", "_law_one", "_law_other"] 10 (spD K R_heard) := by
  refine at_def T R_heard sc_law_heard (fun ds d h => by obtain ⟨⟨_, _, _, rfl, _⟩, _⟩ := h; rfl) fun f cdv A outer s' H E hr c ds d h => ?_
  have h3 : ∃ x y z, ds = [x, y, z] := by obtain ⟨⟨_, _, _, rfl, _⟩, _⟩ := h; exact ⟨_, _, _, rfl⟩
  obtain ⟨x, y, z, rfl⟩ := h3
  obtain ⟨hb, rfl⟩ := h
  refine ds_unp (de_tup (da_cons de_non (da_cons de_bl da_nil))) (dg_tup rfl (dgs_cons (dg_name 3 sc_law_heard.nd) (dgs_cons (dg_name 4 sc_law_heard.nd) dgs_nil))) ?_
  obtain ⟨f2, fd2, F2, hm2, hk2, hb2⟩ := D_part0.ex
  refine ds_of (pss_cons (ps_try_only (X := cxD P w K mg base N_law_heard "_law_heard" s_law_heard f cdv A outer s' H E) (c := .ref C) (tb := bT' (cxD P w K mg base N_law_heard "_law_heard" s_law_heard f cdv A outer s' H E) _) (ts := bS' (cxD P w K mg base N_law_heard "_law_heard" s_law_heard f cdv A outer s' H E) _) rfl rfl ⟨rfl, by decide, .inl TP.gC⟩ takes0
    (fun W pn xe tk hp => ⟨fun pins s σ H D I h => (pss_w _).run pins s σ H D I (h pn xe tk hp)⟩) (fun a oe cls d pn hz hf => ⟨fun pins s σ H D I h => (pss_w _).run pins s σ H D I (h oe pn hz hf)⟩)) (pss_w _)) fun σ B Ha S D q => ?_
  intro pn xe tk hp
  have a2 : ∀ p1 p2 p3, DA ((cxD P w K mg base N_law_heard "_law_heard" s_law_heard f cdv A outer s' H E).tr pn xe) c [.d x, .d y, .d z, .d .none, .d (.bool false)] [.Name "_law_size" p1, .Name "_law_one" p2, .Name "_law_other" p3] [x, y, z] := fun p1 p2 p3 => (da_cons (de_var 0 rfl) (da_cons (de_var 1 rfl) (da_cons (de_var 2 rfl) da_nil)))
  refine ⟨_, pss_one (ps_set (i := 3) sc_law_heard.nd rfl (.inl rfl) (pe_callS F2 (hr.mono (by decide)) rfl hm2 hk2 hb2 (fun σ => passAt tk σ) (pa_w _))), ?_⟩
  refine a2 _ _ _ σ B Ha S _ fun vs B1 H1 s1 r1 => ?_
  have S1 := S.stp s1
  refine ⟨B1, [x, y, z], s1.bh, r1, hb, fun B' H' st => ⟨true, TP.te, fun _ a0 na => ?_, fun z => nomatch z⟩⟩
  intro oe pn2 hz hf2
  refine ⟨_, pss_one (ps_set (i := 4) sc_law_heard.nd rfl (.inl rfl) pe_bl), ?_⟩
  have S4 := (S1.stp st).putD (i := 4) (v := .bl true) (d := .bool true) (.bl _)
  have fin : DS (cxD P w K mg base N_law_heard "_law_heard" s_law_heard f cdv A outer s' H E) c [.d x, .d y, .d z, .d .none, .d (.bool true)] ((defBody s_law_heard).drop 2) (endR (.str "no paper")) :=
    ds_ret (de_ifT (dt_val (de_var 4 rfl)) de_str) rfl
  exact fin _ _ _ S4 D (q.up (s1.b.trans st.b))
end
end DD
/-! T16: left_right, across_right -/
namespace DD
open PySem PySem.Spec L2
open PyProof.Rows hiding St
local macro_rules | `(tactic| walk_at "side") => `(tactic| first | exact Nat.le_of_ble_eq_true rfl | assumption | omega | decide | rfl | (simp; done) | (simp; omega))
theorem okn_lis {b : Bool} : ∀ {n : Nat} {d : PyData}, okn b false n d = true → okn b true n (lis n d) = true := by
  intro n
  induction n with
  | zero => intro d h; cases d <;> first | exact h | cases h
  | succ n ih =>
    intro d h
    cases d with
    | tuple xs =>
      simp only [okn, Bool.and_eq_true, decide_eq_true_eq, List.all_eq_true] at h
      show okn b true (n + 1) (.list (xs.map (lis n))) = true
      simp only [okn, Bool.true_and, Bool.and_eq_true, decide_eq_true_eq, List.all_eq_true, List.length_map]
      refine ⟨h.1, fun x hx => ?_⟩
      obtain ⟨y, hy, rfl⟩ := List.mem_map.mp hx
      exact ih (h.2 y hy)
    | list xs => simp [okn] at h
    | _ => first | exact h | cases h
theorem fits_enc {N : Nat} {gs : List Deed} (h2 : 2 ≤ N) (hN : N ≤ 1000) (hl : gs.length ≤ 110) (hk : kw gs N) : Fits (encGs gs) N gs := by
  have e := encGs_ok (s := gs) (by omega)
  have hm := mixN_le gs
  exact ⟨okn_mono (okn_wide (by simp) (by simp) e) (by decide), (tup_mono e (by decide)).trans (tup_id e), h2, hN, by omega, hk, by omega⟩
theorem fits_lis {N : Nat} {gs : List Deed} (h2 : 2 ≤ N) (hN : N ≤ 1000) (hl : gs.length ≤ 110) (hk : kw gs N) : Fits (lis 5 (encGs gs)) N gs := by
  have e : okn true false 5 (encGs gs) = true := okn_mono (okn_wide (by simp) (by simp) (encGs_ok (s := gs) (by omega))) (by decide)
  have hm := mixN_le gs
  exact ⟨okn_lis e, tup_lis e, h2, hN, by omega, hk, by omega⟩
theorem lists_enc {gs : List Deed} (hl : gs.length ≤ 110) : R_law_lists 5 [encGs gs] (lis 5 (encGs gs)) := ⟨_, rfl, okn_mono (okn_wide (by simp) (by simp) (encGs_ok (s := gs) (by omega))) (by decide), rfl⟩
theorem okl {n : Nat} {xs : List PyData} (hl : xs.length ≤ 1000) (h : ∀ x ∈ xs, okn true true n x = true) : okn true true (n + 1) (.list xs) = true := by
  simp only [okn, Bool.true_and, Bool.and_eq_true, decide_eq_true_eq, List.all_eq_true]
  exact ⟨hl, h⟩
theorem ok_encGs {gs : List Deed} (hl : gs.length ≤ 1000) : okn true true 5 (encGs gs) = true := okn_mono (okn_wide (by simp) (by simp) (encGs_ok (s := gs) hl)) (by decide)
theorem ok_encS {s : Stt} (hl : s.length ≤ 1000) : okn true true 5 (encS s) = true := okn_mono (okn_wide (by simp) (by simp) (encS_ok (s := s) hl)) (by decide)
theorem str_np : PyData.strOk ("no paper" : Str) = true := by decide +kernel
section
variable {P : Program} {w : World} {K : PySem.W.Frag} {mg : Str → Option Value} {base : Heap}
def F_left (ds : List PyData) (C : Nat) (R : PyData → Prop) : Prop := ∃ (N : Nat) (gs : List Deed), ds = [.int N, encGs gs] ∧ 2 ≤ N ∧ N ≤ 1000 ∧ kw gs N ∧ gs.length ≤ 40 ∧ C = 9 ∧ R = fun d => d = .bool true
theorem ok_law_left_right (D_law_cut : DefOk P w K mg base "_law_cut" ["_law_size", "_law_deeds_here"] 5 (spD K R_law_cut)) (D_without_idle : DefOk P w K mg base "without_idle" ["many", "deeds"] 8 (spD K R_without_idle)) (D_law_lists : DefOk P w K mg base "_law_lists" ["_law_matter"] 6 (spD K (R_law_lists 5)))
    (D_law_same : DefOk P w K mg base "_law_same" ["_law_got", "_law_due"] 8 (spD K (R_law_same 7))) (D_law_state : DefOk P w K mg base "_law_state" ["_law_tin", "_law_size_so", "_law_many_so"] 5 (spY K F_state)) (D_deeds_done : DefOk P w K mg base "deeds_done" ["state", "deeds"] 8 (spD K R_deeds_done)) (D_first_idle : DefOk P w K mg base "first_idle" ["many", "deeds"] 8 (spD K R_first_idle))
    (D_plain_deeds : DefOk P w K mg base "plain_deeds" ["deeds"] 7 (spD K R_plain_deeds)) (D_law_heard : DefOk P w K mg base "_law_heard" ["_law_size", "_law_one", "_law_other"] 10 (spD K R_heard)) (D_law_deeds_done : DefOk P w K mg base "_law_deeds_done" ["_law_state_so", "_law_deeds_so"] 4 (spD K R_law_deeds_done))
    (T : At K mg "_law_left_right" s_law_left_right ["_law_tin", "_law_size", "_law_deeds_here"]) : DefOk P w K mg base "_law_left_right" ["_law_tin", "_law_size", "_law_deeds_here"] 11 (spY K F_left) := by
  refine at_defY T F_left sc_law_left_right (fun ds C R h => by obtain ⟨_, _, rfl, _⟩ := h; rfl) fun f cdv A outer s' H E hr c ds n C R h hn => ?_
  obtain ⟨N, gs, rfl, h2, hN, hk, hl, rfl, rfl⟩ := h
  have hm := mixN_le gs
  obtain ⟨w1, w2, w3⟩ := wi_facts N gs.length gs (Nat.le_refl _)
  have wl := w1.length_le
  have wk := kw_sub w1 hk
  have wm := mixN_le (withoutIdle N gs)
  generalize hd : withoutIdle N gs = due at w1 w2 w3 wl wk wm
  refine ds_set (d := encGs due) 3 (de_call D_law_cut (hr.mono (by decide)) (da_cons (de_var 1 rfl) (da_cons (de_var 2 rfl) da_nil)) ⟨N, gs, rfl, hN, by omega, hk, by omega, by rw [hd]⟩) ?_ sc_law_left_right.nd
  refine ds_set (d := .list [encGs due, encGs due]) 4 (de_lst (da_cons (de_call D_without_idle (hr.mono (by decide)) (da_cons (de_var 1 rfl) (da_cons (de_var 2 rfl) da_nil)) ⟨N, _, gs, rfl, fits_enc h2 hN (by omega) hk, by rw [hd]⟩) (da_cons (de_call D_without_idle (hr.mono (by decide)) (da_cons (de_var 1 rfl) (da_cons (de_call D_law_lists (hr.mono (by decide)) (da_cons (de_var 2 rfl) da_nil) (lists_enc (by omega))) da_nil)) ⟨N, _, gs, rfl, fits_lis h2 hN (by omega) hk, by rw [hd]⟩) da_nil))) ?_ sc_law_left_right.nd
  refine ds_ifF (DT.is (dt_not (dt_val (de_call D_law_same (hr.mono (by decide)) (da_cons (de_var 4 rfl) (da_cons (de_lst (da_cons (de_var 3 rfl) (da_cons (de_var 3 rfl) da_nil))) da_nil)) ⟨_, rfl, okl (n := 6) (by simp) (fun x hx => ?_), rfl⟩))) rfl) ?_
  · have : x = encGs due := by simpa using hx
    rw [this]
    exact okn_mono (ok_encGs (by omega)) (by decide)
  refine ds_setY (m := n + 9) 5 (dy_callP (C := 9) D_law_state (hr.mono (by decide)) rfl (da_cons (de_var 1 rfl) (da_cons de_int da_nil)) ⟨N, 2, rfl, h2, hN, by omega, rfl, rfl⟩ hn) (fun d hd2 => ?_) sc_law_left_right.nd
  obtain ⟨s, rfl, sl, sc, sk⟩ := hd2
  have act : ledAll s due = ledAll s gs := like_act wk hk w2 sl sc sk
  have D_h : R_heard [.int N, encGs due, encGs gs] (.str "no paper") := ⟨⟨N, due, gs, rfl, h2, hN, by omega, by omega, wk, hk, by omega, by omega, w2⟩, rfl⟩
  refine ds_set (d := .list [encS (ledAll s gs), .none, encGs due, .str "no paper"]) 4 (de_lst (da_cons (de_call D_deeds_done (hr.mono (by decide)) (da_cons (de_var 5 rfl) (da_cons (de_var 3 rfl) da_nil)) ⟨s, due, 2, rfl, by omega, by omega, by rw [sl]; exact wk, sk, by omega, by rw [act]⟩) (da_cons (de_call D_first_idle (hr.mono (by decide)) (da_cons (de_var 1 rfl) (da_cons (de_var 3 rfl) da_nil)) ⟨N, _, due, rfl, fits_enc h2 hN (by omega) wk, by rw [w3]; rfl⟩) (da_cons (de_call D_plain_deeds (hr.mono (by decide)) (da_cons (de_var 3 rfl) da_nil) ⟨due, rfl, by omega, plain_of_none wk w3, rfl⟩) (da_cons (de_call D_law_heard (hr.mono (by decide)) (da_cons (de_var 1 rfl) (da_cons (de_var 3 rfl) (da_cons (de_var 2 rfl) da_nil))) D_h) da_nil))))) ?_ sc_law_left_right.nd
  refine ds_ret (de_call D_law_same (hr.mono (by decide)) (da_cons (de_var 4 rfl) (da_cons (de_lst (da_cons (de_call D_law_deeds_done (hr.mono (by decide)) (da_cons (de_var 5 rfl) (da_cons (de_var 2 rfl) da_nil)) ⟨s, gs, 2, rfl, by omega, by rw [sl]; exact hk, sk, by omega, rfl⟩) (da_cons de_non (da_cons (de_var 3 rfl) (da_cons de_str da_nil))))) da_nil)) ⟨_, rfl, okl (n := 6) (by simp) (fun x hx => ?_), rfl⟩) ⟨rfl, n + 9, rfl, Nat.le_refl _⟩
  simp only [List.mem_cons, List.not_mem_nil, or_false] at hx
  rcases hx with rfl | rfl | rfl | rfl
  · exact okn_mono (ok_encS (by rw [ledAll_len]; omega)) (by decide)
  · rfl
  · exact okn_mono (ok_encGs (by omega)) (by decide)
  · simp only [okn]
    exact str_np
end
end DD
/-! T17: across_right -/
namespace DD
open PySem PySem.Spec L2
open PyProof.Rows hiding St
local macro_rules | `(tactic| walk_at "side") => `(tactic| first | exact Nat.le_of_ble_eq_true rfl | assumption | omega | decide | rfl | (simp; done) | (simp; omega))
theorem rep2 {α : Type} (xs : List α) : (List.replicate (2 : Int).toNat xs).flatten = xs ++ xs := by
  show (xs :: xs :: []).flatten = _
  simp
theorem idle_ends {N : Nat} {gs : List Deed} : idleD (rows N gs) (.tuple [.int 0, .int (gs.length : Nat)]) = (decide (rowAt (lones N) gs = rowAt (lones N) []) && decide ((0 : Int) < (gs.length : Nat))) := by
  have hl := rows_len N gs
  have r0 : (rows N gs)[0]? = some (lones N) := rowsFrom_get gs _ 0 (Nat.zero_le _)
  have r1 : (rows N gs)[gs.length]? = some (rowAt (lones N) gs) := by
    have := rowsFrom_get gs (lones N) gs.length (Nat.le_refl _)
    rw [List.take_length] at this
    exact this
  show idleB (rows N gs) 0 (gs.length : Nat) = _
  unfold idleB
  rw [Int.toNat_natCast, show (0 : Int).toNat = 0 from rfl, r0, r1, hl]
  show (decide ((0 : Int) ≤ 0) && decide ((0 : Int) < ((gs.length + 1 : Nat) : Int)) && (decide ((0 : Int) ≤ (gs.length : Nat)) && decide (((gs.length : Nat) : Int) < ((gs.length + 1 : Nat) : Int))) && (decide ((0 : Int) < (gs.length : Nat)) && decide (some (lones N) = some (rowAt (lones N) gs)))) = (decide (rowAt (lones N) gs = lones N) && decide ((0 : Int) < (gs.length : Nat)))
  rw [decide_eq_true (show (0 : Int) ≤ 0 by omega), decide_eq_true (show (0 : Int) < ((gs.length + 1 : Nat) : Int) by omega), decide_eq_true (show (0 : Int) ≤ (gs.length : Nat) by omega), decide_eq_true (show ((gs.length : Nat) : Int) < ((gs.length + 1 : Nat) : Int) by omega)]
  simp only [Bool.true_and, Option.some.injEq]
  rw [Bool.and_comm]
  congr 1
  simp only [decide_eq_decide]
  exact ⟨fun h => h.symm, fun h => h.symm⟩
section
variable {P : Program} {w : World} {K : PySem.W.Frag} {mg : Str → Option Value} {base : Heap}
def F_across (ds : List PyData) (C : Nat) (R : PyData → Prop) : Prop := ds = [] ∧ C = 14 ∧ R = fun d => d = .bool true
theorem ok_law_across_right (Z : Bi mg) (D_law_take : DefOk P w K mg base "_law_take" ["_law_tin", "_law_below_so"] 1 (spY K F_take)) (D_law_circuit : DefOk P w K mg base "_law_circuit" ["_law_tin", "_law_n_so", "_law_many_so"] 4 (spY K F_circuit)) (D_deeds_of_circuit : DefOk P w K mg base "deeds_of_circuit" ["circuit"] 9 (spD K R_deeds_of_circuit))
    (D_is_idle_stretch : DefOk P w K mg base "is_idle_stretch" ["many", "deeds", "thing"] 8 (spD K R_is_idle_stretch)) (D_law_twos : DefOk P w K mg base "_law_twos" ["_law_many_so"] 1 (spD K R_law_twos)) (D_circuits_alike : DefOk P w K mg base "circuits_alike" ["one", "other"] 11 (spD K R_circuits_alike))
    (D_law_same : DefOk P w K mg base "_law_same" ["_law_got", "_law_due"] 8 (spD K (R_law_same 7))) (T : At K mg "_law_across_right" s_law_across_right ["_law_tin"]) : DefOk P w K mg base "_law_across_right" ["_law_tin"] 12 (spY K F_across) := by
  refine at_defY T F_across sc_law_across_right (fun ds C R h => by obtain ⟨rfl, _⟩ := h; rfl) fun f cdv A outer s' H E hr c ds n C R h hn => ?_
  obtain ⟨rfl, rfl, rfl⟩ := h
  refine ds_setY (m := n + 1 + 1 + 12) (R := fun d => ∃ (N : Nat) (gs : List Gate), d = encC N gs ∧ (N = 1 ∨ N = 2) ∧ (∀ g ∈ gs, GOk N g) ∧ 1 ≤ gs.length ∧ gs.length ≤ 3) 1 (dy_call (m1 := n + 1 + 1) (Rs := fun ds => ∃ N M : Nat, ds = [.int N, .int M] ∧ (N = 1 ∨ N = 2) ∧ 1 ≤ M ∧ M ≤ 3) (C := 12) D_law_circuit (hr.mono (by decide)) rfl (hle := by omega)
    (ha := dya_cons (m1 := n + 1) (R1 := fun d => ∃ N : Nat, d = .int N ∧ (N = 1 ∨ N = 2)) (dy_opR op_add de_int (dy_callP D_law_take (hr.mono (by decide)) rfl (da_cons de_int da_nil) ⟨2, rfl, by omega, by omega, rfl, rfl⟩ (by omega)) fun d hd => ?_) fun d hd => dya_cons (m1 := n + 1 + 1) (R1 := fun d => ∃ M : Nat, d = .int M ∧ 1 ≤ M ∧ M ≤ 3) (dy_opR op_add de_int (dy_callP D_law_take (hr.mono (by decide)) rfl (da_cons de_int da_nil) ⟨3, rfl, by omega, by omega, rfl, rfl⟩ (by omega)) fun d2 hd2 => ?_) fun d2 hd2 => ?_) (h := fun ds hds => ?_) (hC := by omega)) (fun d hd => ?_) sc_law_across_right.nd
  · obtain ⟨i, rfl, hi⟩ := hd
    exact ⟨_, ⟨1 + i, by rw [show (1 : Int) + (i : Int) = ((1 + i : Nat) : Int) by omega], by omega⟩, opd_add⟩
  · obtain ⟨i, rfl, hi⟩ := hd2
    exact ⟨_, ⟨1 + i, by rw [show (1 : Int) + (i : Int) = ((1 + i : Nat) : Int) by omega], by omega, by omega⟩, opd_add⟩
  · obtain ⟨N, rfl, hN⟩ := hd
    obtain ⟨M, rfl, h1, h3⟩ := hd2
    exact dya_nil ⟨N, M, rfl, hN, h1, h3⟩
  · obtain ⟨N, M, rfl, hN, h1, h3⟩ := hds
    refine ⟨_, ⟨N, M, rfl, hN, h1, h3, by omega, rfl⟩, fun d hd => ?_⟩
    obtain ⟨gs, rfl, hg, hl⟩ := hd
    exact ⟨N, gs, rfl, hN, hg, by omega, by omega⟩
  · obtain ⟨N, gs, rfl, hN, hg, hl1, hl3⟩ := hd
    have hc : CircOk N (gs ++ gs) := ⟨by omega, by omega, by rw [List.length_append]; omega, fun g h => by rcases List.mem_append.mp h with h | h <;> exact hg g h⟩
    have hc0 : CircOk N [] := ⟨by omega, by omega, by simp, (fun g h => nomatch h)⟩
    obtain ⟨k1, k2, k3⟩ := circ_kw hc.ok
    have hll := hc.len
    have hp : 2 ≤ 2 ^ N ∧ 2 ^ N ≤ 4 := by rcases hN with rfl | rfl <;> decide
    generalize ha : circActs N (gs ++ gs) = acts at k1 k2 k3
    refine ds_set (d := encC N (gs ++ gs)) 2 (DE.is (de_tup (da_cons (de_ixT (de_var 1 rfl) de_int rfl) (da_cons (de_bin (de_ixT (de_var 1 rfl) de_int rfl) de_int (b_repT (fun z => by have z := congrArg List.length z; rw [List.length_map] at z; simp at z; rw [z] at hl1; simp at hl1) (by walk_at "side") (by walk_at "side") (by walk_at "side"))) da_nil))) ?_) ?_ sc_law_across_right.nd
    · rw [rep2, ← List.map_append]
      rfl
    refine ds_set (d := encGs acts) 3 (de_call D_deeds_of_circuit (hr.mono (by decide)) (da_cons (de_var 2 rfl) da_nil) ⟨N, gs ++ gs, rfl, hc, by rw [ha]⟩) ?_ sc_law_across_right.nd
    refine ds_ret (de_call D_law_same (hr.mono (by decide)) (da_cons (de_call D_is_idle_stretch (hr.mono (by decide)) (da_cons (de_call D_law_twos (hr.mono (by decide)) (da_cons (de_ixT (de_var 1 rfl) de_int rfl) da_nil) ⟨N, rfl, by omega, rfl⟩) (da_cons (de_var 3 rfl) (da_cons (de_tup (da_cons de_int (da_cons (de_lenT Z.len (de_var 3 rfl)) da_nil))) da_nil))) ⟨2 ^ N, encGs acts, _, acts, rfl, ok_encGs (by omega), (tup_mono (encGs_ok (by omega)) (by decide)).trans (tup_id (encGs_ok (by omega))), hp.1, by omega, by omega, k1, by omega, .inl ⟨0, acts.length, by rw [List.length_map]⟩, rfl⟩) (da_cons (de_and (de_call D_circuits_alike (hr.mono (by decide)) (da_cons (de_var 2 rfl) (da_cons (de_tup (da_cons (de_ixT (de_var 1 rfl) de_int rfl) (da_cons (de_tup da_nil) da_nil))) da_nil)) ⟨N, gs ++ gs, [], rfl, hc, hc0, rfl⟩) (fun _ => (de_one (de_cmp (de_lenT Z.len (de_var 3 rfl)) de_int c_gt)))) da_nil)) ⟨_, by rw [List.length_map, idle_ends, ha]; rfl, rfl, rfl⟩) ⟨rfl, n + 1 + 1 + 12, rfl, by omega⟩
end
end DD
/-! T18: stretches_right -/
namespace DD
open PySem PySem.Spec L2
open PyProof.Rows hiding St
local macro_rules | `(tactic| walk_at "side") => `(tactic| first | exact Nat.le_of_ble_eq_true rfl | assumption | omega | decide | rfl | (simp; done) | (simp; omega))
section
variable {α : Type} [DecidableEq α]
/-- the places behind p with the like row -/
def behind (rs : List α) (m p : Nat) : List (Nat × Nat) := ((List.range (m + 1 - (p + 1))).map fun i => (p, p + 1 + i)).filter fun q => decide (rs[q.1]? = rs[q.2]?)
def pairsTo (rs : List α) (m : Nat) : Nat → List (Nat × Nat)
  | 0 => []
  | k + 1 => pairsTo rs m k ++ behind rs m k
theorem mem_behind {rs : List α} {m p : Nat} {q : Nat × Nat} : q ∈ behind rs m p ↔ q.1 = p ∧ p < q.2 ∧ q.2 ≤ m ∧ rs[q.1]? = rs[q.2]? := by
  unfold behind
  rw [List.mem_filter, List.mem_map, decide_eq_true_eq]
  constructor
  · rintro ⟨⟨i, hi, rfl⟩, h⟩
    have := List.mem_range.mp hi
    exact ⟨rfl, by show p < p + 1 + i; omega, by show p + 1 + i ≤ m; omega, h⟩
  · rintro ⟨h1, h2, h3, h4⟩
    refine ⟨⟨q.2 - (p + 1), List.mem_range.mpr (by omega), ?_⟩, h4⟩
    obtain ⟨a, b⟩ := q
    simp only at h1 h2 h3 ⊢
    subst h1
    rw [show a + 1 + (b - (a + 1)) = b by omega]
theorem mem_pairs {rs : List α} {m : Nat} {q : Nat × Nat} : ∀ {k : Nat}, q ∈ pairsTo rs m k ↔ q.1 < k ∧ q.1 < q.2 ∧ q.2 ≤ m ∧ rs[q.1]? = rs[q.2]?
  | 0 => by simp [pairsTo]
  | k + 1 => by
    show q ∈ pairsTo rs m k ++ behind rs m k ↔ _
    rw [List.mem_append, mem_pairs, mem_behind]
    constructor
    · rintro (⟨h1, h2, h3, h4⟩ | ⟨h1, h2, h3, h4⟩)
      · exact ⟨by omega, h2, h3, h4⟩
      · exact ⟨by omega, by omega, h3, h4⟩
    · rintro ⟨h1, h2, h3, h4⟩
      by_cases e : q.1 = k
      · exact .inr ⟨e, by omega, h3, h4⟩
      · exact .inl ⟨by omega, h2, h3, h4⟩
theorem behind_len (rs : List α) (m p : Nat) : (behind rs m p).length ≤ m := by
  unfold behind
  refine Nat.le_trans (List.length_filter_le _ _) ?_
  rw [List.length_map, List.length_range]
  omega
theorem pairs_len (rs : List α) (m : Nat) : ∀ k, (pairsTo rs m k).length ≤ k * m
  | 0 => by simp [pairsTo]
  | k + 1 => by
    show (pairsTo rs m k ++ behind rs m k).length ≤ _
    have h1 := pairs_len rs m k
    have h2 := behind_len rs m k
    rw [List.length_append, Nat.add_mul]
    omega
end
def encP (q : Nat × Nat) : PyData := .tuple [.int (q.1 : Nat), .int (q.2 : Nat)]
theorem encP_inj {q r : Nat × Nat} : encP q = encP r ↔ q = r := by
  obtain ⟨a, b⟩ := q
  obtain ⟨c, d⟩ := r
  simp only [encP, PyData.tuple.injEq, List.cons.injEq, PyData.int.injEq, Prod.mk.injEq, and_true]
  omega
theorem encP_ok (q : Nat × Nat) : okn false false 1 (encP q) = true := by simp [encP, okn]
/-- what may be asked: a pair of places, or one place -/
def askOk (x : PyData) : Prop := (∃ q : Nat × Nat, x = encP q) ∨ x = .tuple [.int 0]
theorem ask_thing {x : PyData} (h : askOk x) : thingOk x := by
  rcases h with ⟨q, rfl⟩ | rfl
  · exact .inl ⟨_, _, rfl⟩
  · exact .inr rfl
theorem ask_ok {x : PyData} (h : askOk x) : okn false false 1 x = true := by
  rcases h with ⟨q, rfl⟩ | rfl
  · exact encP_ok q
  · rfl
theorem ask_one {d : PyData} (h : askOk d) : [d].length ≤ 1 ∧ ∀ x ∈ [d], askOk x := ⟨Nat.le_refl _, fun x hx => by
  have : x = d := by simpa using hx
  rw [this]; exact h⟩
theorem list_shaped {xs : List PyData} (h : ∀ x ∈ xs, okn false false 1 x = true) : SeqAt.shaped (.list xs) = true := by
  obtain ⟨h1, h2⟩ := lay_all (okn_lay (b := false) (l := false) 1) xs (List.all_eq_true.mpr h)
  show (PyData.canLay0 (.list xs) && decide (PyData.depth (.list xs) ≤ 64)) = true
  rw [show PyData.canLay0 (.list xs) = true by simpa only [PyData.canLay0] using h1, decide_eq_true (by simp only [PyData.depth]; omega)]
  rfl
theorem one_ne (q : Nat × Nat) : encP q ≠ .tuple [.int 0] := by simp [encP]
/-- in the pairs is: an idle stretch -/
theorem in_pairs {α : Type} [DecidableEq α] {rs : List α} {m : Nat} (hl : rs.length = m + 1) {x : PyData} (h : askOk x) : (((pairsTo rs m m).map encP).any fun z => PyData.eqv z x) = idleD rs x := by
  have ek : ∀ z : PyData, okn false false 1 z = true → (PyData.eqv z x = true ↔ z = x) := fun z hz => eqv_ok 1 z x hz (ask_ok h)
  rcases h with ⟨q, rfl⟩ | rfl
  · obtain ⟨a, b⟩ := q
    have e : ((pairsTo rs m m).map encP).any (fun z => PyData.eqv z (encP (a, b))) = decide ((a, b) ∈ pairsTo rs m m) := by
      rw [Bool.eq_iff_iff, List.any_eq_true, decide_eq_true_eq]
      constructor
      · rintro ⟨z, hz, he⟩
        obtain ⟨r, hr, rfl⟩ := List.mem_map.mp hz
        rw [← encP_inj.mp ((ek _ (encP_ok r)).mp he)]
        exact hr
      · intro hq
        exact ⟨_, List.mem_map.mpr ⟨_, hq, rfl⟩, (ek _ (encP_ok _)).mpr rfl⟩
    rw [e]
    show _ = idleB rs (a : Nat) (b : Nat)
    unfold idleB
    rw [Bool.eq_iff_iff, decide_eq_true_eq, mem_pairs]
    simp only [Bool.and_eq_true, decide_eq_true_eq, Int.toNat_natCast, hl]
    constructor
    · rintro ⟨h1, h2, h3, h4⟩
      exact ⟨⟨⟨by omega, by omega⟩, by omega, by omega⟩, by omega, h4⟩
    · rintro ⟨⟨⟨h1, h2⟩, h3, h4⟩, h5, h6⟩
      exact ⟨by omega, by omega, by omega, h6⟩
  · show _ = false
    rw [Bool.eq_false_iff]
    intro hc
    rw [List.any_eq_true] at hc
    obtain ⟨z, hz, he⟩ := hc
    obtain ⟨r, hr, rfl⟩ := List.mem_map.mp hz
    exact one_ne r ((ek _ (encP_ok r)).mp he)
theorem last_pairs (ps : List (Nat × Nat)) : ∀ x ∈ cutD (ps.map encP) (some (-1)) none, askOk x := fun x hx => by
  unfold cutD at hx
  obtain ⟨q, _, rfl⟩ := List.mem_map.mp (List.mem_of_mem_drop (List.mem_of_mem_take hx))
  exact .inl ⟨q, rfl⟩
theorem last_len (xs : List PyData) : (cutD xs (some (-1)) none).length ≤ 1 := by
  unfold cutD
  have e : HT.sIx xs.length 0 (some (-1)) = xs.length - 1 := by
    show (if (-1 : Int) < 0 then ((-1 : Int) + (xs.length : Int)).toNat else min (-1 : Int).toNat xs.length) = _
    rw [if_pos (by decide)]
    omega
  rw [e, HT.sIx_none, List.length_take]
  omega
theorem okT {n : Nat} {xs : List PyData} (hl : xs.length ≤ 1000) (h : ∀ x ∈ xs, okn true true n x = true) : okn true true (n + 1) (.tuple xs) = true := by
  simp only [okn, Bool.and_eq_true, decide_eq_true_eq, List.all_eq_true]
  exact ⟨hl, h⟩
theorem okO (o : Option (Nat × Nat)) : okn true true 6 (encO o) = true := by
  cases o with
  | none => rfl
  | some q => exact okT (n := 5) (by simp) (fun x hx => by simp only [List.mem_cons, List.not_mem_nil, or_false] at hx; rcases hx with rfl | rfl <;> rfl)
theorem str_place : PyData.strOk ("place" : Str) = true := by decide +kernel
section
variable {P : Program} {w : World} {K : PySem.W.Frag} {mg : Str → Option Value} {base : Heap} {C0 fI : Addr}
def F_stretches (ds : List PyData) (C : Nat) (R : PyData → Prop) : Prop := ∃ (N : Nat) (gs : List Deed), ds = [.int N, encGs gs] ∧ 2 ≤ N ∧ N ≤ 1000 ∧ kw gs N ∧ gs.length ≤ 40 ∧ C = 3 ∧ R = fun d => d = .bool true
theorem ok_law_stretches_right (Z : Bi mg) (D_law_take : DefOk P w K mg base "_law_take" ["_law_tin", "_law_below_so"] 1 (spY K F_take)) (D_law_of : DefOk P w K mg base "_law_of" ["_law_tin", "_law_goods_so"] 2 (spY K F_of)) (D_law_rows : DefOk P w K mg base "_law_rows" ["_law_size", "_law_deeds_here"] 4 (spD K R_law_rows)) (D_law_first : DefOk P w K mg base "_law_first" ["_law_rows_here"] 1 (spD K R_law_first))
    (D_first_idle : DefOk P w K mg base "first_idle" ["many", "deeds"] 8 (spD K R_first_idle)) (D_law_lists : DefOk P w K mg base "_law_lists" ["_law_matter"] 6 (spD K (R_law_lists 5))) (D_law_same : DefOk P w K mg base "_law_same" ["_law_got", "_law_due"] 8 (spD K (R_law_same 7)))
    (D_is_idle_stretch : DefOk P w K mg base "is_idle_stretch" ["many", "deeds", "thing"] 8 (spD K R_is_idle_stretch)) (D_law_asked : DefOk P w K mg base "_law_asked" ["_law_size", "_law_deeds_here", "_law_thing"] 9 (spD K R_asked))
    (T : At K mg "_law_stretches_right" s_law_stretches_right ["_law_tin", "_law_size", "_law_deeds_here"]) : DefOk P w K mg base "_law_stretches_right" ["_law_tin", "_law_size", "_law_deeds_here"] 11 (spY K F_stretches) := by
  refine at_defY T F_stretches sc_law_stretches_right (fun ds C R h => by obtain ⟨_, _, rfl, _⟩ := h; rfl) fun f cdv A outer s' H E hr c ds n C R h hn => ?_
  obtain ⟨N, gs, rfl, h2, hN, hk, hl, rfl, rfl⟩ := h
  have hm := mixN_le gs
  have hrl := rows_len N gs
  have hrok : ∀ (i : Nat) r, (rows N gs)[i]? = some r → okn false false 3 (encRow r) = true := fun i r h => row_ok hN h
  refine ds_unp (de_tup (da_cons (de_call D_law_rows (hr.mono (by decide)) (da_cons (de_var 1 rfl) (da_cons (de_var 2 rfl) da_nil)) ⟨N, gs, rfl, hN, by omega, hk, by omega, rfl⟩) (da_cons (de_lenT Z.len (de_var 2 rfl)) da_nil))) (dg_tup rfl (dgs_cons (dg_name 3 sc_law_stretches_right.nd) (dgs_cons (dg_name 4 sc_law_stretches_right.nd) dgs_nil))) ?_
  rw [List.length_map]
  refine ds_set 5 (de_call D_law_first (hr.mono (by decide)) (da_cons (de_var 3 rfl) da_nil) (first_rows hN (by omega))) ?_ sc_law_stretches_right.nd
  refine ds_set (d := .list [encO (first (rows N gs)), encO (first (rows N gs))]) 6 (de_lst (da_cons (de_call D_first_idle (hr.mono (by decide)) (da_cons (de_var 1 rfl) (da_cons (de_var 2 rfl) da_nil)) ⟨N, _, gs, rfl, fits_enc h2 hN (by omega) hk, rfl⟩) (da_cons (de_call D_first_idle (hr.mono (by decide)) (da_cons (de_var 1 rfl) (da_cons (de_call D_law_lists (hr.mono (by decide)) (da_cons (de_var 2 rfl) da_nil) (lists_enc (by omega))) da_nil)) ⟨N, _, gs, rfl, fits_lis h2 hN (by omega) hk, rfl⟩) da_nil))) ?_ sc_law_stretches_right.nd
  refine ds_ifF (DT.is (dt_not (dt_val (de_call D_law_same (hr.mono (by decide)) (da_cons (de_var 6 rfl) (da_cons (de_lst (da_cons (de_var 5 rfl) (da_cons (de_var 5 rfl) da_nil))) da_nil)) ⟨_, rfl, okl (n := 6) (by simp) (fun x hx => ?_), rfl⟩))) rfl) ?_
  · have : x = encO (first (rows N gs)) := by simpa using hx
    rw [this]
    exact okO _
  refine ds_set (d := .list ((pairsTo (rows N gs) gs.length 0).map encP)) 7 (de_lst da_nil) ?_ sc_law_stretches_right.nd
  refine ds_for (di_rng1 Z.range (de_var 4 rfl) (by walk_at "side") (by walk_at "side")) (fun i ρ' => i ≤ gs.length ∧ ∃ x y, ρ' = [.tin n, .d (.int N), .d (encGs gs), .d (.list ((rows N gs).map encRow)), .d (.int gs.length), .d (encO (first (rows N gs))), .d (.list [encO (first (rows N gs)), encO (first (rows N gs))]), .d (.list ((pairsTo (rows N gs) gs.length i).map encP)), x, y, .no, .no, .no, .no]) ⟨Nat.zero_le _, .no, .no, rfl⟩ (fun i x ρ1 hx hI => ?_) fun ρ1 hI => ?_
  · obtain ⟨_, y1, y2, rfl⟩ := hI
    obtain ⟨hi, rfl⟩ := up_at hx
    rw [Int.toNat_natCast] at hi
    have hpl := pairs_len (rows N gs) gs.length i
    have hbl := behind_len (rows N gs) gs.length i
    have hmul : i * gs.length ≤ 40 * 40 := Nat.mul_le_mul (by omega) hl
    refine ⟨_, _, dg_name 8 sc_law_stretches_right.nd, ?_⟩
    have ef : (upD ((i : Int) + 1) 1 (((gs.length : Int) + 1) - ((i : Int) + 1)).toNat).filterMap (fun z => match z with | .int q => if decide ((rows N gs)[i]? = (rows N gs)[q.toNat]?) = true then some (encP (i, q.toNat)) else none | _ => none) = (behind (rows N gs) gs.length i).map encP := by
      unfold upD behind
      rw [← fm_filter, List.filterMap_map, List.filterMap_map, show (((gs.length : Int) + 1) - ((i : Int) + 1)).toNat = gs.length + 1 - (i + 1) by omega]
      refine congrArg (fun f => List.filterMap f _) (funext fun q => ?_)
      show (if decide ((rows N gs)[i]? = (rows N gs)[((i : Int) + 1 + (q : Nat) * 1).toNat]?) = true then some (encP (i, ((i : Int) + 1 + (q : Nat) * 1).toNat)) else none) = if decide ((rows N gs)[i]? = (rows N gs)[i + 1 + q]?) = true then some (encP (i, i + 1 + q)) else none
      rw [show ((i : Int) + 1 + (q : Nat) * 1).toNat = i + 1 + q by omega]
    refine ds_set (d := .list ((pairsTo (rows N gs) gs.length (i + 1)).map encP)) 7 (DE.is (DN.de (dn_bin (de_var 7 rfl) (DN.de (dn_lc (own := [("_law_q", 9)]) (fun z => match z with | .int q => if decide ((rows N gs)[i]? = (rows N gs)[q.toNat]?) = true then some (encP (i, q.toNat)) else none | _ => none) sc_law_stretches_right.nd (blkOk_by (N := N_law_stretches_right) (sc := defScope s_law_stretches_right) (by decide +kernel)) (di_rng2 Z.range (da_cons (de_bin (de_var 8 rfl) de_int b_add) (da_cons (de_bin (de_var 4 rfl) de_int b_add) da_nil)) (by walk_at "side")) (fun j z hz => ?_) (by rw [upD_len]; omega))) (b_cat (by rw [ef, List.length_map, List.length_map]; omega)))) ?_) (ds_nil ⟨by omega, .d (.int i), y2, rfl⟩) sc_law_stretches_right.nd
    · have hj := (List.getElem?_eq_some_iff.mp hz).1
      rw [upD_len] at hj
      rw [upD_get hj] at hz
      cases hz
      rw [show (i : Int) + 1 + (j : Nat) * 1 = ((i + 1 + j : Nat) : Int) by omega]
      have hi2 : i < (rows N gs).length := by omega
      have hj2 : i + 1 + j < (rows N gs).length := by omega
      have g1 := List.getElem?_eq_getElem hi2
      have g2 := List.getElem?_eq_getElem hj2
      have a1 : atI ((rows N gs).map encRow) (i : Int) = some (encRow (rows N gs)[i]) := atI_nat (by rw [List.getElem?_map, g1]; rfl)
      have a2 : atI ((rows N gs).map encRow) ((i + 1 + j : Nat) : Int) = some (encRow (rows N gs)[i + 1 + j]) := atI_nat (by rw [List.getElem?_map, g2]; rfl)
      have o1 := hrok _ _ g1
      have o2 := hrok _ _ g2
      refine ⟨[.tin n, .d (.int N), .d (encGs gs), .d (.list ((rows N gs).map encRow)), .d (.int gs.length), .d (encO (first (rows N gs))), .d (.list [encO (first (rows N gs)), encO (first (rows N gs))]), .d (.list ((pairsTo (rows N gs) gs.length i).map encP)), .d (.int i), .d (.int (i + 1 + j : Nat)), .no, .no, .no, .no], [9], decide ((rows N gs)[i]? = (rows N gs)[i + 1 + j]?), by decide, fun s' H' C cl fp => ⟨dg_name 9 sc_law_stretches_right.nd, dts_one (DT.is (dt_cmp (de_ixL (de_var 3 rfl) (de_var 8 rfl) a1) (de_ixL (de_var 3 rfl) (de_var 9 rfl) a2) (c_eqD (hu64 hr) (okn_shaped o1) (okn_shaped o2))) ?_), fun kz => ⟨encP (i, i + 1 + j), ?_, (de_tup (da_cons (de_var 8 rfl) (da_cons (de_var 9 rfl) da_nil)))⟩, fun kz => ?_⟩⟩
      · rw [eqv_dec o1 o2 encRow_inj, g1, g2]
        simp only [Option.some.injEq]
      · show (if decide ((rows N gs)[i]? = (rows N gs)[(((i + 1 + j : Nat) : Int)).toNat]?) = true then some (encP (i, (((i + 1 + j : Nat) : Int)).toNat)) else none) = _
        rw [Int.toNat_natCast, kz]
        rfl
      · show (if decide ((rows N gs)[i]? = (rows N gs)[(((i + 1 + j : Nat) : Int)).toNat]?) = true then some (encP (i, (((i + 1 + j : Nat) : Int)).toNat)) else none) = _
        rw [Int.toNat_natCast, kz]
        rfl
    · rw [ef, ← List.map_append]
      rfl
  · obtain ⟨_, y1, y2, rfl⟩ := hI
    rw [upD_len, Int.toNat_natCast]
    have hpl := pairs_len (rows N gs) gs.length gs.length
    generalize hps : pairsTo (rows N gs) gs.length gs.length = ps at hpl ⊢
    have hmul : gs.length * gs.length ≤ 40 * 40 := Nat.mul_le_mul hl hl
    refine ds_forget 8 (ds_forget 9 ?_)
    refine ds_setY (m := n + 1 + 1 + 1) (R := fun d => ∃ asks : List PyData, d = .list asks ∧ asks.length ≤ 3 ∧ ∀ x ∈ asks, askOk x) 10 (dy_op op_cat (m1 := n + 1 + 1) (R1 := fun d => ∃ asks : List PyData, d = .list asks ∧ asks.length ≤ 2 ∧ ∀ x ∈ asks, askOk x) (dy_op op_cat (m1 := n + 1 + 1) (R1 := fun d => ∃ asks : List PyData, d = .list asks ∧ asks.length ≤ 1 ∧ ∀ x ∈ asks, askOk x) (dy_lst (Rs := fun ds => ds.length ≤ 1 ∧ ∀ x ∈ ds, askOk x) (dya_cons (m1 := n + 1 + 1) (R1 := askOk) (dy_tup (Rs := fun ds => askOk (.tuple ds) ∧ ds.length ≤ 2) (dya_cons (m1 := n + 1) (dy_callP D_law_take (hr.mono (by decide)) rfl (da_cons (de_bin (de_var 4 rfl) de_int b_add) da_nil) ⟨gs.length + 1, rfl, by omega, by omega, rfl, rfl⟩ (by omega)) fun d hd => dya_cons (m1 := n + 1 + 1) (dy_callP D_law_take (hr.mono (by decide)) rfl (da_cons (de_bin (de_var 4 rfl) de_int b_add) da_nil) ⟨gs.length + 1, rfl, by omega, by omega, rfl, rfl⟩ (by omega)) fun d2 hd2 => ?_) fun ds hds => ⟨hds.1, by have := hds.2; omega⟩) fun d hd => dya_nil (ask_one hd)) fun ds hds => ⟨⟨ds, rfl, hds⟩, by have := hds.1; omega⟩)
      (fun d hd => DE.dy (R := fun d => ∃ asks : List PyData, d = .list asks ∧ asks.length ≤ 1 ∧ ∀ x ∈ asks, askOk x) (dn_slL (de_var 7 rfl) (do_some (de_neg de_int)) do_none).de ⟨_, rfl, last_len _, last_pairs ps⟩) fun da db hda hdb => ?_) (fun d hd => dy_callP (C := 1) D_law_of (hr.mono (by decide)) rfl (da_cons (de_lst (da_cons (de_lst (da_cons (de_tup (da_cons de_int (da_cons (de_bin (de_var 4 rfl) de_int b_add) da_nil))) da_nil)) (da_cons (de_lst (da_cons (de_tup (da_cons (de_var 4 rfl) (da_cons (de_var 4 rfl) da_nil))) da_nil)) (da_cons (de_lst (da_cons (de_tup (da_cons de_int da_nil)) da_nil)) da_nil)))) da_nil) ⟨_, rfl, by simp, by simp, rfl, rfl⟩ (by omega)) fun da db hda hdb => ?_) (fun d hd => ?_) sc_law_stretches_right.nd
    · obtain ⟨i, rfl, _⟩ := hd
      obtain ⟨j, rfl, _⟩ := hd2
      exact dya_nil ⟨.inl ⟨(i, j), rfl⟩, by simp⟩
    · obtain ⟨xs, rfl, l1, h1⟩ := hda
      obtain ⟨ys, rfl, l2, h2'⟩ := hdb
      exact ⟨_, ⟨_, rfl, by rw [List.length_append]; omega, fun x hx => by rcases List.mem_append.mp hx with q | q; exact h1 x q; exact h2' x q⟩, opd_catL (by omega)⟩
    · obtain ⟨xs, rfl, l1, h1⟩ := hda
      have h4 : ∃ y, db = .list [y] ∧ askOk y := by
        simp only [List.mem_cons, List.not_mem_nil, or_false] at hdb
        rcases hdb with rfl | rfl | rfl
        · exact ⟨_, rfl, .inl ⟨(0, gs.length + 1), rfl⟩⟩
        · exact ⟨_, rfl, .inl ⟨(gs.length, gs.length), rfl⟩⟩
        · exact ⟨_, rfl, .inr rfl⟩
      obtain ⟨y, rfl, hy⟩ := h4
      refine ⟨_, ⟨_, rfl, by rw [List.length_append]; simp; omega, fun x hx => ?_⟩, opd_catL (by simp; omega)⟩
      rcases List.mem_append.mp hx with q | q
      · exact h1 x q
      · have : x = y := by simpa using q
        rw [this]; exact hy
    · obtain ⟨asks, rfl, hal, hask⟩ := hd
      have hshp : SeqAt.shaped (.list (ps.map encP)) = true := list_shaped fun x hx => by obtain ⟨q, _, rfl⟩ := List.mem_map.mp hx; exact encP_ok q
      refine ds_setLc 11 (own := [("_law_own", 12)]) (fun y => some (.bool (idleD (rows N gs) y))) sc_law_stretches_right.nd (blkOk_by (N := N_law_stretches_right) (sc := defScope s_law_stretches_right) (by decide +kernel)) (di_list (de_var 10 rfl)) (fun l y hi => ⟨[.tin (n + 1 + 1 + 1), .d (.int N), .d (encGs gs), .d (.list ((rows N gs).map encRow)), .d (.int gs.length), .d (encO (first (rows N gs))), .d (.list [encO (first (rows N gs)), encO (first (rows N gs))]), .d (.list (ps.map encP)), .no, .no, .d (.list asks), .no, .d y, .no], [12], true, by decide, fun s' H' C cl fp => ⟨dg_name 12 sc_law_stretches_right.nd, dts_nil, fun _ => ⟨_, rfl, DE.is (de_cmp (de_var 12 rfl) (de_var 7 rfl) (c_inD (hu65 hr) (okn_shaped (ask_ok (hask y (List.mem_of_getElem? hi)))) hshp)) (by rw [← hps, in_pairs hrl (hask y (List.mem_of_getElem? hi))])⟩, fun z => nomatch z⟩⟩) (by omega) ?_ rfl
      refine ds_setLc 6 (own := [("_law_own", 12)]) (fun y => some (.bool (idleD (rows N gs) y))) sc_law_stretches_right.nd (blkOk_by (N := N_law_stretches_right) (sc := defScope s_law_stretches_right) (by decide +kernel)) (di_list (de_var 10 rfl)) (fun l y hi => ⟨[.tin (n + 1 + 1 + 1), .d (.int N), .d (encGs gs), .d (.list ((rows N gs).map encRow)), .d (.int gs.length), .d (encO (first (rows N gs))), .d (.list [encO (first (rows N gs)), encO (first (rows N gs))]), .d (.list (ps.map encP)), .no, .no, .d (.list asks), .d (.list (asks.filterMap fun y => some (.bool (idleD (rows N gs) y)))), .d y, .no], [12], true, by decide, fun s' H' C cl fp => ⟨dg_name 12 sc_law_stretches_right.nd, dts_nil, fun _ => ⟨_, rfl, (de_call D_is_idle_stretch (hr.mono (by decide)) (da_cons (de_var 1 rfl) (da_cons (de_var 2 rfl) (da_cons (de_var 12 rfl) da_nil))) ⟨N, _, y, gs, rfl, (fits_enc h2 hN (by omega) hk).1, (fits_enc h2 hN (by omega) hk).2.1, h2, hN, by omega, hk, by omega, ask_thing (hask y (List.mem_of_getElem? hi)), rfl⟩)⟩, fun z => nomatch z⟩⟩) (by omega) ?_ rfl
      have eb : (PyData.tuple (gs.map encG ++ [.tuple [.str "turn", .int N]])) = encGs (gs ++ Deed.turn N :: []) := by
        unfold encGs
        rw [List.map_append]
        rfl
      refine ds_set (d := encGs (gs ++ Deed.turn N :: [])) 13 (DE.is (de_bin (de_var 2 rfl) (de_tup (da_cons (de_tup (da_cons de_str (da_cons (de_var 1 rfl) da_nil))) da_nil)) (b_catT (by walk_at "side"))) eb) ?_ sc_law_stretches_right.nd
      have hbad : R_asked [.int N, encGs (gs ++ Deed.turn N :: []), .none] (.list [.str "place", .int N]) := .inr ⟨N, ⟨_, _, _, rfl, N, _, gs, [], .turn N, N, rfl, ok_encGs (by rw [List.length_append]; simp; omega), (tup_mono (encGs_ok (by rw [List.length_append]; simp; omega)) (by decide)).trans (tup_id (encGs_ok (by rw [List.length_append]; simp; omega))), hk, by simp [badN, natsG], rfl⟩, rfl⟩
      refine ds_ret (DE.is (de_call D_law_same (hr.mono (by decide)) (da_cons (dn_bin (de_var 6 rfl) (de_lst (da_cons (de_call D_law_asked (hr.mono (by decide)) (da_cons (de_var 1 rfl) (da_cons (de_var 13 rfl) (da_cons de_non da_nil))) hbad) da_nil)) (b_cat (by walk_at "side"))).de (da_cons (dn_bin (de_var 11 rfl) (de_lst (da_cons (de_lst (da_cons de_str (da_cons (de_var 1 rfl) da_nil))) da_nil)) (b_cat (by walk_at "side"))).de da_nil)) ⟨_, rfl, okl (n := 6) ?_ (fun x hx => ?_), rfl⟩) rfl) ⟨rfl, n + 1 + 1 + 1, rfl, by omega⟩
      · rw [List.length_append]
        have := List.length_filterMap_le (fun y => some (PyData.bool (idleD (rows N gs) y))) asks
        simp only [List.length_singleton]
        omega
      · rcases List.mem_append.mp hx with q | q
        · obtain ⟨y, _, hy⟩ := List.mem_filterMap.mp q
          cases hy
          rfl
        · have : x = .list [.str "place", .int N] := by simpa using q
          rw [this]
          refine okl (n := 5) (by simp) (fun z hz => ?_)
          simp only [List.mem_cons, List.not_mem_nil, or_false] at hz
          rcases hz with rfl | rfl
          · simp only [okn]; exact str_place
          · rfl
end
end DD
/-! T19: by_hand_right -/
namespace DD
open PySem PySem.Spec L2
open PyProof.Rows hiding St
local macro_rules | `(tactic| walk_at "side") => `(tactic| first | exact Nat.le_of_ble_eq_true rfl | assumption | omega | decide | rfl | (simp; done) | (simp; omega))
def hChk (N : Nat) (gs : List Deed) : Bool := decide (2 ≤ N) && decide (N ≤ 1000) && decide (gs.length ≤ 900) && gs.all (fun g => g.ok N) && decide (mixN gs ≤ 119)
theorem fitsH {N : Nat} {gs : List Deed} (h : hChk N gs = true) : Fits (encGs gs) N gs := by
  unfold hChk at h
  simp only [Bool.and_eq_true, decide_eq_true_eq, List.all_eq_true] at h
  obtain ⟨⟨⟨⟨h1, h2⟩, h3⟩, h4⟩, h5⟩ := h
  have e := encGs_ok (s := gs) (by omega)
  exact ⟨okn_mono (okn_wide (by simp) (by simp) e) (by decide), (tup_mono e (by decide)).trans (tup_id e), h1, h2, h3, h4, h5⟩
theorem fitsL {N : Nat} {gs : List Deed} (h : hChk N gs = true) : Fits (lis 5 (encGs gs)) N gs := by
  have F := fitsH h
  have e : okn true false 5 (encGs gs) = true := okn_mono (okn_wide (by simp) (by simp) (encGs_ok (s := gs) (by have := F.2.2.2.2.1; omega))) (by decide)
  exact ⟨okn_lis e, tup_lis e, F.2.2⟩
theorem fiH {N : Nat} {gs : List Deed} {o : Option (Nat × Nat)} {ds : List PyData} (e : ds = [.int N, encGs gs]) (hc : hChk N gs = true) (ho : firstIdle N gs = o) : R_first_idle ds (encO o) := ⟨N, _, gs, e, fitsH hc, by rw [ho]⟩
theorem wiH {N : Nat} {gs hs : List Deed} {ds : List PyData} (e : ds = [.int N, encGs gs]) (hc : hChk N gs = true) (ho : withoutIdle N gs = hs) : R_without_idle ds (encGs hs) := ⟨N, _, gs, e, fitsH hc, by rw [ho]⟩
theorem isH {N : Nat} {gs : List Deed} {th : PyData} {b : Bool} {ds : List PyData} (e : ds = [.int N, encGs gs, th]) (hc : hChk N gs = true) (ht : thingOk th) (ho : idleD (rows N gs) th = b) : R_is_idle_stretch ds (.bool b) := by
  have F := fitsH hc
  exact ⟨N, _, th, gs, e, F.1, F.2.1, F.2.2.1, F.2.2.2.1, F.2.2.2.2.1, F.2.2.2.2.2.1, F.2.2.2.2.2.2, ht, by rw [ho]⟩
def tH : Deed := .turn 0
def sH : Deed := .swap 0 1
def mH : Deed := .mix 0 1
def farH : List Deed := [mH, .turn 2, mH] ++ (List.replicate 7 [Deed.turn 2]).flatten
def twistH : List Deed := (List.replicate 16 [tH, sH]).flatten
section
variable {P : Program} {w : World} {K : PySem.W.Frag} {mg : Str → Option Value} {base : Heap}
def R_by_hand (ds : List PyData) (d : PyData) : Prop := ds = [] ∧ d = .bool true
theorem ok_law_by_hand_right (Z : Bi mg) (D_first_idle : DefOk P w K mg base "first_idle" ["many", "deeds"] 8 (spD K R_first_idle)) (D_without_idle : DefOk P w K mg base "without_idle" ["many", "deeds"] 8 (spD K R_without_idle)) (D_is_idle_stretch : DefOk P w K mg base "is_idle_stretch" ["many", "deeds", "thing"] 8 (spD K R_is_idle_stretch))
    (D_law_asked : DefOk P w K mg base "_law_asked" ["_law_size", "_law_deeds_here", "_law_thing"] 9 (spD K R_asked)) (D_law_same : DefOk P w K mg base "_law_same" ["_law_got", "_law_due"] 8 (spD K (R_law_same 7))) (T : At K mg "_law_by_hand_right" s_law_by_hand_right []) : DefOk P w K mg base "_law_by_hand_right" [] 10 (spD K R_by_hand) := by
  refine at_def T R_by_hand sc_law_by_hand_right (fun ds d h => by obtain ⟨rfl, _⟩ := h; rfl) fun f cdv A outer s' H E hr c ds d h => ?_
  obtain ⟨rfl, rfl⟩ := h
  refine ds_unp (de_tup (da_cons (de_tup (da_cons de_str (da_cons de_int da_nil))) (da_cons (de_tup (da_cons de_str (da_cons de_int (da_cons de_int da_nil)))) (da_cons (de_tup (da_cons de_str (da_cons de_int (da_cons de_int da_nil)))) da_nil)))) (dg_tup rfl (dgs_cons (dg_name 0 sc_law_by_hand_right.nd) (dgs_cons (dg_name 1 sc_law_by_hand_right.nd) (dgs_cons (dg_name 2 sc_law_by_hand_right.nd) dgs_nil)))) ?_
  refine ds_par 3 4 (da_cons (d := encGs farH) (DE.is (de_bin (de_tup (da_cons (de_var 2 rfl) (da_cons (de_tup (da_cons de_str (da_cons de_int da_nil))) (da_cons (de_var 2 rfl) da_nil)))) (de_bin (de_tup (da_cons (de_tup (da_cons de_str (da_cons de_int da_nil))) da_nil)) de_int (b_repT (by walk_at "side") (by walk_at "side") (by walk_at "side") (by walk_at "side"))) (b_catT (by walk_at "side"))) rfl) (da_cons (d := encGs twistH) (DE.is (de_bin (de_tup (da_cons (de_var 0 rfl) (da_cons (de_var 1 rfl) da_nil))) de_int (b_repT (by walk_at "side") (by walk_at "side") (by walk_at "side") (by walk_at "side"))) rfl) da_nil)) ?_ sc_law_by_hand_right.nd rfl
  refine ds_set (d := .list [encO (some (0, 10)), encO (some (0, 32)), encO none, encO (some (0, 10)), encO none]) 5 (de_lst (da_cons (de_call D_first_idle (hr.mono (by decide)) (da_cons de_int (da_cons (de_bin (de_bin (de_tup (da_cons (de_var 1 rfl) da_nil)) (de_bin (de_tup (da_cons (de_var 0 rfl) da_nil)) de_int (b_repT (by simp) (by walk_at "side") (by walk_at "side") (by walk_at "side"))) (b_catT (by walk_at "side"))) (de_tup (da_cons (de_var 1 rfl) (da_cons (de_var 2 rfl) da_nil))) (b_catT (by walk_at "side"))) da_nil)) (fiH (N := 2) (gs := [sH] ++ List.replicate 8 tH ++ [sH, mH]) rfl (by decide +kernel) (by decide +kernel))) (da_cons (de_call D_first_idle (hr.mono (by decide)) (da_cons de_int (da_cons (de_var 4 rfl) da_nil)) (fiH (N := 2) (gs := twistH) rfl (by decide +kernel) (by decide +kernel))) (da_cons (de_call D_first_idle (hr.mono (by decide)) (da_cons de_int (da_cons (de_slT (de_var 4 rfl) do_none (do_some de_int)) da_nil)) (fiH (N := 2) (gs := twistH.take 31) rfl (by decide +kernel) (by decide +kernel))) (da_cons (de_call D_first_idle (hr.mono (by decide)) (da_cons de_int (da_cons (de_var 3 rfl) da_nil)) (fiH (N := 3) (gs := farH) rfl (by decide +kernel) (by decide +kernel))) (da_cons (de_call D_first_idle (hr.mono (by decide)) (da_cons de_int (da_cons (de_slT (de_var 3 rfl) do_none (do_some de_int)) da_nil)) (fiH (N := 3) (gs := farH.take 9) rfl (by decide +kernel) (by decide +kernel))) da_nil)))))) ?_ sc_law_by_hand_right.nd
  refine ds_set (d := .list [encO (some (0, 10)), encO (some (0, 32)), encO none, encO (some (0, 10)), encO none]) 6 (de_lst (da_cons (de_tup (da_cons de_int (da_cons de_int da_nil))) (da_cons (de_tup (da_cons de_int (da_cons de_int da_nil))) (da_cons de_non (da_cons (de_tup (da_cons de_int (da_cons de_int da_nil))) (da_cons de_non da_nil)))))) ?_ sc_law_by_hand_right.nd
  refine ds_set (d := .list ([encO (some (0, 10)), encO (some (0, 32)), encO none, encO (some (0, 10)), encO none] ++ [encO (some (0, 32)), encO (some (0, 16))])) 5 (dn_bin (de_var 5 rfl) (de_lst (da_cons (de_call D_first_idle (hr.mono (by decide)) (da_cons de_int (da_cons (de_bin (de_tup (da_cons (de_var 0 rfl) (da_cons (de_var 1 rfl) da_nil))) de_int (b_repT (by simp) (by walk_at "side") (by walk_at "side") (by walk_at "side"))) da_nil)) (fiH (N := 2) (gs := (List.replicate 100 [tH, sH]).flatten) rfl (by decide +kernel) (by decide +kernel))) (da_cons (de_call D_first_idle (hr.mono (by decide)) (da_cons de_int (da_cons (de_bin (de_tup (da_cons (de_tup (da_cons de_str (da_cons de_int (da_cons de_int da_nil)))) (da_cons (de_tup (da_cons de_str (da_cons de_int da_nil))) da_nil))) de_int (b_repT (by simp) (by walk_at "side") (by walk_at "side") (by walk_at "side"))) da_nil)) (fiH (N := 8) (gs := (List.replicate 20 [Deed.swap 0 7, Deed.turn 3]).flatten) rfl (by decide +kernel) (by decide +kernel))) da_nil))) (b_cat (by walk_at "side"))).de ?_ sc_law_by_hand_right.nd
  refine ds_set (d := .list ([encO (some (0, 10)), encO (some (0, 32)), encO none, encO (some (0, 10)), encO none] ++ [encO (some (0, 32)), encO (some (0, 16))])) 6 (dn_bin (de_var 6 rfl) (de_lst (da_cons (de_tup (da_cons de_int (da_cons de_int da_nil))) (da_cons (de_tup (da_cons de_int (da_cons de_int da_nil))) da_nil))) (b_cat (by walk_at "side"))).de ?_ sc_law_by_hand_right.nd
  simp only [List.cons_append, List.nil_append]
  refine ds_set (d := .list ([encO (some (0, 10)), encO (some (0, 32)), encO none, encO (some (0, 10)), encO none, encO (some (0, 32)), encO (some (0, 16))] ++ [encO (some (0, 2)), encO none, encO (some (0, 2)), encO (some (1, 3)), encGs [tH]])) 5 (dn_bin (de_var 5 rfl) (de_lst (da_cons (de_call D_first_idle (hr.mono (by decide)) (da_cons de_int (da_cons (de_bin (de_tup (da_cons (de_var 2 rfl) da_nil)) de_int (b_repT (by simp) (by walk_at "side") (by walk_at "side") (by walk_at "side"))) da_nil)) (fiH (N := 2) (gs := [mH, mH, mH, mH]) rfl (by decide +kernel) (by decide +kernel))) (da_cons (de_call D_first_idle (hr.mono (by decide)) (da_cons de_int (da_cons (de_tup da_nil) da_nil)) (fiH (N := 2) (gs := []) rfl (by decide +kernel) (by decide +kernel))) (da_cons (de_call D_first_idle (hr.mono (by decide)) (da_cons de_int (da_cons (dn_bin (de_lst (da_cons (de_lst (da_cons de_str (da_cons de_int (da_cons de_int da_nil)))) da_nil)) de_int (b_rep (by walk_at "side") (by walk_at "side") (by walk_at "side"))).de da_nil)) (⟨2, _, [mH, mH, mH], rfl, fitsL (gs := [mH, mH, mH]) (by decide +kernel), by rw [show firstIdle 2 [mH, mH, mH] = some (0, 2) by decide +kernel]⟩)) (da_cons (de_call D_first_idle (hr.mono (by decide)) (da_cons de_int (da_cons (de_tup (da_cons (de_var 0 rfl) (da_cons (de_var 2 rfl) (da_cons (de_var 2 rfl) da_nil)))) da_nil)) (fiH (N := 2) (gs := [tH, mH, mH]) rfl (by decide +kernel) (by decide +kernel))) (da_cons (de_call D_without_idle (hr.mono (by decide)) (da_cons de_int (da_cons (de_tup (da_cons (de_var 0 rfl) (da_cons (de_var 2 rfl) (da_cons (de_var 2 rfl) da_nil)))) da_nil)) (wiH (N := 2) (gs := [tH, mH, mH]) rfl (by decide +kernel) (by decide +kernel))) da_nil)))))) (b_cat (by walk_at "side"))).de ?_ sc_law_by_hand_right.nd
  refine ds_set (d := .list ([encO (some (0, 10)), encO (some (0, 32)), encO none, encO (some (0, 10)), encO none, encO (some (0, 32)), encO (some (0, 16))] ++ [encO (some (0, 2)), encO none, encO (some (0, 2)), encO (some (1, 3)), encGs [tH]])) 6 (dn_bin (de_var 6 rfl) (de_lst (da_cons (de_tup (da_cons de_int (da_cons de_int da_nil))) (da_cons de_non (da_cons (de_tup (da_cons de_int (da_cons de_int da_nil))) (da_cons (de_tup (da_cons de_int (da_cons de_int da_nil))) (da_cons (de_tup (da_cons (de_var 0 rfl) da_nil)) da_nil)))))) (b_cat (by walk_at "side"))).de ?_ sc_law_by_hand_right.nd
  simp only [List.cons_append, List.nil_append]
  refine ds_set (d := .list ([encO (some (0, 10)), encO (some (0, 32)), encO none, encO (some (0, 10)), encO none, encO (some (0, 32)), encO (some (0, 16)), encO (some (0, 2)), encO none, encO (some (0, 2)), encO (some (1, 3)), encGs [tH]] ++ [encGs [], encGs [mH], encGs []])) 5 (dn_bin (de_var 5 rfl) (de_lst (da_cons (de_call D_without_idle (hr.mono (by decide)) (da_cons de_int (da_cons (de_bin (de_bin (de_tup (da_cons (de_var 1 rfl) da_nil)) (de_var 3 rfl) (b_catT (by walk_at "side"))) (de_tup (da_cons (de_var 1 rfl) da_nil)) (b_catT (by walk_at "side"))) da_nil)) (wiH (N := 3) (gs := [sH] ++ farH ++ [sH]) rfl (by decide +kernel) (by decide +kernel))) (da_cons (de_call D_without_idle (hr.mono (by decide)) (da_cons de_int (da_cons (de_tup (da_cons (de_var 2 rfl) (da_cons (de_var 2 rfl) (da_cons (de_var 2 rfl) da_nil)))) da_nil)) (wiH (N := 2) (gs := [mH, mH, mH]) rfl (by decide +kernel) (by decide +kernel))) (da_cons (de_call D_without_idle (hr.mono (by decide)) (da_cons de_int (da_cons (de_bin (de_tup (da_cons (de_var 1 rfl) (da_cons (de_var 0 rfl) (da_cons (de_var 1 rfl) da_nil)))) (de_bin (de_tup (da_cons (de_tup (da_cons de_str (da_cons de_int da_nil))) da_nil)) de_int (b_repT (by simp) (by walk_at "side") (by walk_at "side") (by walk_at "side"))) (b_catT (by walk_at "side"))) da_nil)) (wiH (N := 2) (gs := [sH, tH, sH] ++ List.replicate 7 (Deed.turn 1)) rfl (by decide +kernel) (by decide +kernel))) da_nil)))) (b_cat (by walk_at "side"))).de ?_ sc_law_by_hand_right.nd
  refine ds_set (d := .list ([encO (some (0, 10)), encO (some (0, 32)), encO none, encO (some (0, 10)), encO none, encO (some (0, 32)), encO (some (0, 16)), encO (some (0, 2)), encO none, encO (some (0, 2)), encO (some (1, 3)), encGs [tH]] ++ [encGs [], encGs [mH], encGs []])) 6 (dn_bin (de_var 6 rfl) (de_lst (da_cons (de_tup da_nil) (da_cons (de_tup (da_cons (de_var 2 rfl) da_nil)) (da_cons (de_tup da_nil) da_nil)))) (b_cat (by walk_at "side"))).de ?_ sc_law_by_hand_right.nd
  simp only [List.cons_append, List.nil_append]
  refine ds_set (d := .list ([encO (some (0, 10)), encO (some (0, 32)), encO none, encO (some (0, 10)), encO none, encO (some (0, 32)), encO (some (0, 16)), encO (some (0, 2)), encO none, encO (some (0, 2)), encO (some (1, 3)), encGs [tH], encGs [], encGs [mH], encGs []] ++ [encO (some (0, 7)), .bool true, .bool false])) 5 (dn_bin (de_var 5 rfl) (de_lst (da_cons (de_call D_first_idle (hr.mono (by decide)) (da_cons de_int (da_cons (de_bin (de_bin (de_tup (da_cons (de_var 2 rfl) da_nil)) (de_bin (de_tup (da_cons (de_tup (da_cons de_str (da_cons de_int da_nil))) da_nil)) de_int (b_repT (by simp) (by walk_at "side") (by walk_at "side") (by walk_at "side"))) (b_catT (by walk_at "side"))) (de_tup (da_cons (de_var 2 rfl) (da_cons (de_var 1 rfl) da_nil))) (b_catT (by walk_at "side"))) da_nil)) (fiH (N := 2) (gs := [mH] ++ List.replicate 4 (Deed.turn 1) ++ [mH, sH]) rfl (by decide +kernel) (by decide +kernel))) (da_cons (de_call D_is_idle_stretch (hr.mono (by decide)) (da_cons de_int (da_cons (de_tup (da_cons (de_var 2 rfl) (da_cons (de_var 2 rfl) (da_cons (de_var 2 rfl) da_nil)))) (da_cons (de_tup (da_cons de_int (da_cons de_int da_nil))) da_nil))) (isH (N := 2) (gs := [mH, mH, mH]) rfl (by decide +kernel) (.inl ⟨1, 3, rfl⟩) (by decide +kernel))) (da_cons (de_call D_is_idle_stretch (hr.mono (by decide)) (da_cons de_int (da_cons (de_tup (da_cons (de_var 2 rfl) (da_cons (de_var 2 rfl) da_nil))) (da_cons (de_tup (da_cons de_int (da_cons de_int da_nil))) da_nil))) (isH (N := 2) (gs := [mH, mH]) rfl (by decide +kernel) (.inl ⟨0, 1, rfl⟩) (by decide +kernel))) da_nil)))) (b_cat (by walk_at "side"))).de ?_ sc_law_by_hand_right.nd
  refine ds_set (d := .list ([encO (some (0, 10)), encO (some (0, 32)), encO none, encO (some (0, 10)), encO none, encO (some (0, 32)), encO (some (0, 16)), encO (some (0, 2)), encO none, encO (some (0, 2)), encO (some (1, 3)), encGs [tH], encGs [], encGs [mH], encGs []] ++ [encO (some (0, 7)), .bool true, .bool false])) 6 (dn_bin (de_var 6 rfl) (de_lst (da_cons (de_tup (da_cons de_int (da_cons de_int da_nil))) (da_cons de_bl (da_cons de_bl da_nil)))) (b_cat (by walk_at "side"))).de ?_ sc_law_by_hand_right.nd
  simp only [List.cons_append, List.nil_append]
  have ask : ∀ y ∈ ([.tuple [.int 0, .int 0], .tuple [.int 1, .int 0], .list [.int 0, .int 2], .tuple [.int 0, .int 3], .none] : List PyData), R_asked [.int 2, encGs [tH, mH], y] (.bool false) := fun y hy => by
    simp only [List.mem_cons, List.not_mem_nil, or_false] at hy
    rcases hy with rfl | rfl | rfl | rfl | rfl
    · exact .inl (isH (N := 2) (gs := [tH, mH]) rfl (by decide +kernel) (.inl ⟨0, 0, rfl⟩) (by decide +kernel))
    · exact .inl (isH (N := 2) (gs := [tH, mH]) rfl (by decide +kernel) (.inl ⟨1, 0, rfl⟩) (by decide +kernel))
    · exact .inl (isH (N := 2) (gs := [tH, mH]) rfl (by decide +kernel) (.inr rfl) (by decide +kernel))
    · exact .inl (isH (N := 2) (gs := [tH, mH]) rfl (by decide +kernel) (.inl ⟨0, 3, rfl⟩) (by decide +kernel))
    · exact .inl (isH (N := 2) (gs := [tH, mH]) rfl (by decide +kernel) (.inr rfl) (by decide +kernel))
  have bad : R_asked [.int 2, encGs [Deed.mix 0 4], .tuple [.int 0, .int 1]] (.list [.str "place", .int (4 : Nat)]) := .inr ⟨(4 : Nat), ⟨_, _, _, rfl, 2, _, [], [], .mix 0 4, 4, rfl, ok_encGs (by simp), (tup_mono (encGs_ok (s := [Deed.mix 0 4]) (by simp)) (by decide)).trans (tup_id (encGs_ok (by simp))), (fun g h => nomatch h), rfl, rfl⟩, rfl⟩
  have em : ([.tuple [.int 0, .int 0], .tuple [.int 1, .int 0], .list [.int 0, .int 2], .tuple [.int 0, .int 3], .none] : List PyData).map (fun _ => PyData.bool false) = (List.replicate 5 [PyData.bool false]).flatten := rfl
  refine ds_set (d := .list ([encO (some (0, 10)), encO (some (0, 32)), encO none, encO (some (0, 10)), encO none, encO (some (0, 32)), encO (some (0, 16)), encO (some (0, 2)), encO none, encO (some (0, 2)), encO (some (1, 3)), encGs [tH], encGs [], encGs [mH], encGs [], encO (some (0, 7)), .bool true, .bool false] ++ (List.replicate 5 [PyData.bool false]).flatten ++ [.list [.str "place", .int (4 : Nat)]])) 5 (DN.de (dn_bin (DN.de (dn_bin (de_var 5 rfl) (DN.de (by
    rw [← em]
    exact dn_lcM (own := [("_law_own", 7)]) (fun _ => PyData.bool false) sc_law_by_hand_right.nd (blkOk_by (N := N_law_by_hand_right) (sc := defScope s_law_by_hand_right) (by decide +kernel)) (di_tup (de_tup (da_cons (de_tup (da_cons de_int (da_cons de_int da_nil))) (da_cons (de_tup (da_cons de_int (da_cons de_int da_nil))) (da_cons (de_lst (da_cons de_int (da_cons de_int da_nil))) (da_cons (de_tup (da_cons de_int (da_cons de_int da_nil))) (da_cons de_non da_nil))))))) (fun y => [.d (encG tH), .d (encG sH), .d (encG mH), .d (encGs farH), .d (encGs twistH), .d (.list [encO (some (0, 10)), encO (some (0, 32)), encO none, encO (some (0, 10)), encO none, encO (some (0, 32)), encO (some (0, 16)), encO (some (0, 2)), encO none, encO (some (0, 2)), encO (some (1, 3)), encGs [tH], encGs [], encGs [mH], encGs [], encO (some (0, 7)), .bool true, .bool false]), .d (.list [encO (some (0, 10)), encO (some (0, 32)), encO none, encO (some (0, 10)), encO none, encO (some (0, 32)), encO (some (0, 16)), encO (some (0, 2)), encO none, encO (some (0, 2)), encO (some (1, 3)), encGs [tH], encGs [], encGs [mH], encGs [], encO (some (0, 7)), .bool true, .bool false]), .d y]) [7]
      (fun j y hj s' H' C cl fp => ⟨dg_name 7 sc_law_by_hand_right.nd, (de_call D_law_asked (hr.mono (by decide)) (da_cons de_int (da_cons (de_tup (da_cons (de_var 0 rfl) (da_cons (de_var 2 rfl) da_nil))) (da_cons (de_var 7 rfl) da_nil))) (ask y (List.mem_of_getElem? hj)))⟩) (by decide))) (b_cat (by decide)))) (de_lst (da_cons (de_call D_law_asked (hr.mono (by decide)) (da_cons de_int (da_cons (de_tup (da_cons (de_tup (da_cons de_str (da_cons de_int (da_cons de_int da_nil)))) da_nil)) (da_cons (de_tup (da_cons de_int (da_cons de_int da_nil))) da_nil))) bad) da_nil)) (b_cat (by decide)))) ?_ sc_law_by_hand_right.nd
  refine ds_ret (de_call D_law_same (hr.mono (by decide)) (da_cons (de_var 5 rfl) (da_cons (dn_bin (dn_bin (de_var 6 rfl) (dn_bin (de_lst (da_cons de_bl da_nil)) de_int (b_rep (by walk_at "side") (by walk_at "side") (by walk_at "side"))).de (b_cat (by walk_at "side"))).de (de_lst (da_cons (de_lst (da_cons de_str (da_cons de_int da_nil))) da_nil)) (b_cat (by walk_at "side"))).de da_nil)) ⟨_, rfl, by decide +kernel, rfl⟩) rfl
end
end DD
/-! T20: right, law -/
namespace DD
open PySem PySem.Spec L2
open PyProof.Rows hiding St
local macro_rules | `(tactic| walk_at "side") => `(tactic| first | exact Nat.le_of_ble_eq_true rfl | assumption | omega | decide | rfl | (simp; done) | (simp; omega))
theorem dy_and {X : Cx} {c : Wd} {ρ : List Sl} {a b : Expr} {rest : List Expr} {pos : Pos} {m m1 : Nat} {R : PyData → Prop} (ha : DY X c ρ a m1 (fun d => d = .bool true)) (hb : DY X c (retin m1 ρ) (.BoolOp .And (b :: rest) pos) m R) : DY X c ρ (.BoolOp .And (a :: b :: rest) pos) m R :=
  dy_of (pe_and (pe_w X) (pe_w X)) fun σ B H S Q q => ha σ B H S _ fun v B1 H1 d hd y1 S1 r1 => by
    subst hd
    cases r1
    refine ⟨true, rfl, iteT (hb σ B1 H1 S1 Q fun v B2 H2 d hd y2 S2 r2 => ?_)⟩
    rw [retin_retin] at S2
    exact q v B2 H2 d hd (y1.trans y2) S2 r2
theorem dy_one {X : Cx} {c : Wd} {ρ : List Sl} {a : Expr} {op : BoolOp} {pos : Pos} {m : Nat} {R : PyData → Prop} (ha : DY X c ρ a m R) : DY X c ρ (.BoolOp op [a] pos) m R := dy_of (pe_one (pe_w X)) ha
theorem dy_call0 {X : Cx} {c : Wd} {ρ : List Sl} {p pos : Pos} {F : List PyData → Nat → (PyData → Prop) → Prop} {R : PyData → Prop} {x tn : Str} {ps : List Str} {k C n : Nat} {px : Pos} (D : DefOk X.prog X.w X.K X.mg X.base x ps k (spY X.K F)) (hr : Room k X.A) (h0 : ρ[0]? = some (.tin n)) (h : F [] C R) (hC : n + C ≤ 1000000) (hm : retin n ρ = ρ := by rfl)
    (hN : X.N[0]? = some tn := by rfl) (hv : Vis X.env.scope tn := by first | exact Or.inl rfl | exact Or.inr (Or.inl rfl) | exact Or.inr (Or.inr rfl)) (hdb1 : (tn == ("__debug__" : Str)) = false := by decide) (hcd : (tn == ("__classdict__" : Str)) = false := by decide)
    (hg : Gl X x := by rfl) (hdb : (x == ("__debug__" : Str)) = false := by decide)
    (he : starEach (.Name tn px :: []) X.env = (false, eval (.Name tn px) X.env) :: starEach [] X.env := by rfl) (hpl : (backTo pos (starEach [] X.env)).any (·.1) = false := by rfl) : DY X c ρ (.Call (.Name x p) [.Name tn px] [] pos) (n + C) R :=
  dy_callP (es := []) (ds := []) D hr h0 da_nil h hC hm hN hv hdb1 hcd hg hdb he hpl
theorem de_call00 {X : Cx} {c : Wd} {ρ : List Sl} {p pos : Pos} {d : PyData} {R : List PyData → PyData → Prop} {x : Str} {k : Nat} (D : DefOk X.prog X.w X.K X.mg X.base x [] k (spD X.K R)) (hr : Room k X.A) (h : R [] d) (hg : Gl X x := by rfl) (hdb : (x == ("__debug__" : Str)) = false := by decide) : DE X c ρ (.Call (.Name x p) [] [] pos) d := by
  obtain ⟨f, fd, F, hm, hk, hb⟩ := D.ex
  refine de_of (pe_call0 F hr hg hm hk hb .nil pass0 hdb) fun σ B H S Q q => ?_
  exact ⟨B, [], d, S.bh, .nil, h, fun v B' H' st r => q v B' H' st r⟩
section
variable {P : Program} {w : World} {K : PySem.W.Frag} {mg : Str → Option Value} {base : Heap}
def F_right (ds : List PyData) (C : Nat) (R : PyData → Prop) : Prop := ds = [] ∧ C = 55 ∧ R = fun d => d = .bool true
theorem ok_law_right (D_law_take : DefOk P w K mg base "_law_take" ["_law_tin", "_law_below_so"] 1 (spY K F_take)) (D_law_drawn : DefOk P w K mg base "_law_drawn" ["_law_tin", "_law_size"] 5 (spY K F_drawn)) (D_law_stretches_right : DefOk P w K mg base "_law_stretches_right" ["_law_tin", "_law_size", "_law_deeds_here"] 11 (spY K F_stretches))
    (D_law_left_right : DefOk P w K mg base "_law_left_right" ["_law_tin", "_law_size", "_law_deeds_here"] 11 (spY K F_left)) (D_law_across_right : DefOk P w K mg base "_law_across_right" ["_law_tin"] 12 (spY K F_across)) (T : At K mg "_law_right" s_law_right ["_law_tin"]) : DefOk P w K mg base "_law_right" ["_law_tin"] 13 (spY K F_right) := by
  refine at_defY T F_right sc_law_right (fun ds C R h => by obtain ⟨rfl, _⟩ := h; rfl) fun f cdv A outer s' H E hr c ds n C R h hn => ?_
  obtain ⟨rfl, rfl, rfl⟩ := h
  refine ds_setY (m := n + 1) (R := fun d => ∃ N : Nat, d = .int N ∧ 2 ≤ N ∧ N ≤ 4) 1 (dy_opR op_add de_int (dy_callP D_law_take (hr.mono (by decide)) rfl (da_cons de_int da_nil) ⟨3, rfl, by omega, by omega, rfl, rfl⟩ (by omega)) fun d hd => ?_) (fun d hd => ?_) sc_law_right.nd
  · obtain ⟨i, rfl, hi⟩ := hd
    exact ⟨_, ⟨2 + i, by rw [show (2 : Int) + (i : Int) = ((2 + i : Nat) : Int) by omega], by omega, by omega⟩, opd_add⟩
  · obtain ⟨N, rfl, h2, h4⟩ := hd
    refine ds_setY (m := n + 1 + 28) 2 (dy_callP (C := 28) D_law_drawn (hr.mono (by decide)) rfl (da_cons (de_var 1 rfl) da_nil) ⟨N, rfl, h2, by omega, rfl, rfl⟩ (by omega)) (fun d hd => ?_) sc_law_right.nd
    obtain ⟨gs, rfl, hk, hl⟩ := hd
    exact ds_retY (R := fun d => d = .bool true) (m := n + 1 + 28 + 3 + 9 + 14) (dy_and (m1 := n + 1 + 28 + 3) (dy_callP (C := 3) D_law_stretches_right (hr.mono (by decide)) rfl (da_cons (de_var 1 rfl) (da_cons (de_var 2 rfl) da_nil)) ⟨N, gs, rfl, h2, by omega, hk, hl, rfl, rfl⟩ (by omega)) (dy_and (m1 := n + 1 + 28 + 3 + 9) (dy_callP (C := 9) D_law_left_right (hr.mono (by decide)) rfl (da_cons (de_var 1 rfl) (da_cons (de_var 2 rfl) da_nil)) ⟨N, gs, rfl, h2, by omega, hk, hl, rfl, rfl⟩ (by omega)) (dy_one (dy_call0 (C := 14) D_law_across_right (hr.mono (by decide)) rfl ⟨rfl, rfl, rfl⟩ (by omega))))) fun d hd => ⟨hd, n + 1 + 28 + 3 + 9 + 14, rfl, by omega⟩
def F_law (ds0 ds : List PyData) (d : PyData) : Prop := ∃ ns : List Int, ds0 = intL ns ∧ ns.length ≤ 63 ∧ ds = [] ∧ d = .bool true
theorem at_fnQ {x y : Str} {st : Stmt} {ps N : List Str} {k : Nat} {f : Addr} {fd : FuncData} (Fn : Fun K x x st f fd) (F : List PyData → List PyData → PyData → Prop) (S : FnScope (y :: N) (y :: ps) (defScope st)) (hl : ∀ ds0 ds d, F ds0 ds d → ds.length = ps.length)
    (h : ∀ (f : Addr) (cdv : Value) (A : Around) (outer : List Env) (s : Shared) (H : Hp) (E : XK), Room k (A.deeper (envOfC x (defScope st) s.heap.objs.size f cdv)) → ∀ (c : Wd) (ds0 ds : List PyData) (d : PyData), F ds0 ds d →
      DS (cxD P w K mg base (y :: N) x st f cdv A outer s H E) c (.seq ds0 :: startR N.length ds) (defBody st) (endR d)) : FnOk P w K mg base CX0 (k + 1) f fd (y :: ps) (spQ K F) := by
  refine Fn.ok S (fun vs H Q E z => ?_) (fun cdv A outer s H vs Q E hr z => ?_)
  · obtain ⟨r, xs, vs', B, ds0, ds, d, rfl, _, _, _, rr, hF, _⟩ := z
    rw [List.length_cons, List.length_cons, rr.length, hl ds0 ds d hF]
  · obtain ⟨r, xs, vs', B, ds0, ds, d, rfl, e, hs, r0, rr, hF, q⟩ := z
    refine ⟨_, pss_w _, h f cdv A outer s H E hr ⟨B, H, none⟩ ds0 ds d hF _ B H (startQ_sx N e rr hs r0) _ ⟨fun ρ' σ' B' H' z _ S' => ?_, fun d' v ρ' σ' B' H' z _ S' rv => ?_, fun _ _ _ _ z => z.elim, fun _ _ _ _ z => z.elim⟩⟩
    · have z : d = .none := z
      subst z
      exact q .non B' H' ⟨S'.b0, S'.bh, fun b o h => S'.h0 b o (by simp) h, S'.fr⟩ .non
    · have z : d' = d := z
      subst z
      exact q v B' H' ⟨S'.b0, S'.bh, fun b o h => S'.h0 b o (by simp) h, S'.fr⟩ rv
theorem fn_law {f : Addr} {fd : FuncData} (Z : Bi mg) (D_by_hand : DefOk P w K mg base "_law_by_hand_right" [] 10 (spD K R_by_hand)) (D_law_cells : DefOk P w K mg base "_law_cells" ["_law_script", "_law_most_so"] 1 (spQ K F_cells)) (D_law_right : DefOk P w K mg base "_law_right" ["_law_tin"] 13 (spY K F_right)) (D_law_box : DefOk P w K mg base "_law_box" ["_law_script", "_law_k"] 1 (spN K F_box))
    (Fn : Fun K "law" "law" s_law f fd) : FnOk P w K mg base CX0 14 f fd ["_law_script"] (spQ K F_law) := by
  refine at_fnQ Fn F_law sc_law (fun ds0 ds d h => by obtain ⟨_, _, _, rfl, _⟩ := h; rfl) fun f cdv A outer s' H E hr c ds0 ds d h => ?_
  obtain ⟨ns, rfl, hl, rfl, rfl⟩ := h
  obtain ⟨a, hcell⟩ := cells_some ns hl
  refine ds_ifF (DT.is (dt_not (dt_val (de_call00 D_by_hand (hr.mono (by decide)) ⟨rfl, rfl⟩))) rfl) ?_
  refine ds_set (d := .list [.int a]) 1 (de_callQ D_law_cells (hr.mono (by decide)) rfl (da_cons de_int da_nil) hcell) ?_ sc_law.nd
  refine ds_ret (DE.is (de_all (bs := [true]) Z.all ?_) rfl) rfl
  have e : ([true].map PyData.bool) = (upD 0 1 (((([PyData.int a] : List PyData).length : Nat) : Int)).toNat).map (fun _ => PyData.bool true) := rfl
  rw [e]
  refine DN.de (dn_lcM (own := [("_law_k", 2)]) (fun _ => PyData.bool true) sc_law.nd (blkOk_by (N := N_law) (sc := defScope s_law) (by decide +kernel)) (di_rng1 Z.range (de_lenL Z.len (de_var 1 rfl)) (by walk_at "side") (by walk_at "side")) (fun x => [.seq (intL ns), .d (.list [.int a]), .d x]) [2]
    (fun j x hj s' H' C cl fp => ⟨dg_name 2 sc_law.nd, ?_⟩) (by rw [upD_len]; exact Nat.le_of_ble_eq_true rfl))
  obtain ⟨hj1, rfl⟩ := up_at hj
  have hj0 : j = 0 := by
    have hj1 : j < 1 := hj1
    omega
  subst hj0
  have h1 : 0 ≤ absI a := by unfold absI; split <;> omega
  have h2 := Int.emod_nonneg a (b := 2305843009213693951) (by decide)
  have h3 := Int.emod_lt_of_pos a (b := 2305843009213693951) (by decide)
  exact de_drawn D_law_right (hr.mono (by decide)) D_law_box (hr.mono (by decide)) (da_cons (de_var 1 rfl) (da_cons (de_var 2 rfl) da_nil)) (C := 55) (i := absI a * (if decide ((10 : Int) ^ (18 : Int).toNat ≤ absI a) = true then 1 else 0)) (j := a % 2305843009213693951 + 39373 * ((0 : Nat) : Int) + 9453) ⟨[.int a], 0, a, rfl, by simp, rfl, rfl⟩ (by split <;> omega) (by omega) (by omega) ⟨rfl, rfl, rfl⟩ (fun B B' v r => by cases r; exact .bl _) (by omega)
end
end DD
namespace DD
open PySem PySem.Spec L2
open PyProof.Rows hiding St
open He (Dv Fa DefD ga ma fAd ba eqO eqO_ok)
theorem funD_fun {K : PySem.W.Frag} {x qual : Str} {st : Stmt} {f : Addr} {fd : FuncData} (F : FunD K x qual (defArgs st) (defBody st) (defScope st) [] [] f fd) : Fun K x qual st f fd := by
  obtain ⟨oc, od, dV, kV, doc, pm, an, cdv, ct, osl, e, lk, hcd, hD, hK⟩ := F.ex
  rcases hD with ⟨_, rfl⟩ | ⟨z, _⟩
  · exact ⟨⟨oc, od, kV, doc, pm, an, cdv, ct, osl, e, lk, hcd⟩, F.kp⟩
  · exact absurd rfl z
section
variable {P : Program} {w : World} {K : PySem.W.Frag} {h : Heap} {mg : Str → Option Value} {base : Heap}
theorem np_txt (X : K.In h) (G : h.Ns mainGlobals mg) (c : He.SaysX faAll fnAll tabs [] exB w h K) : PySem.NPX.NpTxt K mg (ga K "NoPlace") (ma K (ga K "NoPlace") "__init__") := by
  have fact : ∀ f ∈ faAll, f.ok K = true := fun f hf => c.t.d.facts hf
  obtain ⟨_, m⟩ := ba c.more
  obtain ⟨_, m⟩ := ba m
  obtain ⟨_, m⟩ := ba m
  obtain ⟨_, m⟩ := ba m
  obtain ⟨_, m⟩ := ba m
  obtain ⟨_, m⟩ := ba m
  obtain ⟨m1, m⟩ := ba m
  obtain ⟨m2, m⟩ := ba m
  obtain ⟨m3, m⟩ := ba m
  obtain ⟨m4, m⟩ := ba m
  obtain ⟨m5, m⟩ := ba m
  obtain ⟨m6, m⟩ := ba m
  obtain ⟨m7, m⟩ := ba m
  obtain ⟨m8, m9⟩ := ba m
  obtain ⟨nm, N, qn, bs, bm, hdct, sn, sub, ab, col, dd, k0, k1, k2, k3, k5, hC, hT⟩ := PySem.W.excInit_of X m1
  have hlk : ∃ o, K.lookup (ga K "NoPlace") = some o := by
    unfold PySem.W.excInitIn at m1
    cases e : K.lookup (ga K "NoPlace") with
    | none => rw [e] at m1; cases m1
    | some o => exact ⟨o, rfl⟩
  obtain ⟨o, ho⟩ := hlk
  have ho2 := X _ _ ho
  rw [hC] at ho2
  cases ho2
  have hh : hdct = true := by
    have m3' := m3
    unfold PySem.W.hasDictIn PySem.W.clsIn at m3'
    rw [ho] at m3'
    exact m3'
  subst hh
  obtain ⟨fd, F⟩ := c.t.d.defs (d := d_np_init) (by simp [fnAll, fn0, fn1, fn2, fn3])
  obtain ⟨oc, od, dV, kV, doc, pm, an, cdv, ct, osl, e, lk, hcd, hD, hK⟩ := F.ex
  have hm := He.meth_ok (fact (.meth "NoPlace" "__init__") (by simp [faAll, fr1]))
  refine ⟨He.glo_ok X G (fact (.glo "NoPlace") (by simp [faAll, fg0, fg1, fg2, fg3])), ⟨nm, qn, N, bs, bm, sn, sub, ab, col, dd, k0, k1, k2, k3, k5, ho, hT⟩, m2, eqO_ok m4, eqO_ok m5, eqO_ok m6, eqO_ok (fact (.noat "NoPlace" "number") (by simp [faAll, fr1])), hm.1, of_decide_eq_true m7, fact (.keep "NoPlace") (by simp [faAll, fr1]), of_decide_eq_true m8, of_decide_eq_true m9, m3, of_decide_eq_true (fact (.exm "NoPlace" "NoPlace" true) (by simp [faAll, fr1])), ?_⟩
  rcases hD with ⟨_, rfl⟩ | ⟨z, _⟩
  · exact ⟨oc, od, kV, doc, pm, an, cdv, ct, osl, e ▸ lk, hcd⟩
  · exact absurd rfl z
end
end DD
namespace DD
open PySem PySem.Spec L2
open PyProof.Rows hiding St
open He (Dv Fa DefD ga ma fAd ba eqO eqO_ok)
section
variable {P : Program} {w : World} {K : PySem.W.Frag} {h : Heap} {mg : Str → Option Value} {base : Heap}
abbrev Sy (w : World) (h : Heap) (K : PySem.W.Frag) : Prop := He.SaysX faAll fnAll tabs [] exB w h K
theorem at_tupled (X : K.In h) (G : h.Ns mainGlobals mg) (c : Sy w h K) : At K mg "tupled" s_tupled ["thing"] := by
  obtain ⟨fd, F⟩ := c.t.d.defs (d := d_tupled) (by simp [fnAll, fn0, fn1, fn2, fn3])
  exact ⟨_, fd, funD_fun F, He.glo_ok X G (c.t.d.facts (f := .glo "tupled") (by simp [faAll, fg0, fg1, fg2, fg3])), FunD.bindsN F fun _ _ _ _ _ _ us hl => match us, hl with | [_], _ => rfl⟩
theorem at_is_number (X : K.In h) (G : h.Ns mainGlobals mg) (c : Sy w h K) : At K mg "is_number" s_is_number ["thing"] := by
  obtain ⟨fd, F⟩ := c.t.d.defs (d := d_is_number) (by simp [fnAll, fn0, fn1, fn2, fn3])
  exact ⟨_, fd, funD_fun F, He.glo_ok X G (c.t.d.facts (f := .glo "is_number") (by simp [faAll, fg0, fg1, fg2, fg3])), FunD.bindsN F fun _ _ _ _ _ _ us hl => match us, hl with | [_], _ => rfl⟩
theorem at_is_count (X : K.In h) (G : h.Ns mainGlobals mg) (c : Sy w h K) : At K mg "is_count" s_is_count ["thing"] := by
  obtain ⟨fd, F⟩ := c.t.d.defs (d := d_is_count) (by simp [fnAll, fn0, fn1, fn2, fn3])
  exact ⟨_, fd, funD_fun F, He.glo_ok X G (c.t.d.facts (f := .glo "is_count") (by simp [faAll, fg0, fg1, fg2, fg3])), FunD.bindsN F fun _ _ _ _ _ _ us hl => match us, hl with | [_], _ => rfl⟩
theorem at_is_below (X : K.In h) (G : h.Ns mainGlobals mg) (c : Sy w h K) : At K mg "is_below" s_is_below ["thing", "many"] := by
  obtain ⟨fd, F⟩ := c.t.d.defs (d := d_is_below) (by simp [fnAll, fn0, fn1, fn2, fn3])
  exact ⟨_, fd, funD_fun F, He.glo_ok X G (c.t.d.facts (f := .glo "is_below") (by simp [faAll, fg0, fg1, fg2, fg3])), FunD.bindsN F fun _ _ _ _ _ _ us hl => match us, hl with | [_, _], _ => rfl⟩
theorem at_is_tuple_of (X : K.In h) (G : h.Ns mainGlobals mg) (c : Sy w h K) : At K mg "is_tuple_of" s_is_tuple_of ["thing", "size"] := by
  obtain ⟨fd, F⟩ := c.t.d.defs (d := d_is_tuple_of) (by simp [fnAll, fn0, fn1, fn2, fn3])
  exact ⟨_, fd, funD_fun F, He.glo_ok X G (c.t.d.facts (f := .glo "is_tuple_of") (by simp [faAll, fg0, fg1, fg2, fg3])), FunD.bindsN F fun _ _ _ _ _ _ us hl => match us, hl with | [_, _], _ => rfl⟩
theorem at_put_at (X : K.In h) (G : h.Ns mainGlobals mg) (c : Sy w h K) : At K mg "put_at" s_put_at ["row", "place", "bit"] := by
  obtain ⟨fd, F⟩ := c.t.d.defs (d := d_put_at) (by simp [fnAll, fn0, fn1, fn2, fn3])
  exact ⟨_, fd, funD_fun F, He.glo_ok X G (c.t.d.facts (f := .glo "put_at") (by simp [faAll, fg0, fg1, fg2, fg3])), FunD.bindsN F fun _ _ _ _ _ _ us hl => match us, hl with | [_, _, _], _ => rfl⟩
theorem at_shortened (X : K.In h) (G : h.Ns mainGlobals mg) (c : Sy w h K) : At K mg "shortened" s_shortened ["numbers", "k"] := by
  obtain ⟨fd, F⟩ := c.t.d.defs (d := d_shortened) (by simp [fnAll, fn0, fn1, fn2, fn3])
  exact ⟨_, fd, funD_fun F, He.glo_ok X G (c.t.d.facts (f := .glo "shortened") (by simp [faAll, fg0, fg1, fg2, fg3])), FunD.bindsN F fun _ _ _ _ _ _ us hl => match us, hl with | [_, _], _ => rfl⟩
theorem at_times_root (X : K.In h) (G : h.Ns mainGlobals mg) (c : Sy w h K) : At K mg "times_root" s_times_root ["numbers", "many"] := by
  obtain ⟨fd, F⟩ := c.t.d.defs (d := d_times_root) (by simp [fnAll, fn0, fn1, fn2, fn3])
  exact ⟨_, fd, funD_fun F, He.glo_ok X G (c.t.d.facts (f := .glo "times_root") (by simp [faAll, fg0, fg1, fg2, fg3])), FunD.bindsN F fun _ _ _ _ _ _ us hl => match us, hl with | [_, _], _ => rfl⟩
theorem at_ray_sum (X : K.In h) (G : h.Ns mainGlobals mg) (c : Sy w h K) : At K mg "ray_sum" s_ray_sum ["one", "other"] := by
  obtain ⟨fd, F⟩ := c.t.d.defs (d := d_ray_sum) (by simp [fnAll, fn0, fn1, fn2, fn3])
  exact ⟨_, fd, funD_fun F, He.glo_ok X G (c.t.d.facts (f := .glo "ray_sum") (by simp [faAll, fg0, fg1, fg2, fg3])), FunD.bindsN F fun _ _ _ _ _ _ us hl => match us, hl with | [_, _], _ => rfl⟩
theorem at_turned_ray (X : K.In h) (G : h.Ns mainGlobals mg) (c : Sy w h K) : At K mg "turned_ray" s_turned_ray ["ray", "many"] := by
  obtain ⟨fd, F⟩ := c.t.d.defs (d := d_turned_ray) (by simp [fnAll, fn0, fn1, fn2, fn3])
  exact ⟨_, fd, funD_fun F, He.glo_ok X G (c.t.d.facts (f := .glo "turned_ray") (by simp [faAll, fg0, fg1, fg2, fg3])), FunD.bindsN F fun _ _ _ _ _ _ us hl => match us, hl with | [_, _], _ => rfl⟩
theorem at_over_root (X : K.In h) (G : h.Ns mainGlobals mg) (c : Sy w h K) : At K mg "over_root" s_over_root ["ray", "many"] := by
  obtain ⟨fd, F⟩ := c.t.d.defs (d := d_over_root) (by simp [fnAll, fn0, fn1, fn2, fn3])
  exact ⟨_, fd, funD_fun F, He.glo_ok X G (c.t.d.facts (f := .glo "over_root") (by simp [faAll, fg0, fg1, fg2, fg3])), FunD.bindsN F fun _ _ _ _ _ _ us hl => match us, hl with | [_, _], _ => rfl⟩
theorem at_sure_deeds (X : K.In h) (G : h.Ns mainGlobals mg) (c : Sy w h K) : At K mg "sure_deeds" s_sure_deeds ["many", "deeds"] := by
  obtain ⟨fd, F⟩ := c.t.d.defs (d := d_sure_deeds) (by simp [fnAll, fn0, fn1, fn2, fn3])
  exact ⟨_, fd, funD_fun F, He.glo_ok X G (c.t.d.facts (f := .glo "sure_deeds") (by simp [faAll, fg0, fg1, fg2, fg3])), FunD.bindsN F fun _ _ _ _ _ _ us hl => match us, hl with | [_, _], _ => rfl⟩
theorem at_led_by (X : K.In h) (G : h.Ns mainGlobals mg) (c : Sy w h K) : At K mg "led_by" s_led_by ["row", "deed"] := by
  obtain ⟨fd, F⟩ := c.t.d.defs (d := d_led_by) (by simp [fnAll, fn0, fn1, fn2, fn3])
  exact ⟨_, fd, funD_fun F, He.glo_ok X G (c.t.d.facts (f := .glo "led_by") (by simp [faAll, fg0, fg1, fg2, fg3])), FunD.bindsN F fun _ _ _ _ _ _ us hl => match us, hl with | [_, _], _ => rfl⟩
theorem at_led_by_all (X : K.In h) (G : h.Ns mainGlobals mg) (c : Sy w h K) : At K mg "led_by_all" s_led_by_all ["row", "deeds"] := by
  obtain ⟨fd, F⟩ := c.t.d.defs (d := d_led_by_all) (by simp [fnAll, fn0, fn1, fn2, fn3])
  exact ⟨_, fd, funD_fun F, He.glo_ok X G (c.t.d.facts (f := .glo "led_by_all") (by simp [faAll, fg0, fg1, fg2, fg3])), FunD.bindsN F fun _ _ _ _ _ _ us hl => match us, hl with | [_, _], _ => rfl⟩
theorem at_deeds_done (X : K.In h) (G : h.Ns mainGlobals mg) (c : Sy w h K) : At K mg "deeds_done" s_deeds_done ["state", "deeds"] := by
  obtain ⟨fd, F⟩ := c.t.d.defs (d := d_deeds_done) (by simp [fnAll, fn0, fn1, fn2, fn3])
  exact ⟨_, fd, funD_fun F, He.glo_ok X G (c.t.d.facts (f := .glo "deeds_done") (by simp [faAll, fg0, fg1, fg2, fg3])), FunD.bindsN F fun _ _ _ _ _ _ us hl => match us, hl with | [_, _], _ => rfl⟩
theorem at_lone_state (X : K.In h) (G : h.Ns mainGlobals mg) (c : Sy w h K) : At K mg "lone_state" s_lone_state ["many", "place"] := by
  obtain ⟨fd, F⟩ := c.t.d.defs (d := d_lone_state) (by simp [fnAll, fn0, fn1, fn2, fn3])
  exact ⟨_, fd, funD_fun F, He.glo_ok X G (c.t.d.facts (f := .glo "lone_state") (by simp [faAll, fg0, fg1, fg2, fg3])), FunD.bindsN F fun _ _ _ _ _ _ us hl => match us, hl with | [_, _], _ => rfl⟩
theorem at_lone_states (X : K.In h) (G : h.Ns mainGlobals mg) (c : Sy w h K) : At K mg "lone_states" s_lone_states ["many"] := by
  obtain ⟨fd, F⟩ := c.t.d.defs (d := d_lone_states) (by simp [fnAll, fn0, fn1, fn2, fn3])
  exact ⟨_, fd, funD_fun F, He.glo_ok X G (c.t.d.facts (f := .glo "lone_states") (by simp [faAll, fg0, fg1, fg2, fg3])), FunD.bindsN F fun _ _ _ _ _ _ us hl => match us, hl with | [_], _ => rfl⟩
theorem at_columns_by (X : K.In h) (G : h.Ns mainGlobals mg) (c : Sy w h K) : At K mg "columns_by" s_columns_by ["many", "deeds"] := by
  obtain ⟨fd, F⟩ := c.t.d.defs (d := d_columns_by) (by simp [fnAll, fn0, fn1, fn2, fn3])
  exact ⟨_, fd, funD_fun F, He.glo_ok X G (c.t.d.facts (f := .glo "columns_by") (by simp [faAll, fg0, fg1, fg2, fg3])), FunD.bindsN F fun _ _ _ _ _ _ us hl => match us, hl with | [_, _], _ => rfl⟩
theorem at_bit_of (X : K.In h) (G : h.Ns mainGlobals mg) (c : Sy w h K) : At K mg "bit_of" s_bit_of ["n", "wire"] := by
  obtain ⟨fd, F⟩ := c.t.d.defs (d := d_bit_of) (by simp [fnAll, fn0, fn1, fn2, fn3])
  exact ⟨_, fd, funD_fun F, He.glo_ok X G (c.t.d.facts (f := .glo "bit_of") (by simp [faAll, fg0, fg1, fg2, fg3])), FunD.bindsN F fun _ _ _ _ _ _ us hl => match us, hl with | [_, _], _ => rfl⟩
theorem at_has_all (X : K.In h) (G : h.Ns mainGlobals mg) (c : Sy w h K) : At K mg "has_all" s_has_all ["n", "place", "wires"] := by
  obtain ⟨fd, F⟩ := c.t.d.defs (d := d_has_all) (by simp [fnAll, fn0, fn1, fn2, fn3])
  exact ⟨_, fd, funD_fun F, He.glo_ok X G (c.t.d.facts (f := .glo "has_all") (by simp [faAll, fg0, fg1, fg2, fg3])), FunD.bindsN F fun _ _ _ _ _ _ us hl => match us, hl with | [_, _, _], _ => rfl⟩
theorem at_sure_gate (X : K.In h) (G : h.Ns mainGlobals mg) (c : Sy w h K) : At K mg "sure_gate" s_sure_gate ["n", "gate"] := by
  obtain ⟨fd, F⟩ := c.t.d.defs (d := d_sure_gate) (by simp [fnAll, fn0, fn1, fn2, fn3])
  exact ⟨_, fd, funD_fun F, He.glo_ok X G (c.t.d.facts (f := .glo "sure_gate") (by simp [faAll, fg0, fg1, fg2, fg3])), FunD.bindsN F fun _ _ _ _ _ _ us hl => match us, hl with | [_, _], _ => rfl⟩
theorem at_turns_by (X : K.In h) (G : h.Ns mainGlobals mg) (c : Sy w h K) : At K mg "turns_by" s_turns_by ["n", "wires", "many"] := by
  obtain ⟨fd, F⟩ := c.t.d.defs (d := d_turns_by) (by simp [fnAll, fn0, fn1, fn2, fn3])
  exact ⟨_, fd, funD_fun F, He.glo_ok X G (c.t.d.facts (f := .glo "turns_by") (by simp [faAll, fg0, fg1, fg2, fg3])), FunD.bindsN F fun _ _ _ _ _ _ us hl => match us, hl with | [_, _, _], _ => rfl⟩
theorem at_pairs_by (X : K.In h) (G : h.Ns mainGlobals mg) (c : Sy w h K) : At K mg "pairs_by" s_pairs_by ["n", "word", "wires", "goal"] := by
  obtain ⟨fd, F⟩ := c.t.d.defs (d := d_pairs_by) (by simp [fnAll, fn0, fn1, fn2, fn3])
  exact ⟨_, fd, funD_fun F, He.glo_ok X G (c.t.d.facts (f := .glo "pairs_by") (by simp [faAll, fg0, fg1, fg2, fg3])), FunD.bindsN F fun _ _ _ _ _ _ us hl => match us, hl with | [_, _, _, _], _ => rfl⟩
theorem at_deeds_of_gate (X : K.In h) (G : h.Ns mainGlobals mg) (c : Sy w h K) : At K mg "deeds_of_gate" s_deeds_of_gate ["n", "gate"] := by
  obtain ⟨fd, F⟩ := c.t.d.defs (d := d_deeds_of_gate) (by simp [fnAll, fn0, fn1, fn2, fn3])
  exact ⟨_, fd, funD_fun F, He.glo_ok X G (c.t.d.facts (f := .glo "deeds_of_gate") (by simp [faAll, fg0, fg1, fg2, fg3])), FunD.bindsN F fun _ _ _ _ _ _ us hl => match us, hl with | [_, _], _ => rfl⟩
theorem at_deeds_of_circuit (X : K.In h) (G : h.Ns mainGlobals mg) (c : Sy w h K) : At K mg "deeds_of_circuit" s_deeds_of_circuit ["circuit"] := by
  obtain ⟨fd, F⟩ := c.t.d.defs (d := d_deeds_of_circuit) (by simp [fnAll, fn0, fn1, fn2, fn3])
  exact ⟨_, fd, funD_fun F, He.glo_ok X G (c.t.d.facts (f := .glo "deeds_of_circuit") (by simp [faAll, fg0, fg1, fg2, fg3])), FunD.bindsN F fun _ _ _ _ _ _ us hl => match us, hl with | [_], _ => rfl⟩
theorem at_plain_deeds (X : K.In h) (G : h.Ns mainGlobals mg) (c : Sy w h K) : At K mg "plain_deeds" s_plain_deeds ["deeds"] := by
  obtain ⟨fd, F⟩ := c.t.d.defs (d := d_plain_deeds) (by simp [fnAll, fn0, fn1, fn2, fn3])
  exact ⟨_, fd, funD_fun F, He.glo_ok X G (c.t.d.facts (f := .glo "plain_deeds") (by simp [faAll, fg0, fg1, fg2, fg3])), FunD.bindsN F fun _ _ _ _ _ _ us hl => match us, hl with | [_], _ => rfl⟩
theorem at_columns_behind (X : K.In h) (G : h.Ns mainGlobals mg) (c : Sy w h K) : At K mg "columns_behind" s_columns_behind ["many", "deeds"] := by
  obtain ⟨fd, F⟩ := c.t.d.defs (d := d_columns_behind) (by simp [fnAll, fn0, fn1, fn2, fn3])
  exact ⟨_, fd, funD_fun F, He.glo_ok X G (c.t.d.facts (f := .glo "columns_behind") (by simp [faAll, fg0, fg1, fg2, fg3])), FunD.bindsN F fun _ _ _ _ _ _ us hl => match us, hl with | [_, _], _ => rfl⟩
theorem at_first_idle (X : K.In h) (G : h.Ns mainGlobals mg) (c : Sy w h K) : At K mg "first_idle" s_first_idle ["many", "deeds"] := by
  obtain ⟨fd, F⟩ := c.t.d.defs (d := d_first_idle) (by simp [fnAll, fn0, fn1, fn2, fn3])
  exact ⟨_, fd, funD_fun F, He.glo_ok X G (c.t.d.facts (f := .glo "first_idle") (by simp [faAll, fg0, fg1, fg2, fg3])), FunD.bindsN F fun _ _ _ _ _ _ us hl => match us, hl with | [_, _], _ => rfl⟩
theorem at_is_idle_stretch (X : K.In h) (G : h.Ns mainGlobals mg) (c : Sy w h K) : At K mg "is_idle_stretch" s_is_idle_stretch ["many", "deeds", "thing"] := by
  obtain ⟨fd, F⟩ := c.t.d.defs (d := d_is_idle_stretch) (by simp [fnAll, fn0, fn1, fn2, fn3])
  exact ⟨_, fd, funD_fun F, He.glo_ok X G (c.t.d.facts (f := .glo "is_idle_stretch") (by simp [faAll, fg0, fg1, fg2, fg3])), FunD.bindsN F fun _ _ _ _ _ _ us hl => match us, hl with | [_, _, _], _ => rfl⟩
theorem at_without_idle (X : K.In h) (G : h.Ns mainGlobals mg) (c : Sy w h K) : At K mg "without_idle" s_without_idle ["many", "deeds"] := by
  obtain ⟨fd, F⟩ := c.t.d.defs (d := d_without_idle) (by simp [fnAll, fn0, fn1, fn2, fn3])
  exact ⟨_, fd, funD_fun F, He.glo_ok X G (c.t.d.facts (f := .glo "without_idle") (by simp [faAll, fg0, fg1, fg2, fg3])), FunD.bindsN F fun _ _ _ _ _ _ us hl => match us, hl with | [_, _], _ => rfl⟩
theorem at_columns_of_both (X : K.In h) (G : h.Ns mainGlobals mg) (c : Sy w h K) : At K mg "columns_of_both" s_columns_of_both ["many", "one", "other"] := by
  obtain ⟨fd, F⟩ := c.t.d.defs (d := d_columns_of_both) (by simp [fnAll, fn0, fn1, fn2, fn3])
  exact ⟨_, fd, funD_fun F, He.glo_ok X G (c.t.d.facts (f := .glo "columns_of_both") (by simp [faAll, fg0, fg1, fg2, fg3])), FunD.bindsN F fun _ _ _ _ _ _ us hl => match us, hl with | [_, _, _], _ => rfl⟩
theorem at_parting_start (X : K.In h) (G : h.Ns mainGlobals mg) (c : Sy w h K) : At K mg "parting_start" s_parting_start ["many", "one", "other"] := by
  obtain ⟨fd, F⟩ := c.t.d.defs (d := d_parting_start) (by simp [fnAll, fn0, fn1, fn2, fn3])
  exact ⟨_, fd, funD_fun F, He.glo_ok X G (c.t.d.facts (f := .glo "parting_start") (by simp [faAll, fg0, fg1, fg2, fg3])), FunD.bindsN F fun _ _ _ _ _ _ us hl => match us, hl with | [_, _, _], _ => rfl⟩
theorem at_sure_wires (X : K.In h) (G : h.Ns mainGlobals mg) (c : Sy w h K) : At K mg "sure_wires" s_sure_wires ["one", "other"] := by
  obtain ⟨fd, F⟩ := c.t.d.defs (d := d_sure_wires) (by simp [fnAll, fn0, fn1, fn2, fn3])
  exact ⟨_, fd, funD_fun F, He.glo_ok X G (c.t.d.facts (f := .glo "sure_wires") (by simp [faAll, fg0, fg1, fg2, fg3])), FunD.bindsN F fun _ _ _ _ _ _ us hl => match us, hl with | [_, _], _ => rfl⟩
theorem at_columns_told (X : K.In h) (G : h.Ns mainGlobals mg) (c : Sy w h K) : At K mg "columns_told" s_columns_told ["circuit"] := by
  obtain ⟨fd, F⟩ := c.t.d.defs (d := d_columns_told) (by simp [fnAll, fn0, fn1, fn2, fn3])
  exact ⟨_, fd, funD_fun F, He.glo_ok X G (c.t.d.facts (f := .glo "columns_told") (by simp [faAll, fg0, fg1, fg2, fg3])), FunD.bindsN F fun _ _ _ _ _ _ us hl => match us, hl with | [_], _ => rfl⟩
theorem at_circuits_alike (X : K.In h) (G : h.Ns mainGlobals mg) (c : Sy w h K) : At K mg "circuits_alike" s_circuits_alike ["one", "other"] := by
  obtain ⟨fd, F⟩ := c.t.d.defs (d := d_circuits_alike) (by simp [fnAll, fn0, fn1, fn2, fn3])
  exact ⟨_, fd, funD_fun F, He.glo_ok X G (c.t.d.facts (f := .glo "circuits_alike") (by simp [faAll, fg0, fg1, fg2, fg3])), FunD.bindsN F fun _ _ _ _ _ _ us hl => match us, hl with | [_, _], _ => rfl⟩
theorem at_law_box (X : K.In h) (G : h.Ns mainGlobals mg) (c : Sy w h K) : At K mg "_law_box" s_law_box ["_law_script", "_law_k"] := by
  obtain ⟨fd, F⟩ := c.t.d.defs (d := d_law_box) (by simp [fnAll, fn0, fn1, fn2, fn3])
  exact ⟨_, fd, funD_fun F, He.glo_ok X G (c.t.d.facts (f := .glo "_law_box") (by simp [faAll, fg0, fg1, fg2, fg3])), FunD.bindsN F fun _ _ _ _ _ _ us hl => match us, hl with | [_, _], _ => rfl⟩
theorem at_law_take (X : K.In h) (G : h.Ns mainGlobals mg) (c : Sy w h K) : At K mg "_law_take" s_law_take ["_law_tin", "_law_below_so"] := by
  obtain ⟨fd, F⟩ := c.t.d.defs (d := d_law_take) (by simp [fnAll, fn0, fn1, fn2, fn3])
  exact ⟨_, fd, funD_fun F, He.glo_ok X G (c.t.d.facts (f := .glo "_law_take") (by simp [faAll, fg0, fg1, fg2, fg3])), FunD.bindsN F fun _ _ _ _ _ _ us hl => match us, hl with | [_, _], _ => rfl⟩
theorem at_law_cells (X : K.In h) (G : h.Ns mainGlobals mg) (c : Sy w h K) : At K mg "_law_cells" s_law_cells ["_law_script", "_law_most_so"] := by
  obtain ⟨fd, F⟩ := c.t.d.defs (d := d_law_cells) (by simp [fnAll, fn0, fn1, fn2, fn3])
  exact ⟨_, fd, funD_fun F, He.glo_ok X G (c.t.d.facts (f := .glo "_law_cells") (by simp [faAll, fg0, fg1, fg2, fg3])), FunD.bindsN F fun _ _ _ _ _ _ us hl => match us, hl with | [_, _], _ => rfl⟩
theorem at_law_of (X : K.In h) (G : h.Ns mainGlobals mg) (c : Sy w h K) : At K mg "_law_of" s_law_of ["_law_tin", "_law_goods_so"] := by
  obtain ⟨fd, F⟩ := c.t.d.defs (d := d_law_of) (by simp [fnAll, fn0, fn1, fn2, fn3])
  exact ⟨_, fd, funD_fun F, He.glo_ok X G (c.t.d.facts (f := .glo "_law_of") (by simp [faAll, fg0, fg1, fg2, fg3])), FunD.bindsN F fun _ _ _ _ _ _ us hl => match us, hl with | [_, _], _ => rfl⟩
theorem at_law_pick (X : K.In h) (G : h.Ns mainGlobals mg) (c : Sy w h K) : At K mg "_law_pick" s_law_pick ["_law_tin", "_law_goods_so", "_law_count_so"] := by
  obtain ⟨fd, F⟩ := c.t.d.defs (d := d_law_pick) (by simp [fnAll, fn0, fn1, fn2, fn3])
  exact ⟨_, fd, funD_fun F, He.glo_ok X G (c.t.d.facts (f := .glo "_law_pick") (by simp [faAll, fg0, fg1, fg2, fg3])), FunD.bindsN F fun _ _ _ _ _ _ us hl => match us, hl with | [_, _, _], _ => rfl⟩
theorem at_law_lists (X : K.In h) (G : h.Ns mainGlobals mg) (c : Sy w h K) : At K mg "_law_lists" s_law_lists ["_law_matter"] := by
  obtain ⟨fd, F⟩ := c.t.d.defs (d := d_law_lists) (by simp [fnAll, fn0, fn1, fn2, fn3])
  exact ⟨_, fd, funD_fun F, He.glo_ok X G (c.t.d.facts (f := .glo "_law_lists") (by simp [faAll, fg0, fg1, fg2, fg3])), FunD.bindsN F fun _ _ _ _ _ _ us hl => match us, hl with | [_], _ => rfl⟩
theorem at_law_same (X : K.In h) (G : h.Ns mainGlobals mg) (c : Sy w h K) : At K mg "_law_same" s_law_same ["_law_got", "_law_due"] := by
  obtain ⟨fd, F⟩ := c.t.d.defs (d := d_law_same) (by simp [fnAll, fn0, fn1, fn2, fn3])
  exact ⟨_, fd, funD_fun F, He.glo_ok X G (c.t.d.facts (f := .glo "_law_same") (by simp [faAll, fg0, fg1, fg2, fg3])), FunD.bindsN F fun _ _ _ _ _ _ us hl => match us, hl with | [_, _], _ => rfl⟩
theorem at_law_put (X : K.In h) (G : h.Ns mainGlobals mg) (c : Sy w h K) : At K mg "_law_put" s_law_put ["_law_row_so", "_law_place_so", "_law_bit_so"] := by
  obtain ⟨fd, F⟩ := c.t.d.defs (d := d_law_put) (by simp [fnAll, fn0, fn1, fn2, fn3])
  exact ⟨_, fd, funD_fun F, He.glo_ok X G (c.t.d.facts (f := .glo "_law_put") (by simp [faAll, fg0, fg1, fg2, fg3])), FunD.bindsN F fun _ _ _ _ _ _ us hl => match us, hl with | [_, _, _], _ => rfl⟩
theorem at_law_ray (X : K.In h) (G : h.Ns mainGlobals mg) (c : Sy w h K) : At K mg "_law_ray" s_law_ray ["_law_a_so", "_law_b_so", "_law_c_so", "_law_d_so", "_law_k_so"] := by
  obtain ⟨fd, F⟩ := c.t.d.defs (d := d_law_ray) (by simp [fnAll, fn0, fn1, fn2, fn3])
  exact ⟨_, fd, funD_fun F, He.glo_ok X G (c.t.d.facts (f := .glo "_law_ray") (by simp [faAll, fg0, fg1, fg2, fg3])), FunD.bindsN F fun _ _ _ _ _ _ us hl => match us, hl with | [_, _, _, _, _], _ => rfl⟩
theorem at_law_at (X : K.In h) (G : h.Ns mainGlobals mg) (c : Sy w h K) : At K mg "_law_at" s_law_at ["_law_ray_so", "_law_k_so"] := by
  obtain ⟨fd, F⟩ := c.t.d.defs (d := d_law_at) (by simp [fnAll, fn0, fn1, fn2, fn3])
  exact ⟨_, fd, funD_fun F, He.glo_ok X G (c.t.d.facts (f := .glo "_law_at") (by simp [faAll, fg0, fg1, fg2, fg3])), FunD.bindsN F fun _ _ _ _ _ _ us hl => match us, hl with | [_, _], _ => rfl⟩
theorem at_law_ray_sum (X : K.In h) (G : h.Ns mainGlobals mg) (c : Sy w h K) : At K mg "_law_ray_sum" s_law_ray_sum ["_law_one_so", "_law_other_so"] := by
  obtain ⟨fd, F⟩ := c.t.d.defs (d := d_law_ray_sum) (by simp [fnAll, fn0, fn1, fn2, fn3])
  exact ⟨_, fd, funD_fun F, He.glo_ok X G (c.t.d.facts (f := .glo "_law_ray_sum") (by simp [faAll, fg0, fg1, fg2, fg3])), FunD.bindsN F fun _ _ _ _ _ _ us hl => match us, hl with | [_, _], _ => rfl⟩
theorem at_law_ray_minus (X : K.In h) (G : h.Ns mainGlobals mg) (c : Sy w h K) : At K mg "_law_ray_minus" s_law_ray_minus ["_law_one_so"] := by
  obtain ⟨fd, F⟩ := c.t.d.defs (d := d_law_ray_minus) (by simp [fnAll, fn0, fn1, fn2, fn3])
  exact ⟨_, fd, funD_fun F, He.glo_ok X G (c.t.d.facts (f := .glo "_law_ray_minus") (by simp [faAll, fg0, fg1, fg2, fg3])), FunD.bindsN F fun _ _ _ _ _ _ us hl => match us, hl with | [_], _ => rfl⟩
theorem at_law_turned (X : K.In h) (G : h.Ns mainGlobals mg) (c : Sy w h K) : At K mg "_law_turned" s_law_turned ["_law_one_so", "_law_many_so"] := by
  obtain ⟨fd, F⟩ := c.t.d.defs (d := d_law_turned) (by simp [fnAll, fn0, fn1, fn2, fn3])
  exact ⟨_, fd, funD_fun F, He.glo_ok X G (c.t.d.facts (f := .glo "_law_turned") (by simp [faAll, fg0, fg1, fg2, fg3])), FunD.bindsN F fun _ _ _ _ _ _ us hl => match us, hl with | [_, _], _ => rfl⟩
theorem at_law_place_state (X : K.In h) (G : h.Ns mainGlobals mg) (c : Sy w h K) : At K mg "_law_place_state" s_law_place_state ["_law_size_so", "_law_place_so"] := by
  obtain ⟨fd, F⟩ := c.t.d.defs (d := d_law_place_state) (by simp [fnAll, fn0, fn1, fn2, fn3])
  exact ⟨_, fd, funD_fun F, He.glo_ok X G (c.t.d.facts (f := .glo "_law_place_state") (by simp [faAll, fg0, fg1, fg2, fg3])), FunD.bindsN F fun _ _ _ _ _ _ us hl => match us, hl with | [_, _], _ => rfl⟩
theorem at_law_deed_done (X : K.In h) (G : h.Ns mainGlobals mg) (c : Sy w h K) : At K mg "_law_deed_done" s_law_deed_done ["_law_state_so", "_law_deed_so"] := by
  obtain ⟨fd, F⟩ := c.t.d.defs (d := d_law_deed_done) (by simp [fnAll, fn0, fn1, fn2, fn3])
  exact ⟨_, fd, funD_fun F, He.glo_ok X G (c.t.d.facts (f := .glo "_law_deed_done") (by simp [faAll, fg0, fg1, fg2, fg3])), FunD.bindsN F fun _ _ _ _ _ _ us hl => match us, hl with | [_, _], _ => rfl⟩
theorem at_law_deeds_done (X : K.In h) (G : h.Ns mainGlobals mg) (c : Sy w h K) : At K mg "_law_deeds_done" s_law_deeds_done ["_law_state_so", "_law_deeds_so"] := by
  obtain ⟨fd, F⟩ := c.t.d.defs (d := d_law_deeds_done) (by simp [fnAll, fn0, fn1, fn2, fn3])
  exact ⟨_, fd, funD_fun F, He.glo_ok X G (c.t.d.facts (f := .glo "_law_deeds_done") (by simp [faAll, fg0, fg1, fg2, fg3])), FunD.bindsN F fun _ _ _ _ _ _ us hl => match us, hl with | [_, _], _ => rfl⟩
theorem at_law_twos (X : K.In h) (G : h.Ns mainGlobals mg) (c : Sy w h K) : At K mg "_law_twos" s_law_twos ["_law_many_so"] := by
  obtain ⟨fd, F⟩ := c.t.d.defs (d := d_law_twos) (by simp [fnAll, fn0, fn1, fn2, fn3])
  exact ⟨_, fd, funD_fun F, He.glo_ok X G (c.t.d.facts (f := .glo "_law_twos") (by simp [faAll, fg0, fg1, fg2, fg3])), FunD.bindsN F fun _ _ _ _ _ _ us hl => match us, hl with | [_], _ => rfl⟩
theorem at_law_deed (X : K.In h) (G : h.Ns mainGlobals mg) (c : Sy w h K) : At K mg "_law_deed" s_law_deed ["_law_tin", "_law_size_so"] := by
  obtain ⟨fd, F⟩ := c.t.d.defs (d := d_law_deed) (by simp [fnAll, fn0, fn1, fn2, fn3])
  exact ⟨_, fd, funD_fun F, He.glo_ok X G (c.t.d.facts (f := .glo "_law_deed") (by simp [faAll, fg0, fg1, fg2, fg3])), FunD.bindsN F fun _ _ _ _ _ _ us hl => match us, hl with | [_, _], _ => rfl⟩
theorem at_law_deeds (X : K.In h) (G : h.Ns mainGlobals mg) (c : Sy w h K) : At K mg "_law_deeds" s_law_deeds ["_law_tin", "_law_size_so", "_law_many_so"] := by
  obtain ⟨fd, F⟩ := c.t.d.defs (d := d_law_deeds) (by simp [fnAll, fn0, fn1, fn2, fn3])
  exact ⟨_, fd, funD_fun F, He.glo_ok X G (c.t.d.facts (f := .glo "_law_deeds") (by simp [faAll, fg0, fg1, fg2, fg3])), FunD.bindsN F fun _ _ _ _ _ _ us hl => match us, hl with | [_, _, _], _ => rfl⟩
theorem at_law_gate (X : K.In h) (G : h.Ns mainGlobals mg) (c : Sy w h K) : At K mg "_law_gate" s_law_gate ["_law_tin", "_law_n_so"] := by
  obtain ⟨fd, F⟩ := c.t.d.defs (d := d_law_gate) (by simp [fnAll, fn0, fn1, fn2, fn3])
  exact ⟨_, fd, funD_fun F, He.glo_ok X G (c.t.d.facts (f := .glo "_law_gate") (by simp [faAll, fg0, fg1, fg2, fg3])), FunD.bindsN F fun _ _ _ _ _ _ us hl => match us, hl with | [_, _], _ => rfl⟩
theorem at_law_circuit (X : K.In h) (G : h.Ns mainGlobals mg) (c : Sy w h K) : At K mg "_law_circuit" s_law_circuit ["_law_tin", "_law_n_so", "_law_many_so"] := by
  obtain ⟨fd, F⟩ := c.t.d.defs (d := d_law_circuit) (by simp [fnAll, fn0, fn1, fn2, fn3])
  exact ⟨_, fd, funD_fun F, He.glo_ok X G (c.t.d.facts (f := .glo "_law_circuit") (by simp [faAll, fg0, fg1, fg2, fg3])), FunD.bindsN F fun _ _ _ _ _ _ us hl => match us, hl with | [_, _, _], _ => rfl⟩
theorem at_law_state (X : K.In h) (G : h.Ns mainGlobals mg) (c : Sy w h K) : At K mg "_law_state" s_law_state ["_law_tin", "_law_size_so", "_law_many_so"] := by
  obtain ⟨fd, F⟩ := c.t.d.defs (d := d_law_state) (by simp [fnAll, fn0, fn1, fn2, fn3])
  exact ⟨_, fd, funD_fun F, He.glo_ok X G (c.t.d.facts (f := .glo "_law_state") (by simp [faAll, fg0, fg1, fg2, fg3])), FunD.bindsN F fun _ _ _ _ _ _ us hl => match us, hl with | [_, _, _], _ => rfl⟩
theorem at_law_rows (X : K.In h) (G : h.Ns mainGlobals mg) (c : Sy w h K) : At K mg "_law_rows" s_law_rows ["_law_size", "_law_deeds_here"] := by
  obtain ⟨fd, F⟩ := c.t.d.defs (d := d_law_rows) (by simp [fnAll, fn0, fn1, fn2, fn3])
  exact ⟨_, fd, funD_fun F, He.glo_ok X G (c.t.d.facts (f := .glo "_law_rows") (by simp [faAll, fg0, fg1, fg2, fg3])), FunD.bindsN F fun _ _ _ _ _ _ us hl => match us, hl with | [_, _], _ => rfl⟩
theorem at_law_first (X : K.In h) (G : h.Ns mainGlobals mg) (c : Sy w h K) : At K mg "_law_first" s_law_first ["_law_rows_here"] := by
  obtain ⟨fd, F⟩ := c.t.d.defs (d := d_law_first) (by simp [fnAll, fn0, fn1, fn2, fn3])
  exact ⟨_, fd, funD_fun F, He.glo_ok X G (c.t.d.facts (f := .glo "_law_first") (by simp [faAll, fg0, fg1, fg2, fg3])), FunD.bindsN F fun _ _ _ _ _ _ us hl => match us, hl with | [_], _ => rfl⟩
theorem at_law_cut (X : K.In h) (G : h.Ns mainGlobals mg) (c : Sy w h K) : At K mg "_law_cut" s_law_cut ["_law_size", "_law_deeds_here"] := by
  obtain ⟨fd, F⟩ := c.t.d.defs (d := d_law_cut) (by simp [fnAll, fn0, fn1, fn2, fn3])
  exact ⟨_, fd, funD_fun F, He.glo_ok X G (c.t.d.facts (f := .glo "_law_cut") (by simp [faAll, fg0, fg1, fg2, fg3])), FunD.bindsN F fun _ _ _ _ _ _ us hl => match us, hl with | [_, _], _ => rfl⟩
theorem at_law_still (X : K.In h) (G : h.Ns mainGlobals mg) (c : Sy w h K) : At K mg "_law_still" s_law_still ["_law_tin", "_law_size"] := by
  obtain ⟨fd, F⟩ := c.t.d.defs (d := d_law_still) (by simp [fnAll, fn0, fn1, fn2, fn3])
  exact ⟨_, fd, funD_fun F, He.glo_ok X G (c.t.d.facts (f := .glo "_law_still") (by simp [faAll, fg0, fg1, fg2, fg3])), FunD.bindsN F fun _ _ _ _ _ _ us hl => match us, hl with | [_, _], _ => rfl⟩
theorem at_law_drawn (X : K.In h) (G : h.Ns mainGlobals mg) (c : Sy w h K) : At K mg "_law_drawn" s_law_drawn ["_law_tin", "_law_size"] := by
  obtain ⟨fd, F⟩ := c.t.d.defs (d := d_law_drawn) (by simp [fnAll, fn0, fn1, fn2, fn3])
  exact ⟨_, fd, funD_fun F, He.glo_ok X G (c.t.d.facts (f := .glo "_law_drawn") (by simp [faAll, fg0, fg1, fg2, fg3])), FunD.bindsN F fun _ _ _ _ _ _ us hl => match us, hl with | [_, _], _ => rfl⟩
theorem at_law_heard (X : K.In h) (G : h.Ns mainGlobals mg) (c : Sy w h K) : At K mg "_law_heard" s_law_heard ["_law_size", "_law_one", "_law_other"] := by
  obtain ⟨fd, F⟩ := c.t.d.defs (d := d_law_heard) (by simp [fnAll, fn0, fn1, fn2, fn3])
  exact ⟨_, fd, funD_fun F, He.glo_ok X G (c.t.d.facts (f := .glo "_law_heard") (by simp [faAll, fg0, fg1, fg2, fg3])), FunD.bindsN F fun _ _ _ _ _ _ us hl => match us, hl with | [_, _, _], _ => rfl⟩
theorem at_law_asked (X : K.In h) (G : h.Ns mainGlobals mg) (c : Sy w h K) : At K mg "_law_asked" s_law_asked ["_law_size", "_law_deeds_here", "_law_thing"] := by
  obtain ⟨fd, F⟩ := c.t.d.defs (d := d_law_asked) (by simp [fnAll, fn0, fn1, fn2, fn3])
  exact ⟨_, fd, funD_fun F, He.glo_ok X G (c.t.d.facts (f := .glo "_law_asked") (by simp [faAll, fg0, fg1, fg2, fg3])), FunD.bindsN F fun _ _ _ _ _ _ us hl => match us, hl with | [_, _, _], _ => rfl⟩
theorem at_law_stretches_right (X : K.In h) (G : h.Ns mainGlobals mg) (c : Sy w h K) : At K mg "_law_stretches_right" s_law_stretches_right ["_law_tin", "_law_size", "_law_deeds_here"] := by
  obtain ⟨fd, F⟩ := c.t.d.defs (d := d_law_stretches_right) (by simp [fnAll, fn0, fn1, fn2, fn3])
  exact ⟨_, fd, funD_fun F, He.glo_ok X G (c.t.d.facts (f := .glo "_law_stretches_right") (by simp [faAll, fg0, fg1, fg2, fg3])), FunD.bindsN F fun _ _ _ _ _ _ us hl => match us, hl with | [_, _, _], _ => rfl⟩
theorem at_law_left_right (X : K.In h) (G : h.Ns mainGlobals mg) (c : Sy w h K) : At K mg "_law_left_right" s_law_left_right ["_law_tin", "_law_size", "_law_deeds_here"] := by
  obtain ⟨fd, F⟩ := c.t.d.defs (d := d_law_left_right) (by simp [fnAll, fn0, fn1, fn2, fn3])
  exact ⟨_, fd, funD_fun F, He.glo_ok X G (c.t.d.facts (f := .glo "_law_left_right") (by simp [faAll, fg0, fg1, fg2, fg3])), FunD.bindsN F fun _ _ _ _ _ _ us hl => match us, hl with | [_, _, _], _ => rfl⟩
theorem at_law_across_right (X : K.In h) (G : h.Ns mainGlobals mg) (c : Sy w h K) : At K mg "_law_across_right" s_law_across_right ["_law_tin"] := by
  obtain ⟨fd, F⟩ := c.t.d.defs (d := d_law_across_right) (by simp [fnAll, fn0, fn1, fn2, fn3])
  exact ⟨_, fd, funD_fun F, He.glo_ok X G (c.t.d.facts (f := .glo "_law_across_right") (by simp [faAll, fg0, fg1, fg2, fg3])), FunD.bindsN F fun _ _ _ _ _ _ us hl => match us, hl with | [_], _ => rfl⟩
theorem at_law_by_hand_right (X : K.In h) (G : h.Ns mainGlobals mg) (c : Sy w h K) : At K mg "_law_by_hand_right" s_law_by_hand_right [] := by
  obtain ⟨fd, F⟩ := c.t.d.defs (d := d_law_by_hand_right) (by simp [fnAll, fn0, fn1, fn2, fn3])
  exact ⟨_, fd, funD_fun F, He.glo_ok X G (c.t.d.facts (f := .glo "_law_by_hand_right") (by simp [faAll, fg0, fg1, fg2, fg3])), FunD.bindsN F fun _ _ _ _ _ _ us hl => match us, hl with | [], _ => rfl⟩
theorem at_law_right (X : K.In h) (G : h.Ns mainGlobals mg) (c : Sy w h K) : At K mg "_law_right" s_law_right ["_law_tin"] := by
  obtain ⟨fd, F⟩ := c.t.d.defs (d := d_law_right) (by simp [fnAll, fn0, fn1, fn2, fn3])
  exact ⟨_, fd, funD_fun F, He.glo_ok X G (c.t.d.facts (f := .glo "_law_right") (by simp [faAll, fg0, fg1, fg2, fg3])), FunD.bindsN F fun _ _ _ _ _ _ us hl => match us, hl with | [_], _ => rfl⟩
theorem at_law (X : K.In h) (G : h.Ns mainGlobals mg) (c : Sy w h K) : At K mg "law" s_law ["_law_script"] := by
  obtain ⟨fd, F⟩ := c.t.d.defs (d := d_law) (by simp [fnAll, fn0, fn1, fn2, fn3])
  exact ⟨_, fd, funD_fun F, He.glo_ok X G (c.t.d.facts (f := .glo "law") (by simp [faAll, fg0, fg1, fg2, fg3])), FunD.bindsN F fun _ _ _ _ _ _ us hl => match us, hl with | [_], _ => rfl⟩
theorem bi_ok (X : K.In h) (G : h.Ns mainGlobals mg) (c : Sy w h K) : Bi mg := by
  refine ⟨He.free_ok X G (c.t.d.facts (f := .free "len") (by simp [faAll, fr0])), He.free_ok X G (c.t.d.facts (f := .free "isinstance") (by simp [faAll, fr0])), He.free_ok X G (c.t.d.facts (f := .free "tuple") (by simp [faAll, fr0])), He.free_ok X G (c.t.d.facts (f := .free "list") (by simp [faAll, fr0])), He.free_ok X G (c.t.d.facts (f := .free "int") (by simp [faAll, fr0])), He.free_ok X G (c.t.d.facts (f := .free "bool") (by simp [faAll, fr0])), He.free_ok X G (c.t.d.facts (f := .free "str") (by simp [faAll, fr0])), He.free_ok X G (c.t.d.facts (f := .free "range") (by simp [faAll, fr0])), He.free_ok X G (c.t.d.facts (f := .free "max") (by simp [faAll, fr0])), He.free_ok X G (c.t.d.facts (f := .free "min") (by simp [faAll, fr0])), He.free_ok X G (c.t.d.facts (f := .free "all") (by simp [faAll, fr0])), He.free_ok X G (c.t.d.facts (f := .free "abs") (by simp [faAll, fr0])), He.free_ok X G (c.t.d.facts (f := .free "enumerate") (by simp [faAll, fr0])), He.free_ok X G (c.t.d.facts (f := .free "zip") (by simp [faAll, fr0])), He.free_ok X G (c.t.d.facts (f := .free "sorted") (by simp [faAll, fr0]))⟩
theorem gk_ok (X : K.In h) (G : h.Ns mainGlobals mg) (c : Sy w h K) : Gk K mg := by
  obtain ⟨m1, m⟩ := ba c.more
  obtain ⟨m2, _⟩ := ba m
  refine ⟨He.str_ok X G (c.t.d.facts (f := .str "TURN" "turn") (by simp [faAll, fr1])), He.str_ok X G (c.t.d.facts (f := .str "SWAP" "swap") (by simp [faAll, fr1])), He.str_ok X G (c.t.d.facts (f := .str "MIX" "mix") (by simp [faAll, fr1])), He.int_ok X G (c.t.d.facts (f := .int "HALF" 4) (by simp [faAll, fr1])), He.int_ok X G (c.t.d.facts (f := .int "FULL" 8) (by simp [faAll, fr1])), ⟨_, He.glo_ok X G (c.t.d.facts (f := .glo "ONE") (by simp [faAll, fg0, fg1, fg2, fg3])), fun H => He.tupB_ok m1 H⟩, ⟨_, He.glo_ok X G (c.t.d.facts (f := .glo "NOUGHT") (by simp [faAll, fg0, fg1, fg2, fg3])), fun H => He.tupB_ok m2 H⟩⟩
theorem ge_ok (X : K.In h) (G : h.Ns mainGlobals mg) (c : Sy w h K) : GE K w mg := by
  obtain ⟨_, m⟩ := ba c.more
  obtain ⟨_, m⟩ := ba m
  obtain ⟨m1, m⟩ := ba m
  obtain ⟨m2, m⟩ := ba m
  obtain ⟨m3, m⟩ := ba m
  obtain ⟨m4, _⟩ := ba m
  refine ⟨_, He.glo_ok X G (c.t.d.facts (f := .glo "EIGHTHS") (by simp [faAll, fg0, fg1, fg2, fg3])), c.t.tab 0, fun z v hz => ?_, fun z hz => ?_⟩
  · have key : ∀ (v : Int), (z, Dv.int v) ∈ ([("T", .int 1), ("S", .int 2), ("Z", .int 4), ("CZ", .int 4), ("W", .int 1)] : List (Str × Dv)) → ∃ t, PySem.W.nsIn K (ga K "EIGHTHS") z = some (some (.int v t)) := fun v hv => by
      obtain ⟨u, h1, h2⟩ := He.valsB_ok m1 hv
      obtain ⟨t, rfl⟩ := h2
      exact ⟨t, h1⟩
    refine key v ?_
    simp only [List.mem_cons, List.not_mem_nil, or_false, Prod.mk.injEq] at hz ⊢
    rcases hz with ⟨rfl, rfl⟩ | ⟨rfl, rfl⟩ | ⟨rfl, rfl⟩ | ⟨rfl, rfl⟩ | ⟨rfl, rfl⟩ <;> simp
  · simp only [List.mem_cons, List.not_mem_nil, or_false] at hz
    rcases hz with rfl | rfl | rfl
    · exact eqO_ok m2
    · exact eqO_ok m3
    · exact eqO_ok m4
theorem pp_ok (X : K.In h) (G : h.Ns mainGlobals mg) (c : Sy w h K) : PpTxt K mg (ga K "NoPaper") := by
  obtain ⟨h1, h2, h3, h4⟩ := He.exc_ok (c.t.d.facts (f := .exc "NoPaper") (by simp [faAll, fr1]))
  exact ⟨He.glo_ok X G (c.t.d.facts (f := .glo "NoPaper") (by simp [faAll, fg0, fg1, fg2, fg3])), h1, h2, h3, h4, He.exm_ok (c.t.d.facts (f := .exm "NoPaper" "NoPaper" true) (by simp [faAll, fr1]))⟩
theorem law_def {f : Addr} {fd : FuncData} (X : K.In h) (G : h.Ns mainGlobals mg) (c : Sy w h K) (Fn : Fun K "law" "law" s_law f fd) : FnOk P w K mg base CX0 14 f fd ["_law_script"] (spQ K F_law) := by
  have Z := bi_ok X G c
  have GG := gk_ok X G c
  have G2 := ge_ok X G c
  have TN := np_txt X G c
  have TP := pp_ok X G c
  have D_is_number := ok_is_number (P := P) (w := w) (K := K) (mg := mg) (base := base) Z (at_is_number X G c)
  have D_is_count := ok_is_count (P := P) (w := w) (K := K) (mg := mg) (base := base) D_is_number (at_is_count X G c)
  have D_is_below := ok_is_below (P := P) (w := w) (K := K) (mg := mg) (base := base) D_is_count (at_is_below X G c)
  have D_is_tuple_of := ok_is_tuple_of (P := P) (w := w) (K := K) (mg := mg) (base := base) Z (at_is_tuple_of X G c)
  have D_put_at := ok_put_at (P := P) (w := w) (K := K) (mg := mg) (base := base) (at_put_at X G c)
  have D_shortened := ok_shortened (P := P) (w := w) (K := K) (mg := mg) (base := base) (at_shortened X G c)
  have D_times_root := ok_times_root (P := P) (w := w) (K := K) (mg := mg) (base := base) Z (at_times_root X G c)
  have D_ray_sum := ok_ray_sum (P := P) (w := w) (K := K) (mg := mg) (base := base) Z D_times_root D_shortened (at_ray_sum X G c)
  have D_turned_ray := ok_turned_ray (P := P) (w := w) (K := K) (mg := mg) (base := base) Z (at_turned_ray X G c)
  have D_over_root := ok_over_root (P := P) (w := w) (K := K) (mg := mg) (base := base) Z D_shortened (at_over_root X G c)
  have D_tupled := ok_tupled (P := P) (w := w) (K := K) (mg := mg) (base := base) Z (at_tupled X G c) 5
  have D_sure_deeds := ok_sure_deeds (P := P) (w := w) (K := K) (mg := mg) (base := base) Z D_tupled (at_sure_deeds X G c)
  have D_led_by := ok_led_by (P := P) (w := w) (K := K) (mg := mg) (base := base) GG D_put_at D_turned_ray D_ray_sum D_over_root (at_led_by X G c)
  have D_led_by_all := ok_led_by_all (P := P) (w := w) (K := K) (mg := mg) (base := base) D_led_by (at_led_by_all X G c)
  have D_deeds_done := ok_deeds_done (P := P) (w := w) (K := K) (mg := mg) (base := base) Z D_tupled D_sure_deeds D_led_by_all (at_deeds_done X G c)
  have D_lone_state := ok_lone_state (P := P) (w := w) (K := K) (mg := mg) (base := base) GG D_put_at (at_lone_state X G c)
  have D_lone_states := ok_lone_states (P := P) (w := w) (K := K) (mg := mg) (base := base) Z D_lone_state (at_lone_states X G c)
  have D_columns_by := ok_columns_by (P := P) (w := w) (K := K) (mg := mg) (base := base) Z D_led_by_all D_lone_states (at_columns_by X G c)
  have D_columns_behind := ok_columns_behind (P := P) (w := w) (K := K) (mg := mg) (base := base) Z D_led_by D_lone_states (at_columns_behind X G c)
  have D_is_idle_stretch := ok_is_idle_stretch (P := P) (w := w) (K := K) (mg := mg) (base := base) Z D_is_tuple_of D_is_below D_sure_deeds D_columns_behind (at_is_idle_stretch X G c)
  have D_plain_deeds := ok_plain_deeds (P := P) (w := w) (K := K) (mg := mg) (base := base) Z GG D_tupled (at_plain_deeds X G c)
  have D_columns_of_both := ok_columns_of_both (P := P) (w := w) (K := K) (mg := mg) (base := base) D_sure_deeds D_columns_by (at_columns_of_both X G c)
  have D_first_idle := ok_first_idle (P := P) (w := w) (K := K) (mg := mg) (base := base) Z D_sure_deeds D_columns_behind (at_first_idle X G c)
  have D_without_idle := ok_without_idle (P := P) (w := w) (K := K) (mg := mg) (base := base) Z D_sure_deeds D_columns_behind (at_without_idle X G c)
  have D_bit_of := ok_bit_of (P := P) (w := w) (K := K) (mg := mg) (base := base) (at_bit_of X G c)
  have D_has_all := ok_has_all (P := P) (w := w) (K := K) (mg := mg) (base := base) Z D_bit_of (at_has_all X G c)
  have D_turns_by := ok_turns_by (P := P) (w := w) (K := K) (mg := mg) (base := base) Z GG D_has_all (at_turns_by X G c)
  have D_pairs_by := ok_pairs_by (P := P) (w := w) (K := K) (mg := mg) (base := base) Z GG D_bit_of D_has_all (at_pairs_by X G c)
  have D_sure_gate := ok_sure_gate (P := P) (w := w) (K := K) (mg := mg) (base := base) D_tupled (at_sure_gate X G c)
  have D_deeds_of_gate := ok_deeds_of_gate (P := P) (w := w) (K := K) (mg := mg) (base := base) Z GG G2 D_sure_gate D_turns_by D_pairs_by (at_deeds_of_gate X G c)
  have D_deeds_of_circuit := ok_deeds_of_circuit (P := P) (w := w) (K := K) (mg := mg) (base := base) Z D_tupled D_deeds_of_gate (at_deeds_of_circuit X G c)
  have D_sure_wires := ok_sure_wires (P := P) (w := w) (K := K) (mg := mg) (base := base) D_tupled (at_sure_wires X G c)
  have D_columns_told := ok_columns_told (P := P) (w := w) (K := K) (mg := mg) (base := base) D_columns_by D_deeds_of_circuit (at_columns_told X G c)
  have D_circuits_alike := ok_circuits_alike (P := P) (w := w) (K := K) (mg := mg) (base := base) D_sure_wires D_columns_told (at_circuits_alike X G c)
  have D_law_put := ok_law_put (P := P) (w := w) (K := K) (mg := mg) (base := base) (at_law_put X G c)
  have D_law_ray := ok_law_ray (P := P) (w := w) (K := K) (mg := mg) (base := base) (at_law_ray X G c)
  have D_law_at := ok_law_at (P := P) (w := w) (K := K) (mg := mg) (base := base) Z (at_law_at X G c)
  have D_law_ray_sum := ok_law_ray_sum (P := P) (w := w) (K := K) (mg := mg) (base := base) Z D_law_at D_law_ray (at_law_ray_sum X G c)
  have D_law_ray_minus := ok_law_ray_minus (P := P) (w := w) (K := K) (mg := mg) (base := base) (at_law_ray_minus X G c)
  have D_law_turned := ok_law_turned (P := P) (w := w) (K := K) (mg := mg) (base := base) Z (at_law_turned X G c)
  have D_law_place_state := ok_law_place_state (P := P) (w := w) (K := K) (mg := mg) (base := base) Z (at_law_place_state X G c)
  have D_law_deed_done := ok_law_deed_done (P := P) (w := w) (K := K) (mg := mg) (base := base) D_law_put D_law_turned D_law_ray_sum D_law_ray_minus D_law_ray (at_law_deed_done X G c)
  have D_law_deeds_done := ok_law_deeds_done (P := P) (w := w) (K := K) (mg := mg) (base := base) D_law_deed_done (at_law_deeds_done X G c)
  have D_law_twos := ok_law_twos (P := P) (w := w) (K := K) (mg := mg) (base := base) Z (at_law_twos X G c)
  have D_law_rows := ok_law_rows (P := P) (w := w) (K := K) (mg := mg) (base := base) Z D_law_deed_done D_law_place_state (at_law_rows X G c)
  have D_law_first := ok_law_first (P := P) (w := w) (K := K) (mg := mg) (base := base) Z (at_law_first X G c)
  have D_law_cut := ok_law_cut (P := P) (w := w) (K := K) (mg := mg) (base := base) Z D_law_rows D_law_first (at_law_cut X G c)
  have D_law_lists := ok_law_lists (P := P) (w := w) (K := K) (mg := mg) (base := base) Z (at_law_lists X G c) 5
  have D_law_same := ok_law_same (P := P) (w := w) (K := K) (mg := mg) (base := base) Z (at_law_same X G c) 7
  have D_law_take := ok_law_take (P := P) (w := w) (K := K) (mg := mg) (base := base) Z (at_law_take X G c)
  have D_law_box := ok_law_box (P := P) (w := w) (K := K) (mg := mg) (base := base) Z (at_law_box X G c)
  have D_law_cells := ok_law_cells (P := P) (w := w) (K := K) (mg := mg) (base := base) Z (at_law_cells X G c)
  have D_law_of := ok_law_of (P := P) (w := w) (K := K) (mg := mg) (base := base) Z D_law_take (at_law_of X G c)
  have D_law_pick := ok_law_pick (P := P) (w := w) (K := K) (mg := mg) (base := base) Z D_law_take (at_law_pick X G c)
  have D_law_deed := ok_law_deed (P := P) (w := w) (K := K) (mg := mg) (base := base) Z D_law_of D_law_pick (at_law_deed X G c)
  have D_law_deeds := ok_law_deeds (P := P) (w := w) (K := K) (mg := mg) (base := base) Z D_law_deed (at_law_deeds X G c)
  have D_law_state := ok_law_state (P := P) (w := w) (K := K) (mg := mg) (base := base) D_law_take D_law_deeds D_law_deeds_done D_law_place_state (at_law_state X G c)
  have D_law_gate := ok_law_gate (P := P) (w := w) (K := K) (mg := mg) (base := base) Z D_law_of D_law_pick (at_law_gate X G c)
  have D_law_circuit := ok_law_circuit (P := P) (w := w) (K := K) (mg := mg) (base := base) Z D_law_gate (at_law_circuit X G c)
  have D_law_still := ok_law_still (P := P) (w := w) (K := K) (mg := mg) (base := base) Z D_law_of D_law_pick (at_law_still X G c)
  have D_law_drawn := ok_law_drawn (P := P) (w := w) (K := K) (mg := mg) (base := base) Z D_law_take D_law_deeds D_law_still (at_law_drawn X G c)
  have D_sure_bad := bad_sure_deeds (P := P) (w := w) (K := K) (mg := mg) (base := base) Z TN D_tupled (at_sure_deeds X G c)
  have D_idle_bad := bad_is_idle_stretch (P := P) (w := w) (K := K) (mg := mg) (base := base) D_sure_bad D_columns_behind (at_is_idle_stretch X G c)
  have D_part0 := bad_parting_start (P := P) (w := w) (K := K) (mg := mg) (base := base) Z TP D_columns_of_both (at_parting_start X G c)
  have D_law_asked := ok_law_asked (P := P) (w := w) (K := K) (mg := mg) (base := base) TN D_is_idle_stretch D_idle_bad (at_law_asked X G c)
  have D_law_heard := ok_law_heard (P := P) (w := w) (K := K) (mg := mg) (base := base) TP D_part0 (at_law_heard X G c)
  have D_law_left_right := ok_law_left_right (P := P) (w := w) (K := K) (mg := mg) (base := base) D_law_cut D_without_idle D_law_lists D_law_same D_law_state D_deeds_done D_first_idle D_plain_deeds D_law_heard D_law_deeds_done (at_law_left_right X G c)
  have D_law_across_right := ok_law_across_right (P := P) (w := w) (K := K) (mg := mg) (base := base) Z D_law_take D_law_circuit D_deeds_of_circuit D_is_idle_stretch D_law_twos D_circuits_alike D_law_same (at_law_across_right X G c)
  have D_law_stretches_right := ok_law_stretches_right (P := P) (w := w) (K := K) (mg := mg) (base := base) Z D_law_take D_law_of D_law_rows D_law_first D_first_idle D_law_lists D_law_same D_is_idle_stretch D_law_asked (at_law_stretches_right X G c)
  have D_law_by_hand_right := ok_law_by_hand_right (P := P) (w := w) (K := K) (mg := mg) (base := base) Z D_first_idle D_without_idle D_is_idle_stretch D_law_asked D_law_same (at_law_by_hand_right X G c)
  have D_law_right := ok_law_right (P := P) (w := w) (K := K) (mg := mg) (base := base) D_law_take D_law_drawn D_law_stretches_right D_law_left_right D_law_across_right (at_law_right X G c)
  exact fn_law Z D_law_by_hand_right D_law_cells D_law_right D_law_box Fn
end
end DD
namespace DD
open PySem PySem.Spec L2
open PyProof.Rows hiding St
open He (Dv Fa DefD ga ma fAd ba eqO eqO_ok)
def spLaw (K : PySem.W.Frag) : Sp := fun vs H Q _ => ∃ (a : Addr) (ns : List Int), vs = [.ref a] ∧ ns.length ≤ 63 ∧ SqL K H a (ns.map V.int) ∧ ∀ H', Q (.bl true) H'
theorem facts {P : Program} {w : World} {K : PySem.W.Frag} {h : Heap} {mg : Str → Option Value} {f : Addr} (X : K.In h) (G : h.Ns mainGlobals mg) (hfa : mg ("law" : Str) = some (.ref f)) (c : Sy w h K) :
    ∃ fd : FuncData, (∀ (s : Shared) (v : Value), BindsTo s fd ⟨[v], []⟩ [("_law_script", v)]) ∧ ∀ base : Heap, K.In base → base.Ns mainGlobals mg → FnOk P w K mg base CX0 14 f fd ["_law_script"] (spLaw K) := by
  obtain ⟨fd, F⟩ := c.t.d.defs (d := d_law) (by simp [fnAll, fn0, fn1, fn2, fn3])
  have e := hfa.symm.trans (He.glo_ok X G (c.t.d.facts (f := .glo "law") (by simp [faAll, fg0, fg1, fg2, fg3])))
  cases e
  have b := FunD.bindsA (ps := ["_law_script"]) F fun _ _ _ _ _ _ us hl => match us, hl with | [_], _ => rfl
  refine ⟨fd, fun s v => b s [v] rfl, fun base _ _ => (law_def X G c (funD_fun F)).imp fun vs H Q E z => ?_⟩
  obtain ⟨a, ns, rfl, hl, hS, q⟩ := z
  refine ⟨a, ns.map V.int, [], H, intL ns, [], .bool true, rfl, Evl.Ex.refl H, hS, .of_ints ns, .nil, ⟨ns, rfl, hl, rfl, rfl⟩, fun v B' H' st rv => ?_⟩
  cases rv
  exact q H'
end DD
open PySem PySem.W PySem.Calls PyProof.Rows
theorem PySem.Challenge.cw_eighthturns_k09_whole_idle_stretches_holds : PySem.Challenge.rw_eighthturns_k09_whole_idle_stretches.Holds := by
  w_on; o_law
  refine HandSHeadRun.head_any (r := OpenLaw.row PySem.Challenge.rw_eighthturns_k09_whole_idle_stretches) (q := view (OpenLaw.row PySem.Challenge.rw_eighthturns_k09_whole_idle_stretches).prog [87]) (H := DD.hk) (ob := DD.ob) (M := 6000) (loose := DD.nms) (d := HandSHeadRun.topDef (OpenLaw.row PySem.Challenge.rw_eighthturns_k09_whole_idle_stretches).prog 87) (kwd := []) DD.ob_eq
    (by kernel_rfl) (fun s => by kernel_rfl) DD.run (by kernel_rfl) (by kernel_rfl) (by kernel_rfl) (by rfl) (by first | assumption | decide +kernel) (by decide +kernel) ⟨rfl, rfl, rfl, rfl, rfl, by decide +kernel⟩ ?hw ?hc
  case hw => w_witness2
  case hc =>
    refine L2.walk_ofE (l := PySem.Challenge.rw_eighthturns_k09_whole_idle_stretches) (n := 63) (k := 14) (x := "_law_script") (CX := L2.CX0) rfl (by decide) (by kernel_rfl) ⟨rfl, by decide, by decide⟩ ?F (fun _ _ _ _ z => z)
    intro w mg fa h Y G hmg0
    obtain ⟨K, KX, c⟩ := Y
    have hmg : mg ("law" : PySem.Str) = some (.ref fa) := by
      have e : (HandSHeadRun.topDef (OpenLaw.row PySem.Challenge.rw_eighthturns_k09_whole_idle_stretches).prog 87).name = ("law" : PySem.Str) := by kernel_rfl
      rw [← e]
      exact hmg0
    obtain ⟨fd, hb, hF⟩ := DD.facts (P := (PySem.Challenge.rw_eighthturns_k09_whole_idle_stretches).prog) (w := w) KX G hmg c
    exact ⟨K, fd, DD.spLaw K, KX, hb, fun H a ns hl _ hS => ⟨a, ns, rfl, hl, hS, fun _ => rfl⟩, hF⟩
