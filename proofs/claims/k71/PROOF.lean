import PyProof.Rows.All
import Wide.All
import OpenK.AllK
import Wide.FinOn
import KE.KStateDown
import Lean
import HandS.ForMost
import HandS.Defaults
import HandS.Flow
import HandS.HeadEnd
import HandS.HeadHook2
import HandS.Strs
import HandS.SetKeys
import HandS.SortInts
import HandS.WideBits
import HandS.Wide
import HandS.WordsExc
import HandS.Zip
import HandS.IsInst
import HandS.TupLe
import HandS.Style
import HandS.Conv
import HandS.Walk
import HandS.More
import HandS.Evl
import HandS.SetFor
import HandS.Codes
import HandS.Head0
import HandS.Head1
import HandS.Head2
import HandS.HeadHook3
import HandS.HeadHook4
import PySem.Challenge.RW_beatlamps_k71_whole_rows_that_come_again
set_option Elab.async false
set_option linter.all false
set_option maxRecDepth 100000
section
set_option maxHeartbeats 0
/-! the text by places, what the head tells (printed by gen.py) -/
namespace K71
open PySem PySem.Spec PyProof.Rows L2
def topS (i : Nat) : Stmt := PySem.Challenge.pw_beatlamps_k71_whole_rows_that_come_again.main.body.getD i (.Pass ⟨0, 0, 0, 0⟩)
abbrev s_bits_of : Stmt := topS 1
abbrev s_powers_of : Stmt := topS 2
abbrev s_degree_of : Stmt := topS 3
abbrev s_is_odd : Stmt := topS 4
abbrev s_times_of : Stmt := topS 5
abbrev s_parted_of : Stmt := topS 6
abbrev s_rest_of : Stmt := topS 7
abbrev s_power_of : Stmt := topS 8
abbrev s_sp_init : Stmt := inClass (topS 10) 0
abbrev s_sp_put : Stmt := inClass (topS 10) 1
abbrev s_sp_led : Stmt := inClass (topS 10) 2
abbrev s_sp_amount : Stmt := inClass (topS 10) 3
abbrev s_sp_idle : Stmt := inClass (topS 10) 4
abbrev s_sp_numbers_for : Stmt := inClass (topS 10) 5
abbrev s_sp_plain_rows : Stmt := inClass (topS 10) 6
abbrev s_sp_bar_for : Stmt := inClass (topS 10) 8
abbrev s_is_integer : Stmt := topS 23
abbrev s_is_word : Stmt := topS 24
abbrev s_is_tuple : Stmt := topS 25
abbrev s_is_lot : Stmt := topS 26
abbrev s_check_rule : Stmt := topS 29
abbrev s_contrary : Stmt := topS 30
abbrev s_is_mirrored : Stmt := topS 31
abbrev s_check_world : Stmt := topS 39
abbrev s_is_row : Stmt := topS 40
abbrev s_check_row : Stmt := topS 41
abbrev s_check_size : Stmt := topS 42
abbrev s_check_beats : Stmt := topS 43
abbrev s_row_bits : Stmt := topS 44
abbrev s_row_text : Stmt := topS 45
abbrev s_offset_bits : Stmt := topS 46
abbrev s_beat_by : Stmt := topS 47
abbrev s_unfolded_bits : Stmt := topS 48
abbrev s_by_offsets : Stmt := topS 49
abbrev s_world_offsets : Stmt := topS 50
abbrev s_after_bits : Stmt := topS 51
abbrev s_beat_power : Stmt := topS 52
abbrev s_after : Stmt := topS 53
abbrev s_is_row_of : Stmt := topS 58
abbrev s_do_meet_evenly : Stmt := topS 59
abbrev s_told_ahead : Stmt := topS 61
abbrev s_shows_told : Stmt := topS 62
abbrev s_ahead : Stmt := topS 63
abbrev s_lost_of : Stmt := topS 64
abbrev s_lost : Stmt := topS 65
abbrev s_depth : Stmt := topS 69
abbrev s_before : Stmt := topS 70
abbrev s_shows_before : Stmt := topS 71
abbrev s_least_of : Stmt := topS 73
abbrev s_factors_of : Stmt := topS 74
abbrev s_primes_of : Stmt := topS 76
abbrev s_plain_measure : Stmt := topS 77
abbrev s_least_common : Stmt := topS 78
abbrev s_twos_above : Stmt := topS 79
abbrev s_core_bits : Stmt := topS 80
abbrev s_measured_bits : Stmt := topS 81
abbrev s_measure_bits : Stmt := topS 82
abbrev s_row_own_bits : Stmt := topS 84
abbrev s_own_bits : Stmt := topS 85
abbrev s_own : Stmt := topS 86
abbrev s_tail_in : Stmt := topS 90
abbrev s_period_in : Stmt := topS 91
abbrev s_row_own : Stmt := topS 92
abbrev s_size_own : Stmt := topS 93
abbrev s_tail : Stmt := topS 94
abbrev s_period : Stmt := topS 95
abbrev s_tails : Stmt := topS 96
abbrev s_divisors_of : Stmt := topS 97
abbrev s_same_again : Stmt := topS 98
abbrev s_loops : Stmt := topS 99
abbrev s_comes_to : Stmt := topS 100
abbrev s__law_pot : Stmt := topS 102
abbrev s__law_take : Stmt := topS 103
abbrev s__law_of : Stmt := topS 104
abbrev s__law_cells : Stmt := topS 105
abbrev s__law_rule : Stmt := topS 106
abbrev s__law_kind : Stmt := topS 107
abbrev s__law_any_bits : Stmt := topS 108
abbrev s__law_text : Stmt := topS 109
abbrev s__law_bits : Stmt := topS 110
abbrev s__law_round : Stmt := topS 111
abbrev s__law_mirrored : Stmt := topS 112
abbrev s__law_by : Stmt := topS 113
abbrev s__law_offsets : Stmt := topS 114
abbrev s__law_odd_ones : Stmt := topS 115
abbrev s__law_after : Stmt := topS 116
abbrev s__law_is_row_right : Stmt := topS 117
abbrev s__law_are_all_right : Stmt := topS 118
abbrev s__law_right : Stmt := topS 119
abbrev s_law : Stmt := topS 120
abbrev d_bits_of : He.DefD := ⟨("bits_of", none), "bits_of", "bits_of", defArgs s_bits_of, defBody s_bits_of, defScope s_bits_of, [], []⟩
abbrev d_powers_of : He.DefD := ⟨("powers_of", none), "powers_of", "powers_of", defArgs s_powers_of, defBody s_powers_of, defScope s_powers_of, [], []⟩
abbrev d_degree_of : He.DefD := ⟨("degree_of", none), "degree_of", "degree_of", defArgs s_degree_of, defBody s_degree_of, defScope s_degree_of, [], []⟩
abbrev d_is_odd : He.DefD := ⟨("is_odd", none), "is_odd", "is_odd", defArgs s_is_odd, defBody s_is_odd, defScope s_is_odd, [], []⟩
abbrev d_times_of : He.DefD := ⟨("times_of", none), "times_of", "times_of", defArgs s_times_of, defBody s_times_of, defScope s_times_of, [], []⟩
abbrev d_parted_of : He.DefD := ⟨("parted_of", none), "parted_of", "parted_of", defArgs s_parted_of, defBody s_parted_of, defScope s_parted_of, [], []⟩
abbrev d_rest_of : He.DefD := ⟨("rest_of", none), "rest_of", "rest_of", defArgs s_rest_of, defBody s_rest_of, defScope s_rest_of, [], []⟩
abbrev d_power_of : He.DefD := ⟨("power_of", none), "power_of", "power_of", defArgs s_power_of, defBody s_power_of, defScope s_power_of, [], []⟩
abbrev d_sp_init : He.DefD := ⟨("Span", some "__init__"), "__init__", "Span.__init__", defArgs s_sp_init, defBody s_sp_init, defScope s_sp_init, [], []⟩
abbrev d_sp_put : He.DefD := ⟨("Span", some "put"), "put", "Span.put", defArgs s_sp_put, defBody s_sp_put, defScope s_sp_put, [], []⟩
abbrev d_sp_led : He.DefD := ⟨("Span", some "led"), "led", "Span.led", defArgs s_sp_led, defBody s_sp_led, defScope s_sp_led, [], []⟩
abbrev d_sp_amount : He.DefD := ⟨("Span", some "amount"), "amount", "Span.amount", defArgs s_sp_amount, defBody s_sp_amount, defScope s_sp_amount, [], []⟩
abbrev d_sp_idle : He.DefD := ⟨("Span", some "idle"), "idle", "Span.idle", defArgs s_sp_idle, defBody s_sp_idle, defScope s_sp_idle, [], []⟩
abbrev d_sp_numbers_for : He.DefD := ⟨("Span", some "numbers_for"), "numbers_for", "Span.numbers_for", defArgs s_sp_numbers_for, defBody s_sp_numbers_for, defScope s_sp_numbers_for, [], []⟩
abbrev d_sp_plain_rows : He.DefD := ⟨("Span", some "plain_rows"), "plain_rows", "Span.plain_rows", defArgs s_sp_plain_rows, defBody s_sp_plain_rows, defScope s_sp_plain_rows, [], []⟩
abbrev d_sp_bar_for : He.DefD := ⟨("Span", some "bar_for"), "bar_for", "Span.bar_for", defArgs s_sp_bar_for, defBody s_sp_bar_for, defScope s_sp_bar_for, [], []⟩
abbrev d_is_integer : He.DefD := ⟨("is_integer", none), "is_integer", "is_integer", defArgs s_is_integer, defBody s_is_integer, defScope s_is_integer, [], []⟩
abbrev d_is_word : He.DefD := ⟨("is_word", none), "is_word", "is_word", defArgs s_is_word, defBody s_is_word, defScope s_is_word, [], []⟩
abbrev d_is_tuple : He.DefD := ⟨("is_tuple", none), "is_tuple", "is_tuple", defArgs s_is_tuple, defBody s_is_tuple, defScope s_is_tuple, [.non], []⟩
abbrev d_is_lot : He.DefD := ⟨("is_lot", none), "is_lot", "is_lot", defArgs s_is_lot, defBody s_is_lot, defScope s_is_lot, [], []⟩
abbrev d_check_rule : He.DefD := ⟨("check_rule", none), "check_rule", "check_rule", defArgs s_check_rule, defBody s_check_rule, defScope s_check_rule, [], []⟩
abbrev d_contrary : He.DefD := ⟨("contrary", none), "contrary", "contrary", defArgs s_contrary, defBody s_contrary, defScope s_contrary, [], []⟩
abbrev d_is_mirrored : He.DefD := ⟨("is_mirrored", none), "is_mirrored", "is_mirrored", defArgs s_is_mirrored, defBody s_is_mirrored, defScope s_is_mirrored, [], []⟩
abbrev d_check_world : He.DefD := ⟨("check_world", none), "check_world", "check_world", defArgs s_check_world, defBody s_check_world, defScope s_check_world, [], []⟩
abbrev d_is_row : He.DefD := ⟨("is_row", none), "is_row", "is_row", defArgs s_is_row, defBody s_is_row, defScope s_is_row, [], []⟩
abbrev d_check_row : He.DefD := ⟨("check_row", none), "check_row", "check_row", defArgs s_check_row, defBody s_check_row, defScope s_check_row, [], []⟩
abbrev d_check_size : He.DefD := ⟨("check_size", none), "check_size", "check_size", defArgs s_check_size, defBody s_check_size, defScope s_check_size, [], []⟩
abbrev d_check_beats : He.DefD := ⟨("check_beats", none), "check_beats", "check_beats", defArgs s_check_beats, defBody s_check_beats, defScope s_check_beats, [], []⟩
abbrev d_row_bits : He.DefD := ⟨("row_bits", none), "row_bits", "row_bits", defArgs s_row_bits, defBody s_row_bits, defScope s_row_bits, [], []⟩
abbrev d_row_text : He.DefD := ⟨("row_text", none), "row_text", "row_text", defArgs s_row_text, defBody s_row_text, defScope s_row_text, [], []⟩
abbrev d_offset_bits : He.DefD := ⟨("offset_bits", none), "offset_bits", "offset_bits", defArgs s_offset_bits, defBody s_offset_bits, defScope s_offset_bits, [], []⟩
abbrev d_beat_by : He.DefD := ⟨("beat_by", none), "beat_by", "beat_by", defArgs s_beat_by, defBody s_beat_by, defScope s_beat_by, [], []⟩
abbrev d_unfolded_bits : He.DefD := ⟨("unfolded_bits", none), "unfolded_bits", "unfolded_bits", defArgs s_unfolded_bits, defBody s_unfolded_bits, defScope s_unfolded_bits, [], []⟩
abbrev d_by_offsets : He.DefD := ⟨("by_offsets", none), "by_offsets", "by_offsets", defArgs s_by_offsets, defBody s_by_offsets, defScope s_by_offsets, [], []⟩
abbrev d_world_offsets : He.DefD := ⟨("world_offsets", none), "world_offsets", "world_offsets", defArgs s_world_offsets, defBody s_world_offsets, defScope s_world_offsets, [], []⟩
abbrev d_after_bits : He.DefD := ⟨("after_bits", none), "after_bits", "after_bits", defArgs s_after_bits, defBody s_after_bits, defScope s_after_bits, [], []⟩
abbrev d_beat_power : He.DefD := ⟨("beat_power", none), "beat_power", "beat_power", defArgs s_beat_power, defBody s_beat_power, defScope s_beat_power, [], []⟩
abbrev d_after : He.DefD := ⟨("after", none), "after", "after", defArgs s_after, defBody s_after, defScope s_after, [], []⟩
abbrev d_is_row_of : He.DefD := ⟨("is_row_of", none), "is_row_of", "is_row_of", defArgs s_is_row_of, defBody s_is_row_of, defScope s_is_row_of, [], []⟩
abbrev d_do_meet_evenly : He.DefD := ⟨("do_meet_evenly", none), "do_meet_evenly", "do_meet_evenly", defArgs s_do_meet_evenly, defBody s_do_meet_evenly, defScope s_do_meet_evenly, [], []⟩
abbrev d_told_ahead : He.DefD := ⟨("told_ahead", none), "told_ahead", "told_ahead", defArgs s_told_ahead, defBody s_told_ahead, defScope s_told_ahead, [], []⟩
abbrev d_shows_told : He.DefD := ⟨("shows_told", none), "shows_told", "shows_told", defArgs s_shows_told, defBody s_shows_told, defScope s_shows_told, [], []⟩
abbrev d_ahead : He.DefD := ⟨("ahead", none), "ahead", "ahead", defArgs s_ahead, defBody s_ahead, defScope s_ahead, [], []⟩
abbrev d_lost_of : He.DefD := ⟨("lost_of", none), "lost_of", "lost_of", defArgs s_lost_of, defBody s_lost_of, defScope s_lost_of, [], []⟩
abbrev d_lost : He.DefD := ⟨("lost", none), "lost", "lost", defArgs s_lost, defBody s_lost, defScope s_lost, [], []⟩
abbrev d_depth : He.DefD := ⟨("depth", none), "depth", "depth", defArgs s_depth, defBody s_depth, defScope s_depth, [], []⟩
abbrev d_before : He.DefD := ⟨("before", none), "before", "before", defArgs s_before, defBody s_before, defScope s_before, [], []⟩
abbrev d_shows_before : He.DefD := ⟨("shows_before", none), "shows_before", "shows_before", defArgs s_shows_before, defBody s_shows_before, defScope s_shows_before, [], []⟩
abbrev d_least_of : He.DefD := ⟨("least_of", none), "least_of", "least_of", defArgs s_least_of, defBody s_least_of, defScope s_least_of, [], []⟩
abbrev d_factors_of : He.DefD := ⟨("factors_of", none), "factors_of", "factors_of", defArgs s_factors_of, defBody s_factors_of, defScope s_factors_of, [], []⟩
abbrev d_primes_of : He.DefD := ⟨("primes_of", none), "primes_of", "primes_of", defArgs s_primes_of, defBody s_primes_of, defScope s_primes_of, [], []⟩
abbrev d_plain_measure : He.DefD := ⟨("plain_measure", none), "plain_measure", "plain_measure", defArgs s_plain_measure, defBody s_plain_measure, defScope s_plain_measure, [], []⟩
abbrev d_least_common : He.DefD := ⟨("least_common", none), "least_common", "least_common", defArgs s_least_common, defBody s_least_common, defScope s_least_common, [], []⟩
abbrev d_twos_above : He.DefD := ⟨("twos_above", none), "twos_above", "twos_above", defArgs s_twos_above, defBody s_twos_above, defScope s_twos_above, [], []⟩
abbrev d_core_bits : He.DefD := ⟨("core_bits", none), "core_bits", "core_bits", defArgs s_core_bits, defBody s_core_bits, defScope s_core_bits, [], []⟩
abbrev d_measured_bits : He.DefD := ⟨("measured_bits", none), "measured_bits", "measured_bits", defArgs s_measured_bits, defBody s_measured_bits, defScope s_measured_bits, [], []⟩
abbrev d_measure_bits : He.DefD := ⟨("measure_bits", none), "measure_bits", "measure_bits", defArgs s_measure_bits, defBody s_measure_bits, defScope s_measure_bits, [], []⟩
abbrev d_row_own_bits : He.DefD := ⟨("row_own_bits", none), "row_own_bits", "row_own_bits", defArgs s_row_own_bits, defBody s_row_own_bits, defScope s_row_own_bits, [], []⟩
abbrev d_own_bits : He.DefD := ⟨("own_bits", none), "own_bits", "own_bits", defArgs s_own_bits, defBody s_own_bits, defScope s_own_bits, [], []⟩
abbrev d_own : He.DefD := ⟨("own", none), "own", "own", defArgs s_own, defBody s_own, defScope s_own, [], []⟩
abbrev d_tail_in : He.DefD := ⟨("tail_in", none), "tail_in", "tail_in", defArgs s_tail_in, defBody s_tail_in, defScope s_tail_in, [], []⟩
abbrev d_period_in : He.DefD := ⟨("period_in", none), "period_in", "period_in", defArgs s_period_in, defBody s_period_in, defScope s_period_in, [], []⟩
abbrev d_row_own : He.DefD := ⟨("row_own", none), "row_own", "row_own", defArgs s_row_own, defBody s_row_own, defScope s_row_own, [], []⟩
abbrev d_size_own : He.DefD := ⟨("size_own", none), "size_own", "size_own", defArgs s_size_own, defBody s_size_own, defScope s_size_own, [], []⟩
abbrev d_tail : He.DefD := ⟨("tail", none), "tail", "tail", defArgs s_tail, defBody s_tail, defScope s_tail, [], []⟩
abbrev d_period : He.DefD := ⟨("period", none), "period", "period", defArgs s_period, defBody s_period, defScope s_period, [], []⟩
abbrev d_tails : He.DefD := ⟨("tails", none), "tails", "tails", defArgs s_tails, defBody s_tails, defScope s_tails, [], []⟩
abbrev d_divisors_of : He.DefD := ⟨("divisors_of", none), "divisors_of", "divisors_of", defArgs s_divisors_of, defBody s_divisors_of, defScope s_divisors_of, [], []⟩
abbrev d_same_again : He.DefD := ⟨("same_again", none), "same_again", "same_again", defArgs s_same_again, defBody s_same_again, defScope s_same_again, [], []⟩
abbrev d_loops : He.DefD := ⟨("loops", none), "loops", "loops", defArgs s_loops, defBody s_loops, defScope s_loops, [], []⟩
abbrev d_comes_to : He.DefD := ⟨("comes_to", none), "comes_to", "comes_to", defArgs s_comes_to, defBody s_comes_to, defScope s_comes_to, [], []⟩
abbrev d__law_pot : He.DefD := ⟨("_law_pot", none), "_law_pot", "_law_pot", defArgs s__law_pot, defBody s__law_pot, defScope s__law_pot, [], []⟩
abbrev d__law_take : He.DefD := ⟨("_law_take", none), "_law_take", "_law_take", defArgs s__law_take, defBody s__law_take, defScope s__law_take, [], []⟩
abbrev d__law_of : He.DefD := ⟨("_law_of", none), "_law_of", "_law_of", defArgs s__law_of, defBody s__law_of, defScope s__law_of, [], []⟩
abbrev d__law_cells : He.DefD := ⟨("_law_cells", none), "_law_cells", "_law_cells", defArgs s__law_cells, defBody s__law_cells, defScope s__law_cells, [], []⟩
abbrev d__law_rule : He.DefD := ⟨("_law_rule", none), "_law_rule", "_law_rule", defArgs s__law_rule, defBody s__law_rule, defScope s__law_rule, [], []⟩
abbrev d__law_kind : He.DefD := ⟨("_law_kind", none), "_law_kind", "_law_kind", defArgs s__law_kind, defBody s__law_kind, defScope s__law_kind, [], []⟩
abbrev d__law_any_bits : He.DefD := ⟨("_law_any_bits", none), "_law_any_bits", "_law_any_bits", defArgs s__law_any_bits, defBody s__law_any_bits, defScope s__law_any_bits, [], []⟩
abbrev d__law_text : He.DefD := ⟨("_law_text", none), "_law_text", "_law_text", defArgs s__law_text, defBody s__law_text, defScope s__law_text, [], []⟩
abbrev d__law_bits : He.DefD := ⟨("_law_bits", none), "_law_bits", "_law_bits", defArgs s__law_bits, defBody s__law_bits, defScope s__law_bits, [], []⟩
abbrev d__law_round : He.DefD := ⟨("_law_round", none), "_law_round", "_law_round", defArgs s__law_round, defBody s__law_round, defScope s__law_round, [], []⟩
abbrev d__law_mirrored : He.DefD := ⟨("_law_mirrored", none), "_law_mirrored", "_law_mirrored", defArgs s__law_mirrored, defBody s__law_mirrored, defScope s__law_mirrored, [], []⟩
abbrev d__law_by : He.DefD := ⟨("_law_by", none), "_law_by", "_law_by", defArgs s__law_by, defBody s__law_by, defScope s__law_by, [], []⟩
abbrev d__law_offsets : He.DefD := ⟨("_law_offsets", none), "_law_offsets", "_law_offsets", defArgs s__law_offsets, defBody s__law_offsets, defScope s__law_offsets, [], []⟩
abbrev d__law_odd_ones : He.DefD := ⟨("_law_odd_ones", none), "_law_odd_ones", "_law_odd_ones", defArgs s__law_odd_ones, defBody s__law_odd_ones, defScope s__law_odd_ones, [], []⟩
abbrev d__law_after : He.DefD := ⟨("_law_after", none), "_law_after", "_law_after", defArgs s__law_after, defBody s__law_after, defScope s__law_after, [], []⟩
abbrev d__law_is_row_right : He.DefD := ⟨("_law_is_row_right", none), "_law_is_row_right", "_law_is_row_right", defArgs s__law_is_row_right, defBody s__law_is_row_right, defScope s__law_is_row_right, [], []⟩
abbrev d__law_are_all_right : He.DefD := ⟨("_law_are_all_right", none), "_law_are_all_right", "_law_are_all_right", defArgs s__law_are_all_right, defBody s__law_are_all_right, defScope s__law_are_all_right, [], []⟩
abbrev d__law_right : He.DefD := ⟨("_law_right", none), "_law_right", "_law_right", defArgs s__law_right, defBody s__law_right, defScope s__law_right, [], []⟩
abbrev d_law : He.DefD := ⟨("law", none), "law", "law", defArgs s_law, defBody s_law, defScope s_law, [], []⟩
def fn : List He.DefD := [d_bits_of, d_powers_of, d_degree_of, d_is_odd, d_times_of, d_parted_of, d_rest_of, d_power_of, d_sp_init, d_sp_put, d_sp_led, d_sp_amount, d_sp_idle, d_sp_numbers_for, d_sp_plain_rows, d_sp_bar_for, d_is_integer, d_is_word, d_is_tuple, d_is_lot, d_check_rule, d_contrary, d_is_mirrored, d_check_world, d_is_row, d_check_row, d_check_size, d_check_beats, d_row_bits, d_row_text, d_offset_bits, d_beat_by, d_unfolded_bits, d_by_offsets, d_world_offsets, d_after_bits, d_beat_power, d_after, d_is_row_of, d_do_meet_evenly, d_told_ahead, d_shows_told, d_ahead, d_lost_of, d_lost, d_depth, d_before, d_shows_before, d_least_of, d_factors_of, d_primes_of, d_plain_measure, d_least_common, d_twos_above, d_core_bits, d_measured_bits, d_measure_bits, d_row_own_bits, d_own_bits, d_own, d_tail_in, d_period_in, d_row_own, d_size_own, d_tail, d_period, d_tails, d_divisors_of, d_same_again, d_loops, d_comes_to, d__law_pot, d__law_take, d__law_of, d__law_cells, d__law_rule, d__law_kind, d__law_any_bits, d__law_text, d__law_bits, d__law_round, d__law_mirrored, d__law_by, d__law_offsets, d__law_odd_ones, d__law_after, d__law_is_row_right, d__law_are_all_right, d__law_right, d_law]
def fa : List He.Fa := [.glo "bits_of", .glo "powers_of", .glo "degree_of", .glo "is_odd", .glo "times_of", .glo "parted_of", .glo "rest_of", .glo "power_of", .glo "is_integer", .glo "is_word", .glo "is_tuple", .glo "is_lot", .glo "check_rule", .glo "contrary", .glo "is_mirrored", .glo "check_world", .glo "is_row", .glo "check_row", .glo "check_size", .glo "check_beats", .glo "row_bits", .glo "row_text", .glo "offset_bits", .glo "beat_by", .glo "unfolded_bits", .glo "by_offsets", .glo "world_offsets", .glo "after_bits", .glo "beat_power", .glo "after", .glo "is_row_of", .glo "do_meet_evenly", .glo "told_ahead", .glo "shows_told", .glo "ahead", .glo "lost_of", .glo "lost", .glo "depth", .glo "before", .glo "shows_before", .glo "least_of", .glo "factors_of", .glo "primes_of", .glo "plain_measure", .glo "least_common", .glo "twos_above", .glo "core_bits", .glo "measured_bits", .glo "measure_bits", .glo "row_own_bits", .glo "own_bits", .glo "own", .glo "tail_in", .glo "period_in", .glo "row_own", .glo "size_own", .glo "tail", .glo "period", .glo "tails", .glo "divisors_of", .glo "same_again", .glo "loops", .glo "comes_to", .glo "_law_pot", .glo "_law_take", .glo "_law_of", .glo "_law_cells", .glo "_law_rule", .glo "_law_kind", .glo "_law_any_bits", .glo "_law_text", .glo "_law_bits", .glo "_law_round", .glo "_law_mirrored", .glo "_law_by", .glo "_law_offsets", .glo "_law_odd_ones", .glo "_law_after", .glo "_law_is_row_right", .glo "_law_are_all_right", .glo "_law_right", .glo "law", .glo "Span", .free "isinstance", .free "len", .free "all", .free "any", .free "sum", .free "sorted", .free "set", .free "list", .free "tuple", .free "range", .free "enumerate", .free "zip", .free "int", .free "bool", .free "str", .free "abs", .free "max", .free "min", .int "MOST_BEATS" 1000000000000000000000000000000, .int "MOST_OFFSET" 6, .int "MOST_SIZE" 24, .int "PAIR" 2, .int "MOST_LAMPS" 16, .int "MOST_TURNS" 4096, .str "RING" "ring", .str "WALLS" "walls", .str "ON" "1", .str "OFF" "0", .str "ROW" "row", .str "GARDEN" "garden", .str "ALWAYS" "always", .str "BEATS" "beats", .glo "KINDS", .cls "Span", .noat "Span" "own_leads", .noat "Span" "own_idle", .meth "Span" "put", .meth "Span" "led", .meth "Span" "amount", .meth "Span" "idle", .meth "Span" "numbers_for", .meth "Span" "plain_rows", .meth "Span" "bar_for", .mkr "Span"]
def exK (K : PySem.W.Frag) : Bool := He.tupB K "KINDS" [.str "ring", .str "walls"]
/-- what stands at the law's entry -/
structure Ok (K : PySem.W.Frag) (mg : Str → Option Value) : Prop where
  d : He.SaysD fa fn K
  t : exK K = true
  h : ∃ h : Heap, K.In h ∧ h.Ns mainGlobals mg
/-- the function object at f -/
def fdA (K : PySem.W.Frag) (f : Addr) : FuncData := match K.lookup f with
  | some ⟨_, _, .func fd, _⟩ => fd
  | _ => PySem.W.fnOf "" "" (defArgs (topS 0)) [] (defScope (topS 0)) .none .none .none .none none .none .none
theorem f_of {K : PySem.W.Frag} {x q : Str} {p : Arguments} {b : List Stmt} {s : Scope} {dv : List V} {kw : List (Str × V)} {f : Addr} (h : ∃ fd, FunD K x q p b s dv kw f fd) : FunD K x q p b s dv kw f (fdA K f) := by
  obtain ⟨fd, F⟩ := h
  obtain ⟨oc, od, dV, kV, doc, pm, an, cdv, ct, osl, e, lk, _⟩ := F.ex
  have e2 : fdA K f = fd := by
    unfold fdA
    rw [lk]
  rw [e2]
  exact F
/-- the class -/
abbrev cSpan (K : PySem.W.Frag) : Addr := He.ga K "Span"
section
variable {K : PySem.W.Frag} {mg : Str → Option Value}
/-- a constant of the module, told with some token -/
theorem pe_gi {X : Cx} {x : Str} {i : Int} {pos : Pos} (hg : Gl X x) (hm : ∃ t, X.mg x = some (.int i t)) (hd : (x == ("__debug__" : Str)) = false := by decide) : PE X (.Name x pos) (tC (.int i)) := by
  obtain ⟨t, h⟩ := hm
  exact pe_glob hg h ⟨t, rfl⟩ hd
theorem pe_gs {X : Cx} {x z : Str} {pos : Pos} (hg : Gl X x) (hm : ∃ t, X.mg x = some (.str z t)) (hd : (x == ("__debug__" : Str)) = false := by decide) : PE X (.Name x pos) (tC (.str z)) := by
  obtain ⟨t, h⟩ := hm
  exact pe_glob hg h ⟨t, rfl⟩ hd
theorem Ok.m_bits_of (D : Ok K mg) : mg "bits_of" = some (.ref (He.ga K "bits_of")) := (match D.h with | ⟨_, X, G⟩ => He.glo_ok X G (D.d.fact 0 (f := .glo "bits_of") rfl))
theorem Ok.m_powers_of (D : Ok K mg) : mg "powers_of" = some (.ref (He.ga K "powers_of")) := (match D.h with | ⟨_, X, G⟩ => He.glo_ok X G (D.d.fact 1 (f := .glo "powers_of") rfl))
theorem Ok.m_degree_of (D : Ok K mg) : mg "degree_of" = some (.ref (He.ga K "degree_of")) := (match D.h with | ⟨_, X, G⟩ => He.glo_ok X G (D.d.fact 2 (f := .glo "degree_of") rfl))
theorem Ok.m_is_odd (D : Ok K mg) : mg "is_odd" = some (.ref (He.ga K "is_odd")) := (match D.h with | ⟨_, X, G⟩ => He.glo_ok X G (D.d.fact 3 (f := .glo "is_odd") rfl))
theorem Ok.m_times_of (D : Ok K mg) : mg "times_of" = some (.ref (He.ga K "times_of")) := (match D.h with | ⟨_, X, G⟩ => He.glo_ok X G (D.d.fact 4 (f := .glo "times_of") rfl))
theorem Ok.m_parted_of (D : Ok K mg) : mg "parted_of" = some (.ref (He.ga K "parted_of")) := (match D.h with | ⟨_, X, G⟩ => He.glo_ok X G (D.d.fact 5 (f := .glo "parted_of") rfl))
theorem Ok.m_rest_of (D : Ok K mg) : mg "rest_of" = some (.ref (He.ga K "rest_of")) := (match D.h with | ⟨_, X, G⟩ => He.glo_ok X G (D.d.fact 6 (f := .glo "rest_of") rfl))
theorem Ok.m_power_of (D : Ok K mg) : mg "power_of" = some (.ref (He.ga K "power_of")) := (match D.h with | ⟨_, X, G⟩ => He.glo_ok X G (D.d.fact 7 (f := .glo "power_of") rfl))
theorem Ok.m_is_integer (D : Ok K mg) : mg "is_integer" = some (.ref (He.ga K "is_integer")) := (match D.h with | ⟨_, X, G⟩ => He.glo_ok X G (D.d.fact 8 (f := .glo "is_integer") rfl))
theorem Ok.m_is_word (D : Ok K mg) : mg "is_word" = some (.ref (He.ga K "is_word")) := (match D.h with | ⟨_, X, G⟩ => He.glo_ok X G (D.d.fact 9 (f := .glo "is_word") rfl))
theorem Ok.m_is_tuple (D : Ok K mg) : mg "is_tuple" = some (.ref (He.ga K "is_tuple")) := (match D.h with | ⟨_, X, G⟩ => He.glo_ok X G (D.d.fact 10 (f := .glo "is_tuple") rfl))
theorem Ok.m_is_lot (D : Ok K mg) : mg "is_lot" = some (.ref (He.ga K "is_lot")) := (match D.h with | ⟨_, X, G⟩ => He.glo_ok X G (D.d.fact 11 (f := .glo "is_lot") rfl))
theorem Ok.m_check_rule (D : Ok K mg) : mg "check_rule" = some (.ref (He.ga K "check_rule")) := (match D.h with | ⟨_, X, G⟩ => He.glo_ok X G (D.d.fact 12 (f := .glo "check_rule") rfl))
theorem Ok.m_contrary (D : Ok K mg) : mg "contrary" = some (.ref (He.ga K "contrary")) := (match D.h with | ⟨_, X, G⟩ => He.glo_ok X G (D.d.fact 13 (f := .glo "contrary") rfl))
theorem Ok.m_is_mirrored (D : Ok K mg) : mg "is_mirrored" = some (.ref (He.ga K "is_mirrored")) := (match D.h with | ⟨_, X, G⟩ => He.glo_ok X G (D.d.fact 14 (f := .glo "is_mirrored") rfl))
theorem Ok.m_check_world (D : Ok K mg) : mg "check_world" = some (.ref (He.ga K "check_world")) := (match D.h with | ⟨_, X, G⟩ => He.glo_ok X G (D.d.fact 15 (f := .glo "check_world") rfl))
theorem Ok.m_is_row (D : Ok K mg) : mg "is_row" = some (.ref (He.ga K "is_row")) := (match D.h with | ⟨_, X, G⟩ => He.glo_ok X G (D.d.fact 16 (f := .glo "is_row") rfl))
theorem Ok.m_check_row (D : Ok K mg) : mg "check_row" = some (.ref (He.ga K "check_row")) := (match D.h with | ⟨_, X, G⟩ => He.glo_ok X G (D.d.fact 17 (f := .glo "check_row") rfl))
theorem Ok.m_check_size (D : Ok K mg) : mg "check_size" = some (.ref (He.ga K "check_size")) := (match D.h with | ⟨_, X, G⟩ => He.glo_ok X G (D.d.fact 18 (f := .glo "check_size") rfl))
theorem Ok.m_check_beats (D : Ok K mg) : mg "check_beats" = some (.ref (He.ga K "check_beats")) := (match D.h with | ⟨_, X, G⟩ => He.glo_ok X G (D.d.fact 19 (f := .glo "check_beats") rfl))
theorem Ok.m_row_bits (D : Ok K mg) : mg "row_bits" = some (.ref (He.ga K "row_bits")) := (match D.h with | ⟨_, X, G⟩ => He.glo_ok X G (D.d.fact 20 (f := .glo "row_bits") rfl))
theorem Ok.m_row_text (D : Ok K mg) : mg "row_text" = some (.ref (He.ga K "row_text")) := (match D.h with | ⟨_, X, G⟩ => He.glo_ok X G (D.d.fact 21 (f := .glo "row_text") rfl))
theorem Ok.m_offset_bits (D : Ok K mg) : mg "offset_bits" = some (.ref (He.ga K "offset_bits")) := (match D.h with | ⟨_, X, G⟩ => He.glo_ok X G (D.d.fact 22 (f := .glo "offset_bits") rfl))
theorem Ok.m_beat_by (D : Ok K mg) : mg "beat_by" = some (.ref (He.ga K "beat_by")) := (match D.h with | ⟨_, X, G⟩ => He.glo_ok X G (D.d.fact 23 (f := .glo "beat_by") rfl))
theorem Ok.m_unfolded_bits (D : Ok K mg) : mg "unfolded_bits" = some (.ref (He.ga K "unfolded_bits")) := (match D.h with | ⟨_, X, G⟩ => He.glo_ok X G (D.d.fact 24 (f := .glo "unfolded_bits") rfl))
theorem Ok.m_by_offsets (D : Ok K mg) : mg "by_offsets" = some (.ref (He.ga K "by_offsets")) := (match D.h with | ⟨_, X, G⟩ => He.glo_ok X G (D.d.fact 25 (f := .glo "by_offsets") rfl))
theorem Ok.m_world_offsets (D : Ok K mg) : mg "world_offsets" = some (.ref (He.ga K "world_offsets")) := (match D.h with | ⟨_, X, G⟩ => He.glo_ok X G (D.d.fact 26 (f := .glo "world_offsets") rfl))
theorem Ok.m_after_bits (D : Ok K mg) : mg "after_bits" = some (.ref (He.ga K "after_bits")) := (match D.h with | ⟨_, X, G⟩ => He.glo_ok X G (D.d.fact 27 (f := .glo "after_bits") rfl))
theorem Ok.m_beat_power (D : Ok K mg) : mg "beat_power" = some (.ref (He.ga K "beat_power")) := (match D.h with | ⟨_, X, G⟩ => He.glo_ok X G (D.d.fact 28 (f := .glo "beat_power") rfl))
theorem Ok.m_after (D : Ok K mg) : mg "after" = some (.ref (He.ga K "after")) := (match D.h with | ⟨_, X, G⟩ => He.glo_ok X G (D.d.fact 29 (f := .glo "after") rfl))
theorem Ok.m_is_row_of (D : Ok K mg) : mg "is_row_of" = some (.ref (He.ga K "is_row_of")) := (match D.h with | ⟨_, X, G⟩ => He.glo_ok X G (D.d.fact 30 (f := .glo "is_row_of") rfl))
theorem Ok.m_do_meet_evenly (D : Ok K mg) : mg "do_meet_evenly" = some (.ref (He.ga K "do_meet_evenly")) := (match D.h with | ⟨_, X, G⟩ => He.glo_ok X G (D.d.fact 31 (f := .glo "do_meet_evenly") rfl))
theorem Ok.m_told_ahead (D : Ok K mg) : mg "told_ahead" = some (.ref (He.ga K "told_ahead")) := (match D.h with | ⟨_, X, G⟩ => He.glo_ok X G (D.d.fact 32 (f := .glo "told_ahead") rfl))
theorem Ok.m_shows_told (D : Ok K mg) : mg "shows_told" = some (.ref (He.ga K "shows_told")) := (match D.h with | ⟨_, X, G⟩ => He.glo_ok X G (D.d.fact 33 (f := .glo "shows_told") rfl))
theorem Ok.m_ahead (D : Ok K mg) : mg "ahead" = some (.ref (He.ga K "ahead")) := (match D.h with | ⟨_, X, G⟩ => He.glo_ok X G (D.d.fact 34 (f := .glo "ahead") rfl))
theorem Ok.m_lost_of (D : Ok K mg) : mg "lost_of" = some (.ref (He.ga K "lost_of")) := (match D.h with | ⟨_, X, G⟩ => He.glo_ok X G (D.d.fact 35 (f := .glo "lost_of") rfl))
theorem Ok.m_lost (D : Ok K mg) : mg "lost" = some (.ref (He.ga K "lost")) := (match D.h with | ⟨_, X, G⟩ => He.glo_ok X G (D.d.fact 36 (f := .glo "lost") rfl))
theorem Ok.m_depth (D : Ok K mg) : mg "depth" = some (.ref (He.ga K "depth")) := (match D.h with | ⟨_, X, G⟩ => He.glo_ok X G (D.d.fact 37 (f := .glo "depth") rfl))
theorem Ok.m_before (D : Ok K mg) : mg "before" = some (.ref (He.ga K "before")) := (match D.h with | ⟨_, X, G⟩ => He.glo_ok X G (D.d.fact 38 (f := .glo "before") rfl))
theorem Ok.m_shows_before (D : Ok K mg) : mg "shows_before" = some (.ref (He.ga K "shows_before")) := (match D.h with | ⟨_, X, G⟩ => He.glo_ok X G (D.d.fact 39 (f := .glo "shows_before") rfl))
theorem Ok.m_least_of (D : Ok K mg) : mg "least_of" = some (.ref (He.ga K "least_of")) := (match D.h with | ⟨_, X, G⟩ => He.glo_ok X G (D.d.fact 40 (f := .glo "least_of") rfl))
theorem Ok.m_factors_of (D : Ok K mg) : mg "factors_of" = some (.ref (He.ga K "factors_of")) := (match D.h with | ⟨_, X, G⟩ => He.glo_ok X G (D.d.fact 41 (f := .glo "factors_of") rfl))
theorem Ok.m_primes_of (D : Ok K mg) : mg "primes_of" = some (.ref (He.ga K "primes_of")) := (match D.h with | ⟨_, X, G⟩ => He.glo_ok X G (D.d.fact 42 (f := .glo "primes_of") rfl))
theorem Ok.m_plain_measure (D : Ok K mg) : mg "plain_measure" = some (.ref (He.ga K "plain_measure")) := (match D.h with | ⟨_, X, G⟩ => He.glo_ok X G (D.d.fact 43 (f := .glo "plain_measure") rfl))
theorem Ok.m_least_common (D : Ok K mg) : mg "least_common" = some (.ref (He.ga K "least_common")) := (match D.h with | ⟨_, X, G⟩ => He.glo_ok X G (D.d.fact 44 (f := .glo "least_common") rfl))
theorem Ok.m_twos_above (D : Ok K mg) : mg "twos_above" = some (.ref (He.ga K "twos_above")) := (match D.h with | ⟨_, X, G⟩ => He.glo_ok X G (D.d.fact 45 (f := .glo "twos_above") rfl))
theorem Ok.m_core_bits (D : Ok K mg) : mg "core_bits" = some (.ref (He.ga K "core_bits")) := (match D.h with | ⟨_, X, G⟩ => He.glo_ok X G (D.d.fact 46 (f := .glo "core_bits") rfl))
theorem Ok.m_measured_bits (D : Ok K mg) : mg "measured_bits" = some (.ref (He.ga K "measured_bits")) := (match D.h with | ⟨_, X, G⟩ => He.glo_ok X G (D.d.fact 47 (f := .glo "measured_bits") rfl))
theorem Ok.m_measure_bits (D : Ok K mg) : mg "measure_bits" = some (.ref (He.ga K "measure_bits")) := (match D.h with | ⟨_, X, G⟩ => He.glo_ok X G (D.d.fact 48 (f := .glo "measure_bits") rfl))
theorem Ok.m_row_own_bits (D : Ok K mg) : mg "row_own_bits" = some (.ref (He.ga K "row_own_bits")) := (match D.h with | ⟨_, X, G⟩ => He.glo_ok X G (D.d.fact 49 (f := .glo "row_own_bits") rfl))
theorem Ok.m_own_bits (D : Ok K mg) : mg "own_bits" = some (.ref (He.ga K "own_bits")) := (match D.h with | ⟨_, X, G⟩ => He.glo_ok X G (D.d.fact 50 (f := .glo "own_bits") rfl))
theorem Ok.m_own (D : Ok K mg) : mg "own" = some (.ref (He.ga K "own")) := (match D.h with | ⟨_, X, G⟩ => He.glo_ok X G (D.d.fact 51 (f := .glo "own") rfl))
theorem Ok.m_tail_in (D : Ok K mg) : mg "tail_in" = some (.ref (He.ga K "tail_in")) := (match D.h with | ⟨_, X, G⟩ => He.glo_ok X G (D.d.fact 52 (f := .glo "tail_in") rfl))
theorem Ok.m_period_in (D : Ok K mg) : mg "period_in" = some (.ref (He.ga K "period_in")) := (match D.h with | ⟨_, X, G⟩ => He.glo_ok X G (D.d.fact 53 (f := .glo "period_in") rfl))
theorem Ok.m_row_own (D : Ok K mg) : mg "row_own" = some (.ref (He.ga K "row_own")) := (match D.h with | ⟨_, X, G⟩ => He.glo_ok X G (D.d.fact 54 (f := .glo "row_own") rfl))
theorem Ok.m_size_own (D : Ok K mg) : mg "size_own" = some (.ref (He.ga K "size_own")) := (match D.h with | ⟨_, X, G⟩ => He.glo_ok X G (D.d.fact 55 (f := .glo "size_own") rfl))
theorem Ok.m_tail (D : Ok K mg) : mg "tail" = some (.ref (He.ga K "tail")) := (match D.h with | ⟨_, X, G⟩ => He.glo_ok X G (D.d.fact 56 (f := .glo "tail") rfl))
theorem Ok.m_period (D : Ok K mg) : mg "period" = some (.ref (He.ga K "period")) := (match D.h with | ⟨_, X, G⟩ => He.glo_ok X G (D.d.fact 57 (f := .glo "period") rfl))
theorem Ok.m_tails (D : Ok K mg) : mg "tails" = some (.ref (He.ga K "tails")) := (match D.h with | ⟨_, X, G⟩ => He.glo_ok X G (D.d.fact 58 (f := .glo "tails") rfl))
theorem Ok.m_divisors_of (D : Ok K mg) : mg "divisors_of" = some (.ref (He.ga K "divisors_of")) := (match D.h with | ⟨_, X, G⟩ => He.glo_ok X G (D.d.fact 59 (f := .glo "divisors_of") rfl))
theorem Ok.m_same_again (D : Ok K mg) : mg "same_again" = some (.ref (He.ga K "same_again")) := (match D.h with | ⟨_, X, G⟩ => He.glo_ok X G (D.d.fact 60 (f := .glo "same_again") rfl))
theorem Ok.m_loops (D : Ok K mg) : mg "loops" = some (.ref (He.ga K "loops")) := (match D.h with | ⟨_, X, G⟩ => He.glo_ok X G (D.d.fact 61 (f := .glo "loops") rfl))
theorem Ok.m_comes_to (D : Ok K mg) : mg "comes_to" = some (.ref (He.ga K "comes_to")) := (match D.h with | ⟨_, X, G⟩ => He.glo_ok X G (D.d.fact 62 (f := .glo "comes_to") rfl))
theorem Ok.m__law_pot (D : Ok K mg) : mg "_law_pot" = some (.ref (He.ga K "_law_pot")) := (match D.h with | ⟨_, X, G⟩ => He.glo_ok X G (D.d.fact 63 (f := .glo "_law_pot") rfl))
theorem Ok.m__law_take (D : Ok K mg) : mg "_law_take" = some (.ref (He.ga K "_law_take")) := (match D.h with | ⟨_, X, G⟩ => He.glo_ok X G (D.d.fact 64 (f := .glo "_law_take") rfl))
theorem Ok.m__law_of (D : Ok K mg) : mg "_law_of" = some (.ref (He.ga K "_law_of")) := (match D.h with | ⟨_, X, G⟩ => He.glo_ok X G (D.d.fact 65 (f := .glo "_law_of") rfl))
theorem Ok.m__law_cells (D : Ok K mg) : mg "_law_cells" = some (.ref (He.ga K "_law_cells")) := (match D.h with | ⟨_, X, G⟩ => He.glo_ok X G (D.d.fact 66 (f := .glo "_law_cells") rfl))
theorem Ok.m__law_rule (D : Ok K mg) : mg "_law_rule" = some (.ref (He.ga K "_law_rule")) := (match D.h with | ⟨_, X, G⟩ => He.glo_ok X G (D.d.fact 67 (f := .glo "_law_rule") rfl))
theorem Ok.m__law_kind (D : Ok K mg) : mg "_law_kind" = some (.ref (He.ga K "_law_kind")) := (match D.h with | ⟨_, X, G⟩ => He.glo_ok X G (D.d.fact 68 (f := .glo "_law_kind") rfl))
theorem Ok.m__law_any_bits (D : Ok K mg) : mg "_law_any_bits" = some (.ref (He.ga K "_law_any_bits")) := (match D.h with | ⟨_, X, G⟩ => He.glo_ok X G (D.d.fact 69 (f := .glo "_law_any_bits") rfl))
theorem Ok.m__law_text (D : Ok K mg) : mg "_law_text" = some (.ref (He.ga K "_law_text")) := (match D.h with | ⟨_, X, G⟩ => He.glo_ok X G (D.d.fact 70 (f := .glo "_law_text") rfl))
theorem Ok.m__law_bits (D : Ok K mg) : mg "_law_bits" = some (.ref (He.ga K "_law_bits")) := (match D.h with | ⟨_, X, G⟩ => He.glo_ok X G (D.d.fact 71 (f := .glo "_law_bits") rfl))
theorem Ok.m__law_round (D : Ok K mg) : mg "_law_round" = some (.ref (He.ga K "_law_round")) := (match D.h with | ⟨_, X, G⟩ => He.glo_ok X G (D.d.fact 72 (f := .glo "_law_round") rfl))
theorem Ok.m__law_mirrored (D : Ok K mg) : mg "_law_mirrored" = some (.ref (He.ga K "_law_mirrored")) := (match D.h with | ⟨_, X, G⟩ => He.glo_ok X G (D.d.fact 73 (f := .glo "_law_mirrored") rfl))
theorem Ok.m__law_by (D : Ok K mg) : mg "_law_by" = some (.ref (He.ga K "_law_by")) := (match D.h with | ⟨_, X, G⟩ => He.glo_ok X G (D.d.fact 74 (f := .glo "_law_by") rfl))
theorem Ok.m__law_offsets (D : Ok K mg) : mg "_law_offsets" = some (.ref (He.ga K "_law_offsets")) := (match D.h with | ⟨_, X, G⟩ => He.glo_ok X G (D.d.fact 75 (f := .glo "_law_offsets") rfl))
theorem Ok.m__law_odd_ones (D : Ok K mg) : mg "_law_odd_ones" = some (.ref (He.ga K "_law_odd_ones")) := (match D.h with | ⟨_, X, G⟩ => He.glo_ok X G (D.d.fact 76 (f := .glo "_law_odd_ones") rfl))
theorem Ok.m__law_after (D : Ok K mg) : mg "_law_after" = some (.ref (He.ga K "_law_after")) := (match D.h with | ⟨_, X, G⟩ => He.glo_ok X G (D.d.fact 77 (f := .glo "_law_after") rfl))
theorem Ok.m__law_is_row_right (D : Ok K mg) : mg "_law_is_row_right" = some (.ref (He.ga K "_law_is_row_right")) := (match D.h with | ⟨_, X, G⟩ => He.glo_ok X G (D.d.fact 78 (f := .glo "_law_is_row_right") rfl))
theorem Ok.m__law_are_all_right (D : Ok K mg) : mg "_law_are_all_right" = some (.ref (He.ga K "_law_are_all_right")) := (match D.h with | ⟨_, X, G⟩ => He.glo_ok X G (D.d.fact 79 (f := .glo "_law_are_all_right") rfl))
theorem Ok.m__law_right (D : Ok K mg) : mg "_law_right" = some (.ref (He.ga K "_law_right")) := (match D.h with | ⟨_, X, G⟩ => He.glo_ok X G (D.d.fact 80 (f := .glo "_law_right") rfl))
theorem Ok.m_law (D : Ok K mg) : mg "law" = some (.ref (He.ga K "law")) := (match D.h with | ⟨_, X, G⟩ => He.glo_ok X G (D.d.fact 81 (f := .glo "law") rfl))
theorem Ok.m_Span (D : Ok K mg) : mg "Span" = some (.ref (He.ga K "Span")) := (match D.h with | ⟨_, X, G⟩ => He.glo_ok X G (D.d.fact 82 (f := .glo "Span") rfl))
theorem Ok.z_isinstance (D : Ok K mg) : mg "isinstance" = none := (match D.h with | ⟨_, X, G⟩ => He.free_ok X G (D.d.fact 83 (f := .free "isinstance") rfl))
theorem Ok.z_len (D : Ok K mg) : mg "len" = none := (match D.h with | ⟨_, X, G⟩ => He.free_ok X G (D.d.fact 84 (f := .free "len") rfl))
theorem Ok.z_all (D : Ok K mg) : mg "all" = none := (match D.h with | ⟨_, X, G⟩ => He.free_ok X G (D.d.fact 85 (f := .free "all") rfl))
theorem Ok.z_any (D : Ok K mg) : mg "any" = none := (match D.h with | ⟨_, X, G⟩ => He.free_ok X G (D.d.fact 86 (f := .free "any") rfl))
theorem Ok.z_sum (D : Ok K mg) : mg "sum" = none := (match D.h with | ⟨_, X, G⟩ => He.free_ok X G (D.d.fact 87 (f := .free "sum") rfl))
theorem Ok.z_sorted (D : Ok K mg) : mg "sorted" = none := (match D.h with | ⟨_, X, G⟩ => He.free_ok X G (D.d.fact 88 (f := .free "sorted") rfl))
theorem Ok.z_set (D : Ok K mg) : mg "set" = none := (match D.h with | ⟨_, X, G⟩ => He.free_ok X G (D.d.fact 89 (f := .free "set") rfl))
theorem Ok.z_list (D : Ok K mg) : mg "list" = none := (match D.h with | ⟨_, X, G⟩ => He.free_ok X G (D.d.fact 90 (f := .free "list") rfl))
theorem Ok.z_tuple (D : Ok K mg) : mg "tuple" = none := (match D.h with | ⟨_, X, G⟩ => He.free_ok X G (D.d.fact 91 (f := .free "tuple") rfl))
theorem Ok.z_range (D : Ok K mg) : mg "range" = none := (match D.h with | ⟨_, X, G⟩ => He.free_ok X G (D.d.fact 92 (f := .free "range") rfl))
theorem Ok.z_enumerate (D : Ok K mg) : mg "enumerate" = none := (match D.h with | ⟨_, X, G⟩ => He.free_ok X G (D.d.fact 93 (f := .free "enumerate") rfl))
theorem Ok.z_zip (D : Ok K mg) : mg "zip" = none := (match D.h with | ⟨_, X, G⟩ => He.free_ok X G (D.d.fact 94 (f := .free "zip") rfl))
theorem Ok.z_int (D : Ok K mg) : mg "int" = none := (match D.h with | ⟨_, X, G⟩ => He.free_ok X G (D.d.fact 95 (f := .free "int") rfl))
theorem Ok.z_bool (D : Ok K mg) : mg "bool" = none := (match D.h with | ⟨_, X, G⟩ => He.free_ok X G (D.d.fact 96 (f := .free "bool") rfl))
theorem Ok.z_str (D : Ok K mg) : mg "str" = none := (match D.h with | ⟨_, X, G⟩ => He.free_ok X G (D.d.fact 97 (f := .free "str") rfl))
theorem Ok.z_abs (D : Ok K mg) : mg "abs" = none := (match D.h with | ⟨_, X, G⟩ => He.free_ok X G (D.d.fact 98 (f := .free "abs") rfl))
theorem Ok.z_max (D : Ok K mg) : mg "max" = none := (match D.h with | ⟨_, X, G⟩ => He.free_ok X G (D.d.fact 99 (f := .free "max") rfl))
theorem Ok.z_min (D : Ok K mg) : mg "min" = none := (match D.h with | ⟨_, X, G⟩ => He.free_ok X G (D.d.fact 100 (f := .free "min") rfl))
theorem Ok.i_MOST_BEATS (D : Ok K mg) : ∃ t, mg "MOST_BEATS" = some (.int 1000000000000000000000000000000 t) := (match D.h with | ⟨_, X, G⟩ => He.int_ok X G (D.d.fact 101 (f := .int "MOST_BEATS" 1000000000000000000000000000000) rfl))
theorem Ok.i_MOST_OFFSET (D : Ok K mg) : ∃ t, mg "MOST_OFFSET" = some (.int 6 t) := (match D.h with | ⟨_, X, G⟩ => He.int_ok X G (D.d.fact 102 (f := .int "MOST_OFFSET" 6) rfl))
theorem Ok.i_MOST_SIZE (D : Ok K mg) : ∃ t, mg "MOST_SIZE" = some (.int 24 t) := (match D.h with | ⟨_, X, G⟩ => He.int_ok X G (D.d.fact 103 (f := .int "MOST_SIZE" 24) rfl))
theorem Ok.i_PAIR (D : Ok K mg) : ∃ t, mg "PAIR" = some (.int 2 t) := (match D.h with | ⟨_, X, G⟩ => He.int_ok X G (D.d.fact 104 (f := .int "PAIR" 2) rfl))
theorem Ok.i_MOST_LAMPS (D : Ok K mg) : ∃ t, mg "MOST_LAMPS" = some (.int 16 t) := (match D.h with | ⟨_, X, G⟩ => He.int_ok X G (D.d.fact 105 (f := .int "MOST_LAMPS" 16) rfl))
theorem Ok.i_MOST_TURNS (D : Ok K mg) : ∃ t, mg "MOST_TURNS" = some (.int 4096 t) := (match D.h with | ⟨_, X, G⟩ => He.int_ok X G (D.d.fact 106 (f := .int "MOST_TURNS" 4096) rfl))
theorem Ok.i_RING (D : Ok K mg) : ∃ t, mg "RING" = some (.str "ring" t) := (match D.h with | ⟨_, X, G⟩ => He.str_ok X G (D.d.fact 107 (f := .str "RING" "ring") rfl))
theorem Ok.i_WALLS (D : Ok K mg) : ∃ t, mg "WALLS" = some (.str "walls" t) := (match D.h with | ⟨_, X, G⟩ => He.str_ok X G (D.d.fact 108 (f := .str "WALLS" "walls") rfl))
theorem Ok.i_ON (D : Ok K mg) : ∃ t, mg "ON" = some (.str "1" t) := (match D.h with | ⟨_, X, G⟩ => He.str_ok X G (D.d.fact 109 (f := .str "ON" "1") rfl))
theorem Ok.i_OFF (D : Ok K mg) : ∃ t, mg "OFF" = some (.str "0" t) := (match D.h with | ⟨_, X, G⟩ => He.str_ok X G (D.d.fact 110 (f := .str "OFF" "0") rfl))
theorem Ok.i_ROW (D : Ok K mg) : ∃ t, mg "ROW" = some (.str "row" t) := (match D.h with | ⟨_, X, G⟩ => He.str_ok X G (D.d.fact 111 (f := .str "ROW" "row") rfl))
theorem Ok.i_GARDEN (D : Ok K mg) : ∃ t, mg "GARDEN" = some (.str "garden" t) := (match D.h with | ⟨_, X, G⟩ => He.str_ok X G (D.d.fact 112 (f := .str "GARDEN" "garden") rfl))
theorem Ok.i_ALWAYS (D : Ok K mg) : ∃ t, mg "ALWAYS" = some (.str "always" t) := (match D.h with | ⟨_, X, G⟩ => He.str_ok X G (D.d.fact 113 (f := .str "ALWAYS" "always") rfl))
theorem Ok.i_BEATS (D : Ok K mg) : ∃ t, mg "BEATS" = some (.str "beats" t) := (match D.h with | ⟨_, X, G⟩ => He.str_ok X G (D.d.fact 114 (f := .str "BEATS" "beats") rfl))
theorem Ok.m_KINDS (D : Ok K mg) : mg "KINDS" = some (.ref (He.ga K "KINDS")) := (match D.h with | ⟨_, X, G⟩ => He.glo_ok X G (D.d.fact 115 (f := .glo "KINDS") rfl))
theorem Ok.cl (D : Ok K mg) : Cls K (cSpan K) := He.cls_ok (D.d.fact 116 (f := .cls "Span") rfl)
theorem Ok.no_own_leads (D : Ok K mg) : NoAttr K (cSpan K) "own_leads" := He.noat_ok (D.d.fact 117 (f := .noat "Span" "own_leads") rfl)
theorem Ok.no_own_idle (D : Ok K mg) : NoAttr K (cSpan K) "own_idle" := He.noat_ok (D.d.fact 118 (f := .noat "Span" "own_idle") rfl)
theorem Ok.t_sp_put (D : Ok K mg) : Meth K (cSpan K) "put" (He.ma K (cSpan K) "put") := He.meth_ok (D.d.fact 119 (f := .meth "Span" "put") rfl)
theorem Ok.t_sp_led (D : Ok K mg) : Meth K (cSpan K) "led" (He.ma K (cSpan K) "led") := He.meth_ok (D.d.fact 120 (f := .meth "Span" "led") rfl)
theorem Ok.t_sp_amount (D : Ok K mg) : Meth K (cSpan K) "amount" (He.ma K (cSpan K) "amount") := He.meth_ok (D.d.fact 121 (f := .meth "Span" "amount") rfl)
theorem Ok.t_sp_idle (D : Ok K mg) : Meth K (cSpan K) "idle" (He.ma K (cSpan K) "idle") := He.meth_ok (D.d.fact 122 (f := .meth "Span" "idle") rfl)
theorem Ok.t_sp_numbers_for (D : Ok K mg) : Meth K (cSpan K) "numbers_for" (He.ma K (cSpan K) "numbers_for") := He.meth_ok (D.d.fact 123 (f := .meth "Span" "numbers_for") rfl)
theorem Ok.t_sp_plain_rows (D : Ok K mg) : Meth K (cSpan K) "plain_rows" (He.ma K (cSpan K) "plain_rows") := He.meth_ok (D.d.fact 124 (f := .meth "Span" "plain_rows") rfl)
theorem Ok.t_sp_bar_for (D : Ok K mg) : Meth K (cSpan K) "bar_for" (He.ma K (cSpan K) "bar_for") := He.meth_ok (D.d.fact 125 (f := .meth "Span" "bar_for") rfl)
theorem Ok.mkr (D : Ok K mg) : Mk K (cSpan K) (He.ma K (cSpan K) "__init__") := He.mkr_ok (D.d.fact 126 (f := .mkr "Span") rfl)
theorem Ok.kinds (D : Ok K mg) (H : Hp) : SqT K H (He.ga K "KINDS") [.str "ring", .str "walls"] := He.tupB_ok D.t H
theorem Ok.f_bits_of (D : Ok K mg) : FunD K "bits_of" "bits_of" (defArgs s_bits_of) (defBody s_bits_of) (defScope s_bits_of) [] [] (He.ga K "bits_of") (fdA K (He.ga K "bits_of")) := f_of (D.d.def_ 0 (d := d_bits_of) rfl)
theorem sc_bits_of : FnScope ["powers", "found", "power"] ["powers"] (defScope s_bits_of) := ⟨rfl, rfl, rfl, by decide +kernel, rfl, by decide +kernel, by decide +kernel⟩
theorem Ok.b_bits_of (D : Ok K mg) : Binds K (fdA K (He.ga K "bits_of")) ["powers"] [] := D.f_bits_of.bindsN fun _ _ _ _ _ _ us hl => match us, hl with | [_], _ => rfl
theorem Ok.f_powers_of (D : Ok K mg) : FunD K "powers_of" "powers_of" (defArgs s_powers_of) (defBody s_powers_of) (defScope s_powers_of) [] [] (He.ga K "powers_of") (fdA K (He.ga K "powers_of")) := f_of (D.d.def_ 1 (d := d_powers_of) rfl)
theorem sc_powers_of : FnScope ["bits", "found", "at", "rest"] ["bits"] (defScope s_powers_of) := ⟨rfl, rfl, rfl, by decide +kernel, rfl, by decide +kernel, by decide +kernel⟩
theorem Ok.b_powers_of (D : Ok K mg) : Binds K (fdA K (He.ga K "powers_of")) ["bits"] [] := D.f_powers_of.bindsN fun _ _ _ _ _ _ us hl => match us, hl with | [_], _ => rfl
theorem Ok.f_degree_of (D : Ok K mg) : FunD K "degree_of" "degree_of" (defArgs s_degree_of) (defBody s_degree_of) (defScope s_degree_of) [] [] (He.ga K "degree_of") (fdA K (He.ga K "degree_of")) := f_of (D.d.def_ 2 (d := d_degree_of) rfl)
theorem sc_degree_of : FnScope ["bits"] ["bits"] (defScope s_degree_of) := ⟨rfl, rfl, rfl, by decide +kernel, rfl, by decide +kernel, by decide +kernel⟩
theorem Ok.b_degree_of (D : Ok K mg) : Binds K (fdA K (He.ga K "degree_of")) ["bits"] [] := D.f_degree_of.bindsN fun _ _ _ _ _ _ us hl => match us, hl with | [_], _ => rfl
theorem Ok.f_is_odd (D : Ok K mg) : FunD K "is_odd" "is_odd" (defArgs s_is_odd) (defBody s_is_odd) (defScope s_is_odd) [] [] (He.ga K "is_odd") (fdA K (He.ga K "is_odd")) := f_of (D.d.def_ 3 (d := d_is_odd) rfl)
theorem sc_is_odd : FnScope ["bits", "found", "rest"] ["bits"] (defScope s_is_odd) := ⟨rfl, rfl, rfl, by decide +kernel, rfl, by decide +kernel, by decide +kernel⟩
theorem Ok.b_is_odd (D : Ok K mg) : Binds K (fdA K (He.ga K "is_odd")) ["bits"] [] := D.f_is_odd.bindsN fun _ _ _ _ _ _ us hl => match us, hl with | [_], _ => rfl
theorem Ok.f_times_of (D : Ok K mg) : FunD K "times_of" "times_of" (defArgs s_times_of) (defBody s_times_of) (defScope s_times_of) [] [] (He.ga K "times_of") (fdA K (He.ga K "times_of")) := f_of (D.d.def_ 4 (d := d_times_of) rfl)
theorem sc_times_of : FnScope ["one", "other", "found", "rest", "here"] ["one", "other"] (defScope s_times_of) := ⟨rfl, rfl, rfl, by decide +kernel, rfl, by decide +kernel, by decide +kernel⟩
theorem Ok.b_times_of (D : Ok K mg) : Binds K (fdA K (He.ga K "times_of")) ["one", "other"] [] := D.f_times_of.bindsN fun _ _ _ _ _ _ us hl => match us, hl with | [_, _], _ => rfl
theorem Ok.f_parted_of (D : Ok K mg) : FunD K "parted_of" "parted_of" (defArgs s_parted_of) (defBody s_parted_of) (defScope s_parted_of) [] [] (He.ga K "parted_of") (fdA K (He.ga K "parted_of")) := f_of (D.d.def_ 5 (d := d_parted_of) rfl)
theorem sc_parted_of : FnScope ["one", "other", "quotient", "rest", "size", "shift"] ["one", "other"] (defScope s_parted_of) := ⟨rfl, rfl, rfl, by decide +kernel, rfl, by decide +kernel, by decide +kernel⟩
theorem Ok.b_parted_of (D : Ok K mg) : Binds K (fdA K (He.ga K "parted_of")) ["one", "other"] [] := D.f_parted_of.bindsN fun _ _ _ _ _ _ us hl => match us, hl with | [_, _], _ => rfl
theorem Ok.f_rest_of (D : Ok K mg) : FunD K "rest_of" "rest_of" (defArgs s_rest_of) (defBody s_rest_of) (defScope s_rest_of) [] [] (He.ga K "rest_of") (fdA K (He.ga K "rest_of")) := f_of (D.d.def_ 6 (d := d_rest_of) rfl)
theorem sc_rest_of : FnScope ["one", "other"] ["one", "other"] (defScope s_rest_of) := ⟨rfl, rfl, rfl, by decide +kernel, rfl, by decide +kernel, by decide +kernel⟩
theorem Ok.b_rest_of (D : Ok K mg) : Binds K (fdA K (He.ga K "rest_of")) ["one", "other"] [] := D.f_rest_of.bindsN fun _ _ _ _ _ _ us hl => match us, hl with | [_, _], _ => rfl
theorem Ok.f_power_of (D : Ok K mg) : FunD K "power_of" "power_of" (defArgs s_power_of) (defBody s_power_of) (defScope s_power_of) [] [] (He.ga K "power_of") (fdA K (He.ga K "power_of")) := f_of (D.d.def_ 7 (d := d_power_of) rfl)
theorem sc_power_of : FnScope ["one", "times", "modulo", "found", "here", "rest"] ["one", "times", "modulo"] (defScope s_power_of) := ⟨rfl, rfl, rfl, by decide +kernel, rfl, by decide +kernel, by decide +kernel⟩
theorem Ok.b_power_of (D : Ok K mg) : Binds K (fdA K (He.ga K "power_of")) ["one", "times", "modulo"] [] := D.f_power_of.bindsN fun _ _ _ _ _ _ us hl => match us, hl with | [_, _, _], _ => rfl
theorem Ok.f_sp_init (D : Ok K mg) : FunD K "__init__" "Span.__init__" (defArgs s_sp_init) (defBody s_sp_init) (defScope s_sp_init) [] [] (He.ma K (cSpan K) "__init__") (fdA K (He.ma K (cSpan K) "__init__")) := f_of (D.d.def_ 8 (d := d_sp_init) rfl)
theorem sc_sp_init : FnScope ["self", "rows", "number", "row"] ["self", "rows"] (defScope s_sp_init) := ⟨rfl, rfl, rfl, by decide +kernel, rfl, by decide +kernel, by decide +kernel⟩
theorem Ok.b_sp_init (D : Ok K mg) : Binds K (fdA K (He.ma K (cSpan K) "__init__")) ["self", "rows"] [] := D.f_sp_init.bindsN fun _ _ _ _ _ _ us hl => match us, hl with | [_, _], _ => rfl
theorem Ok.f_sp_put (D : Ok K mg) : FunD K "put" "Span.put" (defArgs s_sp_put) (defBody s_sp_put) (defScope s_sp_put) [] [] (He.ma K (cSpan K) "put") (fdA K (He.ma K (cSpan K) "put")) := f_of (D.d.def_ 9 (d := d_sp_put) rfl)
theorem sc_sp_put : FnScope ["self", "row", "numbers", "rest", "some"] ["self", "row", "numbers"] (defScope s_sp_put) := ⟨rfl, rfl, rfl, by decide +kernel, rfl, by decide +kernel, by decide +kernel⟩
theorem Ok.b_sp_put (D : Ok K mg) : Binds K (fdA K (He.ma K (cSpan K) "put")) ["self", "row", "numbers"] [] := D.f_sp_put.bindsN fun _ _ _ _ _ _ us hl => match us, hl with | [_, _, _], _ => rfl
theorem Ok.f_sp_led (D : Ok K mg) : FunD K "led" "Span.led" (defArgs s_sp_led) (defBody s_sp_led) (defScope s_sp_led) [] [] (He.ma K (cSpan K) "led") (fdA K (He.ma K (cSpan K) "led")) := f_of (D.d.def_ 10 (d := d_sp_led) rfl)
theorem sc_sp_led : FnScope ["self", "row", "rest", "some", "at", "lead", "numbers"] ["self", "row"] (defScope s_sp_led) := ⟨rfl, rfl, rfl, by decide +kernel, rfl, by decide +kernel, by decide +kernel⟩
theorem Ok.b_sp_led (D : Ok K mg) : Binds K (fdA K (He.ma K (cSpan K) "led")) ["self", "row"] [] := D.f_sp_led.bindsN fun _ _ _ _ _ _ us hl => match us, hl with | [_, _], _ => rfl
theorem Ok.f_sp_amount (D : Ok K mg) : FunD K "amount" "Span.amount" (defArgs s_sp_amount) (defBody s_sp_amount) (defScope s_sp_amount) [] [] (He.ma K (cSpan K) "amount") (fdA K (He.ma K (cSpan K) "amount")) := f_of (D.d.def_ 11 (d := d_sp_amount) rfl)
theorem sc_sp_amount : FnScope ["self"] ["self"] (defScope s_sp_amount) := ⟨rfl, rfl, rfl, by decide +kernel, rfl, by decide +kernel, by decide +kernel⟩
theorem Ok.b_sp_amount (D : Ok K mg) : Binds K (fdA K (He.ma K (cSpan K) "amount")) ["self"] [] := D.f_sp_amount.bindsN fun _ _ _ _ _ _ us hl => match us, hl with | [_], _ => rfl
theorem Ok.f_sp_idle (D : Ok K mg) : FunD K "idle" "Span.idle" (defArgs s_sp_idle) (defBody s_sp_idle) (defScope s_sp_idle) [] [] (He.ma K (cSpan K) "idle") (fdA K (He.ma K (cSpan K) "idle")) := f_of (D.d.def_ 12 (d := d_sp_idle) rfl)
theorem sc_sp_idle : FnScope ["self"] ["self"] (defScope s_sp_idle) := ⟨rfl, rfl, rfl, by decide +kernel, rfl, by decide +kernel, by decide +kernel⟩
theorem Ok.b_sp_idle (D : Ok K mg) : Binds K (fdA K (He.ma K (cSpan K) "idle")) ["self"] [] := D.f_sp_idle.bindsN fun _ _ _ _ _ _ us hl => match us, hl with | [_], _ => rfl
theorem Ok.f_sp_numbers_for (D : Ok K mg) : FunD K "numbers_for" "Span.numbers_for" (defArgs s_sp_numbers_for) (defBody s_sp_numbers_for) (defScope s_sp_numbers_for) [] [] (He.ma K (cSpan K) "numbers_for") (fdA K (He.ma K (cSpan K) "numbers_for")) := f_of (D.d.def_ 13 (d := d_sp_numbers_for) rfl)
theorem sc_sp_numbers_for : FnScope ["self", "row", "rest", "some"] ["self", "row"] (defScope s_sp_numbers_for) := ⟨rfl, rfl, rfl, by decide +kernel, rfl, by decide +kernel, by decide +kernel⟩
theorem Ok.b_sp_numbers_for (D : Ok K mg) : Binds K (fdA K (He.ma K (cSpan K) "numbers_for")) ["self", "row"] [] := D.f_sp_numbers_for.bindsN fun _ _ _ _ _ _ us hl => match us, hl with | [_, _], _ => rfl
theorem Ok.f_sp_plain_rows (D : Ok K mg) : FunD K "plain_rows" "Span.plain_rows" (defArgs s_sp_plain_rows) (defBody s_sp_plain_rows) (defScope s_sp_plain_rows) [] [] (He.ma K (cSpan K) "plain_rows") (fdA K (He.ma K (cSpan K) "plain_rows")) := f_of (D.d.def_ 14 (d := d_sp_plain_rows) rfl)
theorem sc_sp_plain_rows : FnScope ["self", "found", "lead", "row", "other", "one"] ["self"] (defScope s_sp_plain_rows) := ⟨rfl, rfl, rfl, by decide +kernel, rfl, by decide +kernel, by decide +kernel⟩
theorem Ok.b_sp_plain_rows (D : Ok K mg) : Binds K (fdA K (He.ma K (cSpan K) "plain_rows")) ["self"] [] := D.f_sp_plain_rows.bindsN fun _ _ _ _ _ _ us hl => match us, hl with | [_], _ => rfl
theorem Ok.f_sp_bar_for (D : Ok K mg) : FunD K "bar_for" "Span.bar_for" (defArgs s_sp_bar_for) (defBody s_sp_bar_for) (defScope s_sp_bar_for) [] [] (He.ma K (cSpan K) "bar_for") (fdA K (He.ma K (cSpan K) "bar_for")) := f_of (D.d.def_ 15 (d := d_sp_bar_for) rfl)
theorem sc_sp_bar_for : FnScope ["self", "row", "plain", "rest", "lead", "bit", "mark"] ["self", "row"] (defScope s_sp_bar_for) := ⟨rfl, rfl, rfl, by decide +kernel, rfl, by decide +kernel, by decide +kernel⟩
theorem Ok.b_sp_bar_for (D : Ok K mg) : Binds K (fdA K (He.ma K (cSpan K) "bar_for")) ["self", "row"] [] := D.f_sp_bar_for.bindsN fun _ _ _ _ _ _ us hl => match us, hl with | [_, _], _ => rfl
theorem Ok.f_is_integer (D : Ok K mg) : FunD K "is_integer" "is_integer" (defArgs s_is_integer) (defBody s_is_integer) (defScope s_is_integer) [] [] (He.ga K "is_integer") (fdA K (He.ga K "is_integer")) := f_of (D.d.def_ 16 (d := d_is_integer) rfl)
theorem sc_is_integer : FnScope ["value", "low", "high"] ["value", "low", "high"] (defScope s_is_integer) := ⟨rfl, rfl, rfl, by decide +kernel, rfl, by decide +kernel, by decide +kernel⟩
theorem Ok.b_is_integer (D : Ok K mg) : Binds K (fdA K (He.ga K "is_integer")) ["value", "low", "high"] [] := D.f_is_integer.bindsN fun _ _ _ _ _ _ us hl => match us, hl with | [_, _, _], _ => rfl
theorem Ok.f_is_word (D : Ok K mg) : FunD K "is_word" "is_word" (defArgs s_is_word) (defBody s_is_word) (defScope s_is_word) [] [] (He.ga K "is_word") (fdA K (He.ga K "is_word")) := f_of (D.d.def_ 17 (d := d_is_word) rfl)
theorem sc_is_word : FnScope ["value", "words"] ["value", "words"] (defScope s_is_word) := ⟨rfl, rfl, rfl, by decide +kernel, rfl, by decide +kernel, by decide +kernel⟩
theorem Ok.b_is_word (D : Ok K mg) : Binds K (fdA K (He.ga K "is_word")) ["value", "words"] [] := D.f_is_word.bindsN fun _ _ _ _ _ _ us hl => match us, hl with | [_, _], _ => rfl
theorem Ok.f_is_tuple (D : Ok K mg) : FunD K "is_tuple" "is_tuple" (defArgs s_is_tuple) (defBody s_is_tuple) (defScope s_is_tuple) [.non] [] (He.ga K "is_tuple") (fdA K (He.ga K "is_tuple")) := f_of (D.d.def_ 18 (d := d_is_tuple) rfl)
theorem sc_is_tuple : FnScope ["value", "low", "high"] ["value", "low", "high"] (defScope s_is_tuple) := ⟨rfl, rfl, rfl, by decide +kernel, rfl, by decide +kernel, by decide +kernel⟩
theorem Ok.f_is_lot (D : Ok K mg) : FunD K "is_lot" "is_lot" (defArgs s_is_lot) (defBody s_is_lot) (defScope s_is_lot) [] [] (He.ga K "is_lot") (fdA K (He.ga K "is_lot")) := f_of (D.d.def_ 19 (d := d_is_lot) rfl)
theorem sc_is_lot : FnScope ["value", "low", "high", "one", "other"] ["value", "low", "high"] (defScope s_is_lot) := ⟨rfl, rfl, rfl, by decide +kernel, rfl, by decide +kernel, by decide +kernel⟩
theorem Ok.b_is_lot (D : Ok K mg) : Binds K (fdA K (He.ga K "is_lot")) ["value", "low", "high"] [] := D.f_is_lot.bindsN fun _ _ _ _ _ _ us hl => match us, hl with | [_, _, _], _ => rfl
theorem Ok.f_check_rule (D : Ok K mg) : FunD K "check_rule" "check_rule" (defArgs s_check_rule) (defBody s_check_rule) (defScope s_check_rule) [] [] (He.ga K "check_rule") (fdA K (He.ga K "check_rule")) := f_of (D.d.def_ 20 (d := d_check_rule) rfl)
theorem sc_check_rule : FnScope ["value"] ["value"] (defScope s_check_rule) := ⟨rfl, rfl, rfl, by decide +kernel, rfl, by decide +kernel, by decide +kernel⟩
theorem Ok.b_check_rule (D : Ok K mg) : Binds K (fdA K (He.ga K "check_rule")) ["value"] [] := D.f_check_rule.bindsN fun _ _ _ _ _ _ us hl => match us, hl with | [_], _ => rfl
theorem Ok.f_contrary (D : Ok K mg) : FunD K "contrary" "contrary" (defArgs s_contrary) (defBody s_contrary) (defScope s_contrary) [] [] (He.ga K "contrary") (fdA K (He.ga K "contrary")) := f_of (D.d.def_ 21 (d := d_contrary) rfl)
theorem sc_contrary : FnScope ["rule", "offset"] ["rule"] (defScope s_contrary) := ⟨rfl, rfl, rfl, by decide +kernel, rfl, by decide +kernel, by decide +kernel⟩
theorem Ok.b_contrary (D : Ok K mg) : Binds K (fdA K (He.ga K "contrary")) ["rule"] [] := D.f_contrary.bindsN fun _ _ _ _ _ _ us hl => match us, hl with | [_], _ => rfl
theorem Ok.f_is_mirrored (D : Ok K mg) : FunD K "is_mirrored" "is_mirrored" (defArgs s_is_mirrored) (defBody s_is_mirrored) (defScope s_is_mirrored) [] [] (He.ga K "is_mirrored") (fdA K (He.ga K "is_mirrored")) := f_of (D.d.def_ 22 (d := d_is_mirrored) rfl)
theorem sc_is_mirrored : FnScope ["rule"] ["rule"] (defScope s_is_mirrored) := ⟨rfl, rfl, rfl, by decide +kernel, rfl, by decide +kernel, by decide +kernel⟩
theorem Ok.b_is_mirrored (D : Ok K mg) : Binds K (fdA K (He.ga K "is_mirrored")) ["rule"] [] := D.f_is_mirrored.bindsN fun _ _ _ _ _ _ us hl => match us, hl with | [_], _ => rfl
theorem Ok.f_check_world (D : Ok K mg) : FunD K "check_world" "check_world" (defArgs s_check_world) (defBody s_check_world) (defScope s_check_world) [] [] (He.ga K "check_world") (fdA K (He.ga K "check_world")) := f_of (D.d.def_ 23 (d := d_check_world) rfl)
theorem sc_check_world : FnScope ["kind", "rule"] ["kind", "rule"] (defScope s_check_world) := ⟨rfl, rfl, rfl, by decide +kernel, rfl, by decide +kernel, by decide +kernel⟩
theorem Ok.b_check_world (D : Ok K mg) : Binds K (fdA K (He.ga K "check_world")) ["kind", "rule"] [] := D.f_check_world.bindsN fun _ _ _ _ _ _ us hl => match us, hl with | [_, _], _ => rfl
theorem Ok.f_is_row (D : Ok K mg) : FunD K "is_row" "is_row" (defArgs s_is_row) (defBody s_is_row) (defScope s_is_row) [] [] (He.ga K "is_row") (fdA K (He.ga K "is_row")) := f_of (D.d.def_ 24 (d := d_is_row) rfl)
theorem sc_is_row : FnScope ["value", "sign"] ["value"] (defScope s_is_row) := ⟨rfl, rfl, rfl, by decide +kernel, rfl, by decide +kernel, by decide +kernel⟩
theorem Ok.b_is_row (D : Ok K mg) : Binds K (fdA K (He.ga K "is_row")) ["value"] [] := D.f_is_row.bindsN fun _ _ _ _ _ _ us hl => match us, hl with | [_], _ => rfl
theorem Ok.f_check_row (D : Ok K mg) : FunD K "check_row" "check_row" (defArgs s_check_row) (defBody s_check_row) (defScope s_check_row) [] [] (He.ga K "check_row") (fdA K (He.ga K "check_row")) := f_of (D.d.def_ 25 (d := d_check_row) rfl)
theorem sc_check_row : FnScope ["value"] ["value"] (defScope s_check_row) := ⟨rfl, rfl, rfl, by decide +kernel, rfl, by decide +kernel, by decide +kernel⟩
theorem Ok.b_check_row (D : Ok K mg) : Binds K (fdA K (He.ga K "check_row")) ["value"] [] := D.f_check_row.bindsN fun _ _ _ _ _ _ us hl => match us, hl with | [_], _ => rfl
theorem Ok.f_check_size (D : Ok K mg) : FunD K "check_size" "check_size" (defArgs s_check_size) (defBody s_check_size) (defScope s_check_size) [] [] (He.ga K "check_size") (fdA K (He.ga K "check_size")) := f_of (D.d.def_ 26 (d := d_check_size) rfl)
theorem sc_check_size : FnScope ["value", "most"] ["value", "most"] (defScope s_check_size) := ⟨rfl, rfl, rfl, by decide +kernel, rfl, by decide +kernel, by decide +kernel⟩
theorem Ok.b_check_size (D : Ok K mg) : Binds K (fdA K (He.ga K "check_size")) ["value", "most"] [] := D.f_check_size.bindsN fun _ _ _ _ _ _ us hl => match us, hl with | [_, _], _ => rfl
theorem Ok.f_check_beats (D : Ok K mg) : FunD K "check_beats" "check_beats" (defArgs s_check_beats) (defBody s_check_beats) (defScope s_check_beats) [] [] (He.ga K "check_beats") (fdA K (He.ga K "check_beats")) := f_of (D.d.def_ 27 (d := d_check_beats) rfl)
theorem sc_check_beats : FnScope ["value", "least", "most"] ["value", "least", "most"] (defScope s_check_beats) := ⟨rfl, rfl, rfl, by decide +kernel, rfl, by decide +kernel, by decide +kernel⟩
theorem Ok.b_check_beats (D : Ok K mg) : Binds K (fdA K (He.ga K "check_beats")) ["value", "least", "most"] [] := D.f_check_beats.bindsN fun _ _ _ _ _ _ us hl => match us, hl with | [_, _, _], _ => rfl
theorem Ok.f_row_bits (D : Ok K mg) : FunD K "row_bits" "row_bits" (defArgs s_row_bits) (defBody s_row_bits) (defScope s_row_bits) [] [] (He.ga K "row_bits") (fdA K (He.ga K "row_bits")) := f_of (D.d.def_ 28 (d := d_row_bits) rfl)
theorem sc_row_bits : FnScope ["row", "place", "sign"] ["row"] (defScope s_row_bits) := ⟨rfl, rfl, rfl, by decide +kernel, rfl, by decide +kernel, by decide +kernel⟩
theorem Ok.b_row_bits (D : Ok K mg) : Binds K (fdA K (He.ga K "row_bits")) ["row"] [] := D.f_row_bits.bindsN fun _ _ _ _ _ _ us hl => match us, hl with | [_], _ => rfl
theorem Ok.f_row_text (D : Ok K mg) : FunD K "row_text" "row_text" (defArgs s_row_text) (defBody s_row_text) (defScope s_row_text) [] [] (He.ga K "row_text") (fdA K (He.ga K "row_text")) := f_of (D.d.def_ 29 (d := d_row_text) rfl)
theorem sc_row_text : FnScope ["bits", "size", "place"] ["bits", "size"] (defScope s_row_text) := ⟨rfl, rfl, rfl, by decide +kernel, rfl, by decide +kernel, by decide +kernel⟩
theorem Ok.b_row_text (D : Ok K mg) : Binds K (fdA K (He.ga K "row_text")) ["bits", "size"] [] := D.f_row_text.bindsN fun _ _ _ _ _ _ us hl => match us, hl with | [_, _], _ => rfl
theorem Ok.f_offset_bits (D : Ok K mg) : FunD K "offset_bits" "offset_bits" (defArgs s_offset_bits) (defBody s_offset_bits) (defScope s_offset_bits) [] [] (He.ga K "offset_bits") (fdA K (He.ga K "offset_bits")) := f_of (D.d.def_ 30 (d := d_offset_bits) rfl)
theorem sc_offset_bits : FnScope ["rule", "size", "beats", "once", "offset"] ["rule", "size", "beats"] (defScope s_offset_bits) := ⟨rfl, rfl, rfl, by decide +kernel, rfl, by decide +kernel, by decide +kernel⟩
theorem Ok.b_offset_bits (D : Ok K mg) : Binds K (fdA K (He.ga K "offset_bits")) ["rule", "size", "beats"] [] := D.f_offset_bits.bindsN fun _ _ _ _ _ _ us hl => match us, hl with | [_, _, _], _ => rfl
theorem Ok.f_beat_by (D : Ok K mg) : FunD K "beat_by" "beat_by" (defArgs s_beat_by) (defBody s_beat_by) (defScope s_beat_by) [] [] (He.ga K "beat_by") (fdA K (He.ga K "beat_by")) := f_of (D.d.def_ 31 (d := d_beat_by) rfl)
theorem sc_beat_by : FnScope ["offsets", "size", "bits", "found", "whole", "offset"] ["offsets", "size", "bits"] (defScope s_beat_by) := ⟨rfl, rfl, rfl, by decide +kernel, rfl, by decide +kernel, by decide +kernel⟩
theorem Ok.b_beat_by (D : Ok K mg) : Binds K (fdA K (He.ga K "beat_by")) ["offsets", "size", "bits"] [] := D.f_beat_by.bindsN fun _ _ _ _ _ _ us hl => match us, hl with | [_, _, _], _ => rfl
theorem Ok.f_unfolded_bits (D : Ok K mg) : FunD K "unfolded_bits" "unfolded_bits" (defArgs s_unfolded_bits) (defBody s_unfolded_bits) (defScope s_unfolded_bits) [] [] (He.ga K "unfolded_bits") (fdA K (He.ga K "unfolded_bits")) := f_of (D.d.def_ 32 (d := d_unfolded_bits) rfl)
theorem sc_unfolded_bits : FnScope ["size", "bits", "mirror", "place"] ["size", "bits"] (defScope s_unfolded_bits) := ⟨rfl, rfl, rfl, by decide +kernel, rfl, by decide +kernel, by decide +kernel⟩
theorem Ok.b_unfolded_bits (D : Ok K mg) : Binds K (fdA K (He.ga K "unfolded_bits")) ["size", "bits"] [] := D.f_unfolded_bits.bindsN fun _ _ _ _ _ _ us hl => match us, hl with | [_, _], _ => rfl
theorem Ok.f_by_offsets (D : Ok K mg) : FunD K "by_offsets" "by_offsets" (defArgs s_by_offsets) (defBody s_by_offsets) (defScope s_by_offsets) [] [] (He.ga K "by_offsets") (fdA K (He.ga K "by_offsets")) := f_of (D.d.def_ 33 (d := d_by_offsets) rfl)
theorem sc_by_offsets : FnScope ["kind", "offsets", "size", "bits", "later"] ["kind", "offsets", "size", "bits"] (defScope s_by_offsets) := ⟨rfl, rfl, rfl, by decide +kernel, rfl, by decide +kernel, by decide +kernel⟩
theorem Ok.b_by_offsets (D : Ok K mg) : Binds K (fdA K (He.ga K "by_offsets")) ["kind", "offsets", "size", "bits"] [] := D.f_by_offsets.bindsN fun _ _ _ _ _ _ us hl => match us, hl with | [_, _, _, _], _ => rfl
theorem Ok.f_world_offsets (D : Ok K mg) : FunD K "world_offsets" "world_offsets" (defArgs s_world_offsets) (defBody s_world_offsets) (defScope s_world_offsets) [] [] (He.ga K "world_offsets") (fdA K (He.ga K "world_offsets")) := f_of (D.d.def_ 34 (d := d_world_offsets) rfl)
theorem sc_world_offsets : FnScope ["kind", "rule", "size", "beats"] ["kind", "rule", "size", "beats"] (defScope s_world_offsets) := ⟨rfl, rfl, rfl, by decide +kernel, rfl, by decide +kernel, by decide +kernel⟩
theorem Ok.b_world_offsets (D : Ok K mg) : Binds K (fdA K (He.ga K "world_offsets")) ["kind", "rule", "size", "beats"] [] := D.f_world_offsets.bindsN fun _ _ _ _ _ _ us hl => match us, hl with | [_, _, _, _], _ => rfl
theorem Ok.f_after_bits (D : Ok K mg) : FunD K "after_bits" "after_bits" (defArgs s_after_bits) (defBody s_after_bits) (defScope s_after_bits) [] [] (He.ga K "after_bits") (fdA K (He.ga K "after_bits")) := f_of (D.d.def_ 35 (d := d_after_bits) rfl)
theorem sc_after_bits : FnScope ["kind", "rule", "size", "bits", "beats"] ["kind", "rule", "size", "bits", "beats"] (defScope s_after_bits) := ⟨rfl, rfl, rfl, by decide +kernel, rfl, by decide +kernel, by decide +kernel⟩
theorem Ok.b_after_bits (D : Ok K mg) : Binds K (fdA K (He.ga K "after_bits")) ["kind", "rule", "size", "bits", "beats"] [] := D.f_after_bits.bindsN fun _ _ _ _ _ _ us hl => match us, hl with | [_, _, _, _, _], _ => rfl
theorem Ok.f_beat_power (D : Ok K mg) : FunD K "beat_power" "beat_power" (defArgs s_beat_power) (defBody s_beat_power) (defScope s_beat_power) [] [] (He.ga K "beat_power") (fdA K (He.ga K "beat_power")) := f_of (D.d.def_ 36 (d := d_beat_power) rfl)
theorem sc_beat_power : FnScope ["kind", "rule", "size", "beats", "offsets", "place"] ["kind", "rule", "size", "beats"] (defScope s_beat_power) := ⟨rfl, rfl, rfl, by decide +kernel, rfl, by decide +kernel, by decide +kernel⟩
theorem Ok.b_beat_power (D : Ok K mg) : Binds K (fdA K (He.ga K "beat_power")) ["kind", "rule", "size", "beats"] [] := D.f_beat_power.bindsN fun _ _ _ _ _ _ us hl => match us, hl with | [_, _, _, _], _ => rfl
theorem Ok.f_after (D : Ok K mg) : FunD K "after" "after" (defArgs s_after) (defBody s_after) (defScope s_after) [] [] (He.ga K "after") (fdA K (He.ga K "after")) := f_of (D.d.def_ 37 (d := d_after) rfl)
theorem sc_after : FnScope ["kind", "rule", "row", "beats"] ["kind", "rule", "row", "beats"] (defScope s_after) := ⟨rfl, rfl, rfl, by decide +kernel, rfl, by decide +kernel, by decide +kernel⟩
theorem Ok.b_after (D : Ok K mg) : Binds K (fdA K (He.ga K "after")) ["kind", "rule", "row", "beats"] [] := D.f_after.bindsN fun _ _ _ _ _ _ us hl => match us, hl with | [_, _, _, _], _ => rfl
theorem Ok.f_is_row_of (D : Ok K mg) : FunD K "is_row_of" "is_row_of" (defArgs s_is_row_of) (defBody s_is_row_of) (defScope s_is_row_of) [] [] (He.ga K "is_row_of") (fdA K (He.ga K "is_row_of")) := f_of (D.d.def_ 38 (d := d_is_row_of) rfl)
theorem sc_is_row_of : FnScope ["value", "size"] ["value", "size"] (defScope s_is_row_of) := ⟨rfl, rfl, rfl, by decide +kernel, rfl, by decide +kernel, by decide +kernel⟩
theorem Ok.b_is_row_of (D : Ok K mg) : Binds K (fdA K (He.ga K "is_row_of")) ["value", "size"] [] := D.f_is_row_of.bindsN fun _ _ _ _ _ _ us hl => match us, hl with | [_, _], _ => rfl
theorem Ok.f_do_meet_evenly (D : Ok K mg) : FunD K "do_meet_evenly" "do_meet_evenly" (defArgs s_do_meet_evenly) (defBody s_do_meet_evenly) (defScope s_do_meet_evenly) [] [] (He.ga K "do_meet_evenly") (fdA K (He.ga K "do_meet_evenly")) := f_of (D.d.def_ 39 (d := d_do_meet_evenly) rfl)
theorem sc_do_meet_evenly : FnScope ["bits", "columns", "column"] ["bits", "columns"] (defScope s_do_meet_evenly) := ⟨rfl, rfl, rfl, by decide +kernel, rfl, by decide +kernel, by decide +kernel⟩
theorem Ok.b_do_meet_evenly (D : Ok K mg) : Binds K (fdA K (He.ga K "do_meet_evenly")) ["bits", "columns"] [] := D.f_do_meet_evenly.bindsN fun _ _ _ _ _ _ us hl => match us, hl with | [_, _], _ => rfl
theorem Ok.f_told_ahead (D : Ok K mg) : FunD K "told_ahead" "told_ahead" (defArgs s_told_ahead) (defBody s_told_ahead) (defScope s_told_ahead) [] [] (He.ga K "told_ahead") (fdA K (He.ga K "told_ahead")) := f_of (D.d.def_ 40 (d := d_told_ahead) rfl)
theorem sc_told_ahead : FnScope ["columns", "row", "span", "size", "start"] ["columns", "row"] (defScope s_told_ahead) := ⟨rfl, rfl, rfl, by decide +kernel, rfl, by decide +kernel, by decide +kernel⟩
theorem Ok.b_told_ahead (D : Ok K mg) : Binds K (fdA K (He.ga K "told_ahead")) ["columns", "row"] [] := D.f_told_ahead.bindsN fun _ _ _ _ _ _ us hl => match us, hl with | [_, _], _ => rfl
theorem Ok.f_shows_told (D : Ok K mg) : FunD K "shows_told" "shows_told" (defArgs s_shows_told) (defBody s_shows_told) (defScope s_shows_told) [] [] (He.ga K "shows_told") (fdA K (He.ga K "shows_told")) := f_of (D.d.def_ 41 (d := d_shows_told) rfl)
theorem sc_shows_told : FnScope ["columns", "row", "value", "bits"] ["columns", "row", "value"] (defScope s_shows_told) := ⟨rfl, rfl, rfl, by decide +kernel, rfl, by decide +kernel, by decide +kernel⟩
theorem Ok.b_shows_told (D : Ok K mg) : Binds K (fdA K (He.ga K "shows_told")) ["columns", "row", "value"] [] := D.f_shows_told.bindsN fun _ _ _ _ _ _ us hl => match us, hl with | [_, _, _], _ => rfl
theorem Ok.f_ahead (D : Ok K mg) : FunD K "ahead" "ahead" (defArgs s_ahead) (defBody s_ahead) (defScope s_ahead) [] [] (He.ga K "ahead") (fdA K (He.ga K "ahead")) := f_of (D.d.def_ 42 (d := d_ahead) rfl)
theorem sc_ahead : FnScope ["kind", "rule", "row"] ["kind", "rule", "row"] (defScope s_ahead) := ⟨rfl, rfl, rfl, by decide +kernel, rfl, by decide +kernel, by decide +kernel⟩
theorem Ok.b_ahead (D : Ok K mg) : Binds K (fdA K (He.ga K "ahead")) ["kind", "rule", "row"] [] := D.f_ahead.bindsN fun _ _ _ _ _ _ us hl => match us, hl with | [_, _, _], _ => rfl
theorem Ok.f_lost_of (D : Ok K mg) : FunD K "lost_of" "lost_of" (defArgs s_lost_of) (defBody s_lost_of) (defScope s_lost_of) [] [] (He.ga K "lost_of") (fdA K (He.ga K "lost_of")) := f_of (D.d.def_ 43 (d := d_lost_of) rfl)
theorem sc_lost_of : FnScope ["columns"] ["columns"] (defScope s_lost_of) := ⟨rfl, rfl, rfl, by decide +kernel, rfl, by decide +kernel, by decide +kernel⟩
theorem Ok.b_lost_of (D : Ok K mg) : Binds K (fdA K (He.ga K "lost_of")) ["columns"] [] := D.f_lost_of.bindsN fun _ _ _ _ _ _ us hl => match us, hl with | [_], _ => rfl
theorem Ok.f_lost (D : Ok K mg) : FunD K "lost" "lost" (defArgs s_lost) (defBody s_lost) (defScope s_lost) [] [] (He.ga K "lost") (fdA K (He.ga K "lost")) := f_of (D.d.def_ 44 (d := d_lost) rfl)
theorem sc_lost : FnScope ["kind", "rule", "size"] ["kind", "rule", "size"] (defScope s_lost) := ⟨rfl, rfl, rfl, by decide +kernel, rfl, by decide +kernel, by decide +kernel⟩
theorem Ok.b_lost (D : Ok K mg) : Binds K (fdA K (He.ga K "lost")) ["kind", "rule", "size"] [] := D.f_lost.bindsN fun _ _ _ _ _ _ us hl => match us, hl with | [_, _, _], _ => rfl
theorem Ok.f_depth (D : Ok K mg) : FunD K "depth" "depth" (defArgs s_depth) (defBody s_depth) (defScope s_depth) [] [] (He.ga K "depth") (fdA K (He.ga K "depth")) := f_of (D.d.def_ 45 (d := d_depth) rfl)
theorem sc_depth : FnScope ["kind", "rule", "row", "size", "beats", "span"] ["kind", "rule", "row"] (defScope s_depth) := ⟨rfl, rfl, rfl, by decide +kernel, rfl, by decide +kernel, by decide +kernel⟩
theorem Ok.b_depth (D : Ok K mg) : Binds K (fdA K (He.ga K "depth")) ["kind", "rule", "row"] [] := D.f_depth.bindsN fun _ _ _ _ _ _ us hl => match us, hl with | [_, _, _], _ => rfl
theorem Ok.f_before (D : Ok K mg) : FunD K "before" "before" (defArgs s_before) (defBody s_before) (defScope s_before) [] [] (He.ga K "before") (fdA K (He.ga K "before")) := f_of (D.d.def_ 46 (d := d_before) rfl)
theorem sc_before : FnScope ["kind", "rule", "row", "beats"] ["kind", "rule", "row", "beats"] (defScope s_before) := ⟨rfl, rfl, rfl, by decide +kernel, rfl, by decide +kernel, by decide +kernel⟩
theorem Ok.b_before (D : Ok K mg) : Binds K (fdA K (He.ga K "before")) ["kind", "rule", "row", "beats"] [] := D.f_before.bindsN fun _ _ _ _ _ _ us hl => match us, hl with | [_, _, _, _], _ => rfl
theorem Ok.f_shows_before (D : Ok K mg) : FunD K "shows_before" "shows_before" (defArgs s_shows_before) (defBody s_shows_before) (defScope s_shows_before) [] [] (He.ga K "shows_before") (fdA K (He.ga K "shows_before")) := f_of (D.d.def_ 47 (d := d_shows_before) rfl)
theorem sc_shows_before : FnScope ["kind", "rule", "row", "beats", "value"] ["kind", "rule", "row", "beats", "value"] (defScope s_shows_before) := ⟨rfl, rfl, rfl, by decide +kernel, rfl, by decide +kernel, by decide +kernel⟩
theorem Ok.b_shows_before (D : Ok K mg) : Binds K (fdA K (He.ga K "shows_before")) ["kind", "rule", "row", "beats", "value"] [] := D.f_shows_before.bindsN fun _ _ _ _ _ _ us hl => match us, hl with | [_, _, _, _, _], _ => rfl
theorem Ok.f_least_of (D : Ok K mg) : FunD K "least_of" "least_of" (defArgs s_least_of) (defBody s_least_of) (defScope s_least_of) [] [] (He.ga K "least_of") (fdA K (He.ga K "least_of")) := f_of (D.d.def_ 48 (d := d_least_of) rfl)
theorem sc_least_of : FnScope ["bits", "divisor"] ["bits"] (defScope s_least_of) := ⟨rfl, rfl, rfl, by decide +kernel, rfl, by decide +kernel, by decide +kernel⟩
theorem Ok.b_least_of (D : Ok K mg) : Binds K (fdA K (He.ga K "least_of")) ["bits"] [] := D.f_least_of.bindsN fun _ _ _ _ _ _ us hl => match us, hl with | [_], _ => rfl
theorem Ok.f_factors_of (D : Ok K mg) : FunD K "factors_of" "factors_of" (defArgs s_factors_of) (defBody s_factors_of) (defScope s_factors_of) [] [] (He.ga K "factors_of") (fdA K (He.ga K "factors_of")) := f_of (D.d.def_ 49 (d := d_factors_of) rfl)
theorem sc_factors_of : FnScope ["bits", "found", "rest", "factor", "times"] ["bits"] (defScope s_factors_of) := ⟨rfl, rfl, rfl, by decide +kernel, rfl, by decide +kernel, by decide +kernel⟩
theorem Ok.b_factors_of (D : Ok K mg) : Binds K (fdA K (He.ga K "factors_of")) ["bits"] [] := D.f_factors_of.bindsN fun _ _ _ _ _ _ us hl => match us, hl with | [_], _ => rfl
theorem Ok.f_primes_of (D : Ok K mg) : FunD K "primes_of" "primes_of" (defArgs s_primes_of) (defBody s_primes_of) (defScope s_primes_of) [] [] (He.ga K "primes_of") (fdA K (He.ga K "primes_of")) := f_of (D.d.def_ 50 (d := d_primes_of) rfl)
theorem sc_primes_of : FnScope ["number", "found", "rest", "prime"] ["number"] (defScope s_primes_of) := ⟨rfl, rfl, rfl, by decide +kernel, rfl, by decide +kernel, by decide +kernel⟩
theorem Ok.b_primes_of (D : Ok K mg) : Binds K (fdA K (He.ga K "primes_of")) ["number"] [] := D.f_primes_of.bindsN fun _ _ _ _ _ _ us hl => match us, hl with | [_], _ => rfl
theorem Ok.f_plain_measure (D : Ok K mg) : FunD K "plain_measure" "plain_measure" (defArgs s_plain_measure) (defBody s_plain_measure) (defScope s_plain_measure) [] [] (He.ga K "plain_measure") (fdA K (He.ga K "plain_measure")) := f_of (D.d.def_ 51 (d := d_plain_measure) rfl)
theorem sc_plain_measure : FnScope ["factor", "found", "prime"] ["factor"] (defScope s_plain_measure) := ⟨rfl, rfl, rfl, by decide +kernel, rfl, by decide +kernel, by decide +kernel⟩
theorem Ok.b_plain_measure (D : Ok K mg) : Binds K (fdA K (He.ga K "plain_measure")) ["factor"] [] := D.f_plain_measure.bindsN fun _ _ _ _ _ _ us hl => match us, hl with | [_], _ => rfl
theorem Ok.f_least_common (D : Ok K mg) : FunD K "least_common" "least_common" (defArgs s_least_common) (defBody s_least_common) (defScope s_least_common) [] [] (He.ga K "least_common") (fdA K (He.ga K "least_common")) := f_of (D.d.def_ 52 (d := d_least_common) rfl)
theorem sc_least_common : FnScope ["numbers", "found", "number", "one", "other"] ["numbers"] (defScope s_least_common) := ⟨rfl, rfl, rfl, by decide +kernel, rfl, by decide +kernel, by decide +kernel⟩
theorem Ok.b_least_common (D : Ok K mg) : Binds K (fdA K (He.ga K "least_common")) ["numbers"] [] := D.f_least_common.bindsN fun _ _ _ _ _ _ us hl => match us, hl with | [_], _ => rfl
theorem Ok.f_twos_above (D : Ok K mg) : FunD K "twos_above" "twos_above" (defArgs s_twos_above) (defBody s_twos_above) (defScope s_twos_above) [] [] (He.ga K "twos_above") (fdA K (He.ga K "twos_above")) := f_of (D.d.def_ 53 (d := d_twos_above) rfl)
theorem sc_twos_above : FnScope ["times", "found"] ["times"] (defScope s_twos_above) := ⟨rfl, rfl, rfl, by decide +kernel, rfl, by decide +kernel, by decide +kernel⟩
theorem Ok.b_twos_above (D : Ok K mg) : Binds K (fdA K (He.ga K "twos_above")) ["times"] [] := D.f_twos_above.bindsN fun _ _ _ _ _ _ us hl => match us, hl with | [_], _ => rfl
theorem Ok.f_core_bits (D : Ok K mg) : FunD K "core_bits" "core_bits" (defArgs s_core_bits) (defBody s_core_bits) (defScope s_core_bits) [] [] (He.ga K "core_bits") (fdA K (He.ga K "core_bits")) := f_of (D.d.def_ 54 (d := d_core_bits) rfl)
theorem sc_core_bits : FnScope ["bits", "rest"] ["bits"] (defScope s_core_bits) := ⟨rfl, rfl, rfl, by decide +kernel, rfl, by decide +kernel, by decide +kernel⟩
theorem Ok.b_core_bits (D : Ok K mg) : Binds K (fdA K (He.ga K "core_bits")) ["bits"] [] := D.f_core_bits.bindsN fun _ _ _ _ _ _ us hl => match us, hl with | [_], _ => rfl
theorem Ok.f_measured_bits (D : Ok K mg) : FunD K "measured_bits" "measured_bits" (defArgs s_measured_bits) (defBody s_measured_bits) (defScope s_measured_bits) [] [] (He.ga K "measured_bits") (fdA K (He.ga K "measured_bits")) := f_of (D.d.def_ 55 (d := d_measured_bits) rfl)
theorem sc_measured_bits : FnScope ["bits", "factor", "times"] ["bits"] (defScope s_measured_bits) := ⟨rfl, rfl, rfl, by decide +kernel, rfl, by decide +kernel, by decide +kernel⟩
theorem Ok.b_measured_bits (D : Ok K mg) : Binds K (fdA K (He.ga K "measured_bits")) ["bits"] [] := D.f_measured_bits.bindsN fun _ _ _ _ _ _ us hl => match us, hl with | [_], _ => rfl
theorem Ok.f_measure_bits (D : Ok K mg) : FunD K "measure_bits" "measure_bits" (defArgs s_measure_bits) (defBody s_measure_bits) (defScope s_measure_bits) [] [] (He.ga K "measure_bits") (fdA K (He.ga K "measure_bits")) := f_of (D.d.def_ 56 (d := d_measure_bits) rfl)
theorem sc_measure_bits : FnScope ["bits", "rows", "row"] ["bits"] (defScope s_measure_bits) := ⟨rfl, rfl, rfl, by decide +kernel, rfl, by decide +kernel, by decide +kernel⟩
theorem Ok.b_measure_bits (D : Ok K mg) : Binds K (fdA K (He.ga K "measure_bits")) ["bits"] [] := D.f_measure_bits.bindsN fun _ _ _ _ _ _ us hl => match us, hl with | [_], _ => rfl
theorem Ok.f_row_own_bits (D : Ok K mg) : FunD K "row_own_bits" "row_own_bits" (defArgs s_row_own_bits) (defBody s_row_own_bits) (defScope s_row_own_bits) [] [] (He.ga K "row_own_bits") (fdA K (He.ga K "row_own_bits")) := f_of (D.d.def_ 57 (d := d_row_own_bits) rfl)
theorem sc_row_own_bits : FnScope ["kind", "rule", "size", "bits", "span", "here", "beats", "offsets"] ["kind", "rule", "size", "bits"] (defScope s_row_own_bits) := ⟨rfl, rfl, rfl, by decide +kernel, rfl, by decide +kernel, by decide +kernel⟩
theorem Ok.b_row_own_bits (D : Ok K mg) : Binds K (fdA K (He.ga K "row_own_bits")) ["kind", "rule", "size", "bits"] [] := D.f_row_own_bits.bindsN fun _ _ _ _ _ _ us hl => match us, hl with | [_, _, _, _], _ => rfl
theorem Ok.f_own_bits (D : Ok K mg) : FunD K "own_bits" "own_bits" (defArgs s_own_bits) (defBody s_own_bits) (defScope s_own_bits) [] [] (He.ga K "own_bits") (fdA K (He.ga K "own_bits")) := f_of (D.d.def_ 58 (d := d_own_bits) rfl)
theorem sc_own_bits : FnScope ["kind", "rule", "size"] ["kind", "rule", "size"] (defScope s_own_bits) := ⟨rfl, rfl, rfl, by decide +kernel, rfl, by decide +kernel, by decide +kernel⟩
theorem Ok.b_own_bits (D : Ok K mg) : Binds K (fdA K (He.ga K "own_bits")) ["kind", "rule", "size"] [] := D.f_own_bits.bindsN fun _ _ _ _ _ _ us hl => match us, hl with | [_, _, _], _ => rfl
theorem Ok.f_own (D : Ok K mg) : FunD K "own" "own" (defArgs s_own) (defBody s_own) (defScope s_own) [] [] (He.ga K "own") (fdA K (He.ga K "own")) := f_of (D.d.def_ 59 (d := d_own) rfl)
theorem sc_own : FnScope ["kind", "rule", "size"] ["kind", "rule", "size"] (defScope s_own) := ⟨rfl, rfl, rfl, by decide +kernel, rfl, by decide +kernel, by decide +kernel⟩
theorem Ok.b_own (D : Ok K mg) : Binds K (fdA K (He.ga K "own")) ["kind", "rule", "size"] [] := D.f_own.bindsN fun _ _ _ _ _ _ us hl => match us, hl with | [_, _, _], _ => rfl
theorem Ok.f_tail_in (D : Ok K mg) : FunD K "tail_in" "tail_in" (defArgs s_tail_in) (defBody s_tail_in) (defScope s_tail_in) [] [] (He.ga K "tail_in") (fdA K (He.ga K "tail_in")) := f_of (D.d.def_ 60 (d := d_tail_in) rfl)
theorem sc_tail_in : FnScope ["bits"] ["bits"] (defScope s_tail_in) := ⟨rfl, rfl, rfl, by decide +kernel, rfl, by decide +kernel, by decide +kernel⟩
theorem Ok.b_tail_in (D : Ok K mg) : Binds K (fdA K (He.ga K "tail_in")) ["bits"] [] := D.f_tail_in.bindsN fun _ _ _ _ _ _ us hl => match us, hl with | [_], _ => rfl
theorem Ok.f_period_in (D : Ok K mg) : FunD K "period_in" "period_in" (defArgs s_period_in) (defBody s_period_in) (defScope s_period_in) [] [] (He.ga K "period_in") (fdA K (He.ga K "period_in")) := f_of (D.d.def_ 61 (d := d_period_in) rfl)
theorem sc_period_in : FnScope ["bits"] ["bits"] (defScope s_period_in) := ⟨rfl, rfl, rfl, by decide +kernel, rfl, by decide +kernel, by decide +kernel⟩
theorem Ok.b_period_in (D : Ok K mg) : Binds K (fdA K (He.ga K "period_in")) ["bits"] [] := D.f_period_in.bindsN fun _ _ _ _ _ _ us hl => match us, hl with | [_], _ => rfl
theorem Ok.f_row_own (D : Ok K mg) : FunD K "row_own" "row_own" (defArgs s_row_own) (defBody s_row_own) (defScope s_row_own) [] [] (He.ga K "row_own") (fdA K (He.ga K "row_own")) := f_of (D.d.def_ 62 (d := d_row_own) rfl)
theorem sc_row_own : FnScope ["kind", "rule", "row"] ["kind", "rule", "row"] (defScope s_row_own) := ⟨rfl, rfl, rfl, by decide +kernel, rfl, by decide +kernel, by decide +kernel⟩
theorem Ok.b_row_own (D : Ok K mg) : Binds K (fdA K (He.ga K "row_own")) ["kind", "rule", "row"] [] := D.f_row_own.bindsN fun _ _ _ _ _ _ us hl => match us, hl with | [_, _, _], _ => rfl
theorem Ok.f_size_own (D : Ok K mg) : FunD K "size_own" "size_own" (defArgs s_size_own) (defBody s_size_own) (defScope s_size_own) [] [] (He.ga K "size_own") (fdA K (He.ga K "size_own")) := f_of (D.d.def_ 63 (d := d_size_own) rfl)
theorem sc_size_own : FnScope ["kind", "rule", "size"] ["kind", "rule", "size"] (defScope s_size_own) := ⟨rfl, rfl, rfl, by decide +kernel, rfl, by decide +kernel, by decide +kernel⟩
theorem Ok.b_size_own (D : Ok K mg) : Binds K (fdA K (He.ga K "size_own")) ["kind", "rule", "size"] [] := D.f_size_own.bindsN fun _ _ _ _ _ _ us hl => match us, hl with | [_, _, _], _ => rfl
theorem Ok.f_tail (D : Ok K mg) : FunD K "tail" "tail" (defArgs s_tail) (defBody s_tail) (defScope s_tail) [] [] (He.ga K "tail") (fdA K (He.ga K "tail")) := f_of (D.d.def_ 64 (d := d_tail) rfl)
theorem sc_tail : FnScope ["kind", "rule", "row"] ["kind", "rule", "row"] (defScope s_tail) := ⟨rfl, rfl, rfl, by decide +kernel, rfl, by decide +kernel, by decide +kernel⟩
theorem Ok.b_tail (D : Ok K mg) : Binds K (fdA K (He.ga K "tail")) ["kind", "rule", "row"] [] := D.f_tail.bindsN fun _ _ _ _ _ _ us hl => match us, hl with | [_, _, _], _ => rfl
theorem Ok.f_period (D : Ok K mg) : FunD K "period" "period" (defArgs s_period) (defBody s_period) (defScope s_period) [] [] (He.ga K "period") (fdA K (He.ga K "period")) := f_of (D.d.def_ 65 (d := d_period) rfl)
theorem sc_period : FnScope ["kind", "rule", "row"] ["kind", "rule", "row"] (defScope s_period) := ⟨rfl, rfl, rfl, by decide +kernel, rfl, by decide +kernel, by decide +kernel⟩
theorem Ok.b_period (D : Ok K mg) : Binds K (fdA K (He.ga K "period")) ["kind", "rule", "row"] [] := D.f_period.bindsN fun _ _ _ _ _ _ us hl => match us, hl with | [_, _, _], _ => rfl
theorem Ok.f_tails (D : Ok K mg) : FunD K "tails" "tails" (defArgs s_tails) (defBody s_tails) (defScope s_tails) [] [] (He.ga K "tails") (fdA K (He.ga K "tails")) := f_of (D.d.def_ 66 (d := d_tails) rfl)
theorem sc_tails : FnScope ["kind", "rule", "size"] ["kind", "rule", "size"] (defScope s_tails) := ⟨rfl, rfl, rfl, by decide +kernel, rfl, by decide +kernel, by decide +kernel⟩
theorem Ok.b_tails (D : Ok K mg) : Binds K (fdA K (He.ga K "tails")) ["kind", "rule", "size"] [] := D.f_tails.bindsN fun _ _ _ _ _ _ us hl => match us, hl with | [_, _, _], _ => rfl
theorem Ok.f_divisors_of (D : Ok K mg) : FunD K "divisors_of" "divisors_of" (defArgs s_divisors_of) (defBody s_divisors_of) (defScope s_divisors_of) [] [] (He.ga K "divisors_of") (fdA K (He.ga K "divisors_of")) := f_of (D.d.def_ 67 (d := d_divisors_of) rfl)
theorem sc_divisors_of : FnScope ["number", "small", "one"] ["number"] (defScope s_divisors_of) := ⟨rfl, rfl, rfl, by decide +kernel, rfl, by decide +kernel, by decide +kernel⟩
theorem Ok.b_divisors_of (D : Ok K mg) : Binds K (fdA K (He.ga K "divisors_of")) ["number"] [] := D.f_divisors_of.bindsN fun _ _ _ _ _ _ us hl => match us, hl with | [_], _ => rfl
theorem Ok.f_same_again (D : Ok K mg) : FunD K "same_again" "same_again" (defArgs s_same_again) (defBody s_same_again) (defScope s_same_again) [] [] (He.ga K "same_again") (fdA K (He.ga K "same_again")) := f_of (D.d.def_ 68 (d := d_same_again) rfl)
theorem sc_same_again : FnScope ["kind", "rule", "size", "beats", "columns", "turned", "column", "place"] ["kind", "rule", "size", "beats"] (defScope s_same_again) := ⟨rfl, rfl, rfl, by decide +kernel, rfl, by decide +kernel, by decide +kernel⟩
theorem Ok.b_same_again (D : Ok K mg) : Binds K (fdA K (He.ga K "same_again")) ["kind", "rule", "size", "beats"] [] := D.f_same_again.bindsN fun _ _ _ _ _ _ us hl => match us, hl with | [_, _, _, _], _ => rfl
theorem Ok.f_loops (D : Ok K mg) : FunD K "loops" "loops" (defArgs s_loops) (defBody s_loops) (defScope s_loops) [] [] (He.ga K "loops") (fdA K (He.ga K "loops")) := f_of (D.d.def_ 69 (d := d_loops) rfl)
theorem sc_loops : FnScope ["kind", "rule", "size", "bits", "rows", "one", "less", "other", "many"] ["kind", "rule", "size"] (defScope s_loops) := ⟨rfl, rfl, rfl, by decide +kernel, rfl, by decide +kernel, by decide +kernel⟩
theorem Ok.b_loops (D : Ok K mg) : Binds K (fdA K (He.ga K "loops")) ["kind", "rule", "size"] [] := D.f_loops.bindsN fun _ _ _ _ _ _ us hl => match us, hl with | [_, _, _], _ => rfl
theorem Ok.f_comes_to (D : Ok K mg) : FunD K "comes_to" "comes_to" (defArgs s_comes_to) (defBody s_comes_to) (defScope s_comes_to) [] [] (He.ga K "comes_to") (fdA K (He.ga K "comes_to")) := f_of (D.d.def_ 70 (d := d_comes_to) rfl)
theorem sc_comes_to : FnScope ["kind", "rule", "one", "other", "bits", "turns", "here", "goal", "offsets", "beats"] ["kind", "rule", "one", "other"] (defScope s_comes_to) := ⟨rfl, rfl, rfl, by decide +kernel, rfl, by decide +kernel, by decide +kernel⟩
theorem Ok.b_comes_to (D : Ok K mg) : Binds K (fdA K (He.ga K "comes_to")) ["kind", "rule", "one", "other"] [] := D.f_comes_to.bindsN fun _ _ _ _ _ _ us hl => match us, hl with | [_, _, _, _], _ => rfl
theorem Ok.f__law_pot (D : Ok K mg) : FunD K "_law_pot" "_law_pot" (defArgs s__law_pot) (defBody s__law_pot) (defScope s__law_pot) [] [] (He.ga K "_law_pot") (fdA K (He.ga K "_law_pot")) := f_of (D.d.def_ 71 (d := d__law_pot) rfl)
theorem sc__law_pot : FnScope ["_law_script", "_law_place", "_law_cell", "_law_own_digits", "_law_small"] ["_law_script", "_law_place"] (defScope s__law_pot) := ⟨rfl, rfl, rfl, by decide +kernel, rfl, by decide +kernel, by decide +kernel⟩
theorem Ok.b__law_pot (D : Ok K mg) : Binds K (fdA K (He.ga K "_law_pot")) ["_law_script", "_law_place"] [] := D.f__law_pot.bindsN fun _ _ _ _ _ _ us hl => match us, hl with | [_, _], _ => rfl
theorem Ok.f__law_take (D : Ok K mg) : FunD K "_law_take" "_law_take" (defArgs s__law_take) (defBody s__law_take) (defScope s__law_take) [] [] (He.ga K "_law_take") (fdA K (He.ga K "_law_take")) := f_of (D.d.def_ 72 (d := d__law_take) rfl)
theorem sc__law_take : FnScope ["_law_pot_here", "_law_upto", "_law_digit", "_law_prime", "_law_blend"] ["_law_pot_here", "_law_upto"] (defScope s__law_take) := ⟨rfl, rfl, rfl, by decide +kernel, rfl, by decide +kernel, by decide +kernel⟩
theorem Ok.b__law_take (D : Ok K mg) : Binds K (fdA K (He.ga K "_law_take")) ["_law_pot_here", "_law_upto"] [] := D.f__law_take.bindsN fun _ _ _ _ _ _ us hl => match us, hl with | [_, _], _ => rfl
theorem Ok.f__law_of (D : Ok K mg) : FunD K "_law_of" "_law_of" (defArgs s__law_of) (defBody s__law_of) (defScope s__law_of) [] [] (He.ga K "_law_of") (fdA K (He.ga K "_law_of")) := f_of (D.d.def_ 73 (d := d__law_of) rfl)
theorem sc__law_of : FnScope ["_law_pot_here", "_law_some"] ["_law_pot_here", "_law_some"] (defScope s__law_of) := ⟨rfl, rfl, rfl, by decide +kernel, rfl, by decide +kernel, by decide +kernel⟩
theorem Ok.b__law_of (D : Ok K mg) : Binds K (fdA K (He.ga K "_law_of")) ["_law_pot_here", "_law_some"] [] := D.f__law_of.bindsN fun _ _ _ _ _ _ us hl => match us, hl with | [_, _], _ => rfl
theorem Ok.f__law_cells (D : Ok K mg) : FunD K "_law_cells" "_law_cells" (defArgs s__law_cells) (defBody s__law_cells) (defScope s__law_cells) [] [] (He.ga K "_law_cells") (fdA K (He.ga K "_law_cells")) := f_of (D.d.def_ 74 (d := d__law_cells) rfl)
theorem sc__law_cells : FnScope ["_law_script", "_law_most"] ["_law_script", "_law_most"] (defScope s__law_cells) := ⟨rfl, rfl, rfl, by decide +kernel, rfl, by decide +kernel, by decide +kernel⟩
theorem Ok.b__law_cells (D : Ok K mg) : Binds K (fdA K (He.ga K "_law_cells")) ["_law_script", "_law_most"] [] := D.f__law_cells.bindsN fun _ _ _ _ _ _ us hl => match us, hl with | [_, _], _ => rfl
theorem Ok.f__law_rule (D : Ok K mg) : FunD K "_law_rule" "_law_rule" (defArgs s__law_rule) (defBody s__law_rule) (defScope s__law_rule) [] [] (He.ga K "_law_rule") (fdA K (He.ga K "_law_rule")) := f_of (D.d.def_ 75 (d := d__law_rule) rfl)
theorem sc__law_rule : FnScope ["_law_pot_here", "_law_kind_here", "_law_wide", "_law_low", "_law_some", "_law_offset"] ["_law_pot_here", "_law_kind_here"] (defScope s__law_rule) := ⟨rfl, rfl, rfl, by decide +kernel, rfl, by decide +kernel, by decide +kernel⟩
theorem Ok.b__law_rule (D : Ok K mg) : Binds K (fdA K (He.ga K "_law_rule")) ["_law_pot_here", "_law_kind_here"] [] := D.f__law_rule.bindsN fun _ _ _ _ _ _ us hl => match us, hl with | [_, _], _ => rfl
theorem Ok.f__law_kind (D : Ok K mg) : FunD K "_law_kind" "_law_kind" (defArgs s__law_kind) (defBody s__law_kind) (defScope s__law_kind) [] [] (He.ga K "_law_kind") (fdA K (He.ga K "_law_kind")) := f_of (D.d.def_ 76 (d := d__law_kind) rfl)
theorem sc__law_kind : FnScope ["_law_pot_here"] ["_law_pot_here"] (defScope s__law_kind) := ⟨rfl, rfl, rfl, by decide +kernel, rfl, by decide +kernel, by decide +kernel⟩
theorem Ok.b__law_kind (D : Ok K mg) : Binds K (fdA K (He.ga K "_law_kind")) ["_law_pot_here"] [] := D.f__law_kind.bindsN fun _ _ _ _ _ _ us hl => match us, hl with | [_], _ => rfl
theorem Ok.f__law_any_bits (D : Ok K mg) : FunD K "_law_any_bits" "_law_any_bits" (defArgs s__law_any_bits) (defBody s__law_any_bits) (defScope s__law_any_bits) [] [] (He.ga K "_law_any_bits") (fdA K (He.ga K "_law_any_bits")) := f_of (D.d.def_ 77 (d := d__law_any_bits) rfl)
theorem sc__law_any_bits : FnScope ["_law_pot_here", "_law_size", "_law_way", "_law_found", "_law_at", "_law_digit"] ["_law_pot_here", "_law_size"] (defScope s__law_any_bits) := ⟨rfl, rfl, rfl, by decide +kernel, rfl, by decide +kernel, by decide +kernel⟩
theorem Ok.b__law_any_bits (D : Ok K mg) : Binds K (fdA K (He.ga K "_law_any_bits")) ["_law_pot_here", "_law_size"] [] := D.f__law_any_bits.bindsN fun _ _ _ _ _ _ us hl => match us, hl with | [_, _], _ => rfl
theorem Ok.f__law_text (D : Ok K mg) : FunD K "_law_text" "_law_text" (defArgs s__law_text) (defBody s__law_text) (defScope s__law_text) [] [] (He.ga K "_law_text") (fdA K (He.ga K "_law_text")) := f_of (D.d.def_ 78 (d := d__law_text) rfl)
theorem sc__law_text : FnScope ["_law_bits_here", "_law_size", "_law_at"] ["_law_bits_here", "_law_size"] (defScope s__law_text) := ⟨rfl, rfl, rfl, by decide +kernel, rfl, by decide +kernel, by decide +kernel⟩
theorem Ok.b__law_text (D : Ok K mg) : Binds K (fdA K (He.ga K "_law_text")) ["_law_bits_here", "_law_size"] [] := D.f__law_text.bindsN fun _ _ _ _ _ _ us hl => match us, hl with | [_, _], _ => rfl
theorem Ok.f__law_bits (D : Ok K mg) : FunD K "_law_bits" "_law_bits" (defArgs s__law_bits) (defBody s__law_bits) (defScope s__law_bits) [] [] (He.ga K "_law_bits") (fdA K (He.ga K "_law_bits")) := f_of (D.d.def_ 79 (d := d__law_bits) rfl)
theorem sc__law_bits : FnScope ["_law_row", "_law_at", "_law_sign"] ["_law_row"] (defScope s__law_bits) := ⟨rfl, rfl, rfl, by decide +kernel, rfl, by decide +kernel, by decide +kernel⟩
theorem Ok.b__law_bits (D : Ok K mg) : Binds K (fdA K (He.ga K "_law_bits")) ["_law_row"] [] := D.f__law_bits.bindsN fun _ _ _ _ _ _ us hl => match us, hl with | [_], _ => rfl
theorem Ok.f__law_round (D : Ok K mg) : FunD K "_law_round" "_law_round" (defArgs s__law_round) (defBody s__law_round) (defScope s__law_round) [] [] (He.ga K "_law_round") (fdA K (He.ga K "_law_round")) := f_of (D.d.def_ 80 (d := d__law_round) rfl)
theorem sc__law_round : FnScope ["_law_bits_here", "_law_size", "_law_offset", "_law_far"] ["_law_bits_here", "_law_size", "_law_offset"] (defScope s__law_round) := ⟨rfl, rfl, rfl, by decide +kernel, rfl, by decide +kernel, by decide +kernel⟩
theorem Ok.b__law_round (D : Ok K mg) : Binds K (fdA K (He.ga K "_law_round")) ["_law_bits_here", "_law_size", "_law_offset"] [] := D.f__law_round.bindsN fun _ _ _ _ _ _ us hl => match us, hl with | [_, _, _], _ => rfl
theorem Ok.f__law_mirrored (D : Ok K mg) : FunD K "_law_mirrored" "_law_mirrored" (defArgs s__law_mirrored) (defBody s__law_mirrored) (defScope s__law_mirrored) [] [] (He.ga K "_law_mirrored") (fdA K (He.ga K "_law_mirrored")) := f_of (D.d.def_ 81 (d := d__law_mirrored) rfl)
theorem sc__law_mirrored : FnScope ["_law_bits_here", "_law_size", "_law_found", "_law_at"] ["_law_bits_here", "_law_size"] (defScope s__law_mirrored) := ⟨rfl, rfl, rfl, by decide +kernel, rfl, by decide +kernel, by decide +kernel⟩
theorem Ok.b__law_mirrored (D : Ok K mg) : Binds K (fdA K (He.ga K "_law_mirrored")) ["_law_bits_here", "_law_size"] [] := D.f__law_mirrored.bindsN fun _ _ _ _ _ _ us hl => match us, hl with | [_, _], _ => rfl
theorem Ok.f__law_by (D : Ok K mg) : FunD K "_law_by" "_law_by" (defArgs s__law_by) (defBody s__law_by) (defScope s__law_by) [] [] (He.ga K "_law_by") (fdA K (He.ga K "_law_by")) := f_of (D.d.def_ 82 (d := d__law_by) rfl)
theorem sc__law_by : FnScope ["_law_kind_here", "_law_offsets_here", "_law_size", "_law_bits_here", "_law_here", "_law_wide", "_law_found", "_law_offset"] ["_law_kind_here", "_law_offsets_here", "_law_size", "_law_bits_here"] (defScope s__law_by) := ⟨rfl, rfl, rfl, by decide +kernel, rfl, by decide +kernel, by decide +kernel⟩
theorem Ok.b__law_by (D : Ok K mg) : Binds K (fdA K (He.ga K "_law_by")) ["_law_kind_here", "_law_offsets_here", "_law_size", "_law_bits_here"] [] := D.f__law_by.bindsN fun _ _ _ _ _ _ us hl => match us, hl with | [_, _, _, _], _ => rfl
theorem Ok.f__law_offsets (D : Ok K mg) : FunD K "_law_offsets" "_law_offsets" (defArgs s__law_offsets) (defBody s__law_offsets) (defScope s__law_offsets) [] [] (He.ga K "_law_offsets") (fdA K (He.ga K "_law_offsets")) := f_of (D.d.def_ 83 (d := d__law_offsets) rfl)
theorem sc__law_offsets : FnScope ["_law_kind_here", "_law_rule_here", "_law_size", "_law_beats", "_law_wide", "_law_found", "_law_here", "_law_rest", "_law_some", "_law_one", "_law_offset", "_law_other"] ["_law_kind_here", "_law_rule_here", "_law_size", "_law_beats"] (defScope s__law_offsets) := ⟨rfl, rfl, rfl, by decide +kernel, rfl, by decide +kernel, by decide +kernel⟩
theorem Ok.b__law_offsets (D : Ok K mg) : Binds K (fdA K (He.ga K "_law_offsets")) ["_law_kind_here", "_law_rule_here", "_law_size", "_law_beats"] [] := D.f__law_offsets.bindsN fun _ _ _ _ _ _ us hl => match us, hl with | [_, _, _, _], _ => rfl
theorem Ok.f__law_odd_ones (D : Ok K mg) : FunD K "_law_odd_ones" "_law_odd_ones" (defArgs s__law_odd_ones) (defBody s__law_odd_ones) (defScope s__law_odd_ones) [] [] (He.ga K "_law_odd_ones") (fdA K (He.ga K "_law_odd_ones")) := f_of (D.d.def_ 84 (d := d__law_odd_ones) rfl)
theorem sc__law_odd_ones : FnScope ["_law_some", "_law_marks", "_law_one"] ["_law_some"] (defScope s__law_odd_ones) := ⟨rfl, rfl, rfl, by decide +kernel, rfl, by decide +kernel, by decide +kernel⟩
theorem Ok.b__law_odd_ones (D : Ok K mg) : Binds K (fdA K (He.ga K "_law_odd_ones")) ["_law_some"] [] := D.f__law_odd_ones.bindsN fun _ _ _ _ _ _ us hl => match us, hl with | [_], _ => rfl
theorem Ok.f__law_after (D : Ok K mg) : FunD K "_law_after" "_law_after" (defArgs s__law_after) (defBody s__law_after) (defScope s__law_after) [] [] (He.ga K "_law_after") (fdA K (He.ga K "_law_after")) := f_of (D.d.def_ 85 (d := d__law_after) rfl)
theorem sc__law_after : FnScope ["_law_kind_here", "_law_rule_here", "_law_size", "_law_bits_here", "_law_beats"] ["_law_kind_here", "_law_rule_here", "_law_size", "_law_bits_here", "_law_beats"] (defScope s__law_after) := ⟨rfl, rfl, rfl, by decide +kernel, rfl, by decide +kernel, by decide +kernel⟩
theorem Ok.b__law_after (D : Ok K mg) : Binds K (fdA K (He.ga K "_law_after")) ["_law_kind_here", "_law_rule_here", "_law_size", "_law_bits_here", "_law_beats"] [] := D.f__law_after.bindsN fun _ _ _ _ _ _ us hl => match us, hl with | [_, _, _, _, _], _ => rfl
theorem Ok.f__law_is_row_right (D : Ok K mg) : FunD K "_law_is_row_right" "_law_is_row_right" (defArgs s__law_is_row_right) (defBody s__law_is_row_right) (defScope s__law_is_row_right) [] [] (He.ga K "_law_is_row_right") (fdA K (He.ga K "_law_is_row_right")) := f_of (D.d.def_ 86 (d := d__law_is_row_right) rfl)
theorem sc__law_is_row_right : FnScope ["_law_kind_here", "_law_rule_here", "_law_size", "_law_row", "_law_far", "_law_around", "_law_deep", "_law_later", "_law_told", "_law_there"] ["_law_kind_here", "_law_rule_here", "_law_size", "_law_row"] (defScope s__law_is_row_right) := ⟨rfl, rfl, rfl, by decide +kernel, rfl, by decide +kernel, by decide +kernel⟩
theorem Ok.b__law_is_row_right (D : Ok K mg) : Binds K (fdA K (He.ga K "_law_is_row_right")) ["_law_kind_here", "_law_rule_here", "_law_size", "_law_row"] [] := D.f__law_is_row_right.bindsN fun _ _ _ _ _ _ us hl => match us, hl with | [_, _, _, _], _ => rfl
theorem Ok.f__law_are_all_right (D : Ok K mg) : FunD K "_law_are_all_right" "_law_are_all_right" (defArgs s__law_are_all_right) (defBody s__law_are_all_right) (defScope s__law_are_all_right) [] [] (He.ga K "_law_are_all_right") (fdA K (He.ga K "_law_are_all_right")) := f_of (D.d.def_ 87 (d := d__law_are_all_right) rfl)
theorem sc__law_are_all_right : FnScope ["_law_kind_here", "_law_rule_here", "_law_size", "_law_rows_here", "_law_due", "_law_bits_here", "_law_row", "_law_around", "_law_amount"] ["_law_kind_here", "_law_rule_here", "_law_size"] (defScope s__law_are_all_right) := ⟨rfl, rfl, rfl, by decide +kernel, rfl, by decide +kernel, by decide +kernel⟩
theorem Ok.b__law_are_all_right (D : Ok K mg) : Binds K (fdA K (He.ga K "_law_are_all_right")) ["_law_kind_here", "_law_rule_here", "_law_size"] [] := D.f__law_are_all_right.bindsN fun _ _ _ _ _ _ us hl => match us, hl with | [_, _, _], _ => rfl
theorem Ok.f__law_right (D : Ok K mg) : FunD K "_law_right" "_law_right" (defArgs s__law_right) (defBody s__law_right) (defScope s__law_right) [] [] (He.ga K "_law_right") (fdA K (He.ga K "_law_right")) := f_of (D.d.def_ 88 (d := d__law_right) rfl)
theorem sc__law_right : FnScope ["_law_pot_here", "_law_kind_here", "_law_size", "_law_rule_here", "_law_is_kept", "_law_bits_here", "_law_some", "_law_one"] ["_law_pot_here"] (defScope s__law_right) := ⟨rfl, rfl, rfl, by decide +kernel, rfl, by decide +kernel, by decide +kernel⟩
theorem Ok.b__law_right (D : Ok K mg) : Binds K (fdA K (He.ga K "_law_right")) ["_law_pot_here"] [] := D.f__law_right.bindsN fun _ _ _ _ _ _ us hl => match us, hl with | [_], _ => rfl
theorem Ok.f_law (D : Ok K mg) : FunD K "law" "law" (defArgs s_law) (defBody s_law) (defScope s_law) [] [] (He.ga K "law") (fdA K (He.ga K "law")) := f_of (D.d.def_ 89 (d := d_law) rfl)
theorem sc_law : FnScope ["_law_script", "_law_place", "_law_pot_here", "_law_lap"] ["_law_script"] (defScope s_law) := ⟨rfl, rfl, rfl, by decide +kernel, rfl, by decide +kernel, by decide +kernel⟩
theorem Ok.b_law (D : Ok K mg) : Binds K (fdA K (He.ga K "law")) ["_law_script"] [] := D.f_law.bindsN fun _ _ _ _ _ _ us hl => match us, hl with | [_], _ => rfl
end
end K71
end

section
set_option maxHeartbeats 4000000
/-! plain mathematics: bits, linear maps on rows of bits, what a polynomial makes of them -/
namespace KM
/-! ### bits -/
theorem lt2 (p : Nat) : p < 2 ^ p := Nat.lt_two_pow_self
theorem bin_ind {P : Nat → Prop} (h0 : P 0) (h : ∀ p, p ≠ 0 → P (p / 2) → P p) : ∀ p, P p := by
  intro p
  induction p using Nat.strongRecOn with
  | _ p ih =>
    by_cases e : p = 0
    · rw [e]; exact h0
    · exact h p e (ih (p / 2) (by omega))
theorem xor_div2 (p q : Nat) : (p ^^^ q) / 2 = p / 2 ^^^ q / 2 := by
  apply Nat.eq_of_testBit_eq
  intro i
  rw [Nat.testBit_xor, Nat.testBit_div_two, Nat.testBit_div_two, Nat.testBit_div_two, Nat.testBit_xor]
theorem odd_tb (p : Nat) : (p % 2 = 1) ↔ p.testBit 0 = true := by
  rw [Nat.testBit_zero]
  simp
theorem xor_cancel (a b : Nat) : a ^^^ (a ^^^ b) = b := by
  rw [← Nat.xor_assoc, Nat.xor_self, Nat.zero_xor]
theorem xor_eq_zero {a b : Nat} (h : a ^^^ b = 0) : a = b := by
  have e : a ^^^ (a ^^^ b) = a := by rw [h, Nat.xor_zero]
  rw [xor_cancel] at e
  exact e.symm
theorem xor4 (a b c d : Nat) : (a ^^^ b) ^^^ (c ^^^ d) = (a ^^^ c) ^^^ (b ^^^ d) := by
  rw [Nat.xor_assoc, Nat.xor_assoc, ← Nat.xor_assoc b c d, Nat.xor_comm b c, Nat.xor_assoc c b d]
theorem two_mul_xor (a b : Nat) : 2 * (a ^^^ b) = 2 * a ^^^ 2 * b := by
  have h : ∀ x : Nat, 2 * x = x <<< 1 := fun x => by rw [Nat.shiftLeft_eq]; omega
  rw [h, h, h, Nat.shiftLeft_xor_distrib]
theorem pow_mul_xor (k a b : Nat) : 2 ^ k * (a ^^^ b) = 2 ^ k * a ^^^ 2 ^ k * b := by
  have h : ∀ x : Nat, 2 ^ k * x = x <<< k := fun x => by rw [Nat.shiftLeft_eq, Nat.mul_comm]
  rw [h, h, h, Nat.shiftLeft_xor_distrib]
theorem mod_xor (n a b : Nat) : (a ^^^ b) % 2 ^ n = a % 2 ^ n ^^^ b % 2 ^ n := Nat.xor_mod_two_pow
/-- the top bits of two numbers cancel -/
theorem xor_top {a b d : Nat} (ha : 2 ^ d ≤ a) (ha' : a < 2 ^ (d + 1)) (hb : 2 ^ d ≤ b) (hb' : b < 2 ^ (d + 1)) : a ^^^ b < 2 ^ d := by
  have top : ∀ x, 2 ^ d ≤ x → x < 2 ^ (d + 1) → x.testBit d = true := fun x h1 h2 => by
    rw [Nat.testBit_eq_decide_div_mod_eq, decide_eq_true_eq]
    have : x / 2 ^ d = 1 := by
      have p : 0 < 2 ^ d := Nat.two_pow_pos d
      rw [Nat.pow_succ] at h2
      apply Nat.le_antisymm
      · exact Nat.le_of_lt_succ (by rw [Nat.div_lt_iff_lt_mul p]; omega)
      · rw [Nat.le_div_iff_mul_le p]; omega
    rw [this]
  apply Nat.lt_pow_two_of_testBit
  intro i hi
  rw [Nat.testBit_xor]
  by_cases e : i = d
  · rw [e, top a ha ha', top b hb hb']; rfl
  · have h : 2 ^ (d + 1) ≤ 2 ^ i := Nat.pow_le_pow_right (by decide) (by omega)
    rw [Nat.testBit_lt_two_pow (Nat.lt_of_lt_of_le ha' h), Nat.testBit_lt_two_pow (Nat.lt_of_lt_of_le hb' h)]; rfl
theorem top_bit {x d : Nat} (h1 : 2 ^ d ≤ x) (h2 : x < 2 ^ (d + 1)) : x.testBit d = true := by
  cases e : x.testBit d with
  | true => rfl
  | false =>
    have : x < 2 ^ d := by
      apply Nat.lt_pow_two_of_testBit
      intro i hi
      by_cases q : i = d
      · rw [q, e]
      · exact Nat.testBit_lt_two_pow (Nat.lt_of_lt_of_le h2 (Nat.pow_le_pow_right (by decide) (by omega)))
    omega
theorem ge_of_bit {x d : Nat} (h : x.testBit d = true) : 2 ^ d ≤ x := Nat.ge_two_pow_of_testBit h
/-- the bit length -/
def blen (x : Nat) : Nat := if x = 0 then 0 else x.log2 + 1
theorem blen_zero : blen 0 = 0 := rfl
theorem blen_lt (x : Nat) : x < 2 ^ blen x := by
  unfold blen
  split
  · omega
  · exact Nat.lt_log2_self
theorem blen_ge {x : Nat} (h : x ≠ 0) : 2 ^ (blen x - 1) ≤ x := by
  unfold blen
  rw [if_neg h]
  exact Nat.log2_self_le h
theorem blen_le {x k : Nat} (h : x < 2 ^ k) : blen x ≤ k := by
  unfold blen
  split
  · omega
  · rename_i e
    have := (Nat.log2_lt e).mpr h
    omega
theorem blen_eq {x d : Nat} (h1 : 2 ^ d ≤ x) (h2 : x < 2 ^ (d + 1)) : blen x = d + 1 := by
  have a := blen_le h2
  have p : 0 < 2 ^ d := Nat.two_pow_pos d
  have b := blen_lt x
  have c : d < blen x := (Nat.pow_lt_pow_iff_right (by decide : 1 < 2)).mp (Nat.lt_of_le_of_lt h1 b)
  omega
theorem blen_pos {x : Nat} (h : x ≠ 0) : 0 < blen x := by
  unfold blen; rw [if_neg h]; omega
theorem blen_zero_iff {x : Nat} : blen x = 0 ↔ x = 0 := by
  constructor
  · intro h
    by_cases e : x = 0
    · exact e
    · have := blen_pos e; omega
  · intro h; rw [h]; rfl
theorem blen_top {x : Nat} (h : x ≠ 0) : x.testBit (blen x - 1) = true := top_bit (blen_ge h) (by
  have := blen_pos h
  rw [Nat.sub_add_cancel this]
  exact blen_lt x)
/-! ### linear maps -/
def Lin (T : Nat → Nat) : Prop := ∀ a b, T (a ^^^ b) = T a ^^^ T b
theorem Lin.zero {T : Nat → Nat} (h : Lin T) : T 0 = 0 := by
  have e := h 0 0
  rw [Nat.xor_self, Nat.xor_self] at e
  exact e
theorem lin_two : Lin (2 * ·) := two_mul_xor
theorem lin_pow (k : Nat) : Lin (2 ^ k * ·) := pow_mul_xor k
theorem lin_mod (n : Nat) : Lin (· % 2 ^ n) := mod_xor n
theorem lin_id : Lin (fun v => v) := fun _ _ => rfl
theorem Lin.comp {S T : Nat → Nat} (hS : Lin S) (hT : Lin T) : Lin (fun v => S (T v)) := fun a b => by
  show S (T (a ^^^ b)) = _
  rw [hT, hS]
theorem Lin.xor {S T : Nat → Nat} (hS : Lin S) (hT : Lin T) : Lin (fun v => S v ^^^ T v) := fun a b => by
  show S (a ^^^ b) ^^^ T (a ^^^ b) = _
  rw [hS, hT, xor4]
theorem lin_zero : Lin (fun _ => 0) := fun _ _ => (Nat.xor_self 0).symm
theorem Lin.ite {S : Nat → Nat} (hS : Lin S) (c : Prop) [Decidable c] : Lin (fun v => if c then S v else 0) := fun a b => by
  by_cases h : c
  · simp only [if_pos h]; exact hS a b
  · simp only [if_neg h]; rw [Nat.xor_self]
theorem ite_xor (c : Prop) [Decidable c] (a b : Nat) : (if c then a ^^^ b else 0) = (if c then a else 0) ^^^ (if c then b else 0) := by
  by_cases h : c
  · simp only [if_pos h]
  · simp only [if_neg h]; rw [Nat.xor_self]
/-- T, k times -/
def itr (T : Nat → Nat) : Nat → Nat → Nat
  | 0, v => v
  | k + 1, v => itr T k (T v)
theorem itr_succ (T : Nat → Nat) : ∀ (k v : Nat), itr T (k + 1) v = T (itr T k v)
  | 0, _ => rfl
  | k + 1, v => by
    show itr T (k + 1) (T v) = T (itr T k (T v))
    exact itr_succ T k (T v)
theorem itr_add (T : Nat → Nat) : ∀ (j k v : Nat), itr T (j + k) v = itr T j (itr T k v)
  | j, 0, v => rfl
  | j, k + 1, v => by
    show itr T (j + k) (T v) = itr T j (itr T k (T v))
    exact itr_add T j k (T v)
theorem itr_lin {T : Nat → Nat} (h : Lin T) : ∀ k, Lin (itr T k)
  | 0 => lin_id
  | k + 1 => fun a b => by
    show itr T k (T (a ^^^ b)) = itr T k (T a) ^^^ itr T k (T b)
    rw [h, itr_lin h k]
theorem itr_comm {S T : Nat → Nat} (h : ∀ v, S (T v) = T (S v)) : ∀ k v, S (itr T k v) = itr T k (S v)
  | 0, _ => rfl
  | k + 1, v => by
    show S (itr T k (T v)) = itr T k (T (S v))
    rw [itr_comm h k, h]
theorem itr_two : ∀ k v, itr (2 * ·) k v = 2 ^ k * v
  | 0, v => by show v = 2 ^ 0 * v; omega
  | k + 1, v => by
    show itr (2 * ·) k (2 * v) = 2 ^ (k + 1) * v
    rw [itr_two k, Nat.pow_succ, Nat.mul_assoc]
theorem itr_lt {T : Nat → Nat} {n : Nat} (hT : ∀ v, T v < 2 ^ n) : ∀ k v, v < 2 ^ n → itr T k v < 2 ^ n
  | 0, _, h => h
  | k + 1, v, _ => itr_lt hT k (T v) (hT v)
theorem itr_eq {S T : Nat → Nat} {n : Nat} (h : ∀ v, v < 2 ^ n → S v = T v) (hb : ∀ v, v < 2 ^ n → T v < 2 ^ n) : ∀ k v, v < 2 ^ n → itr S k v = itr T k v
  | 0, _, _ => rfl
  | k + 1, v, hv => by
    show itr S k (S v) = itr T k (T v)
    rw [h v hv]
    exact itr_eq h hb k (T v) (hb v hv)
/-! ### what a polynomial makes of a row -/
def actF (T : Nat → Nat) : Nat → Nat → Nat → Nat
  | 0, _, _ => 0
  | f + 1, p, v => if p = 0 then 0 else (if p % 2 = 1 then v else 0) ^^^ actF T f (p / 2) (T v)
theorem actF_zero (T : Nat → Nat) : ∀ f v, actF T f 0 v = 0
  | 0, _ => rfl
  | f + 1, v => rfl
theorem actF_fuel (T : Nat → Nat) : ∀ f g p v, p < 2 ^ f → p < 2 ^ g → actF T f p v = actF T g p v
  | 0, g, p, v, h, _ => by
    have e : p = 0 := by omega
    rw [e, actF_zero, actF_zero]
  | f + 1, 0, p, v, _, h => by
    have e : p = 0 := by omega
    rw [e, actF_zero, actF_zero]
  | f + 1, g + 1, p, v, h1, h2 => by
    show (if p = 0 then 0 else _ ^^^ actF T f (p / 2) (T v)) = (if p = 0 then 0 else _ ^^^ actF T g (p / 2) (T v))
    rw [actF_fuel T f g (p / 2) (T v) (by rw [Nat.pow_succ] at h1; omega) (by rw [Nat.pow_succ] at h2; omega)]
def Act (T : Nat → Nat) (p v : Nat) : Nat := actF T p p v
theorem act_of {T : Nat → Nat} {f p : Nat} (v : Nat) (h : p < 2 ^ f) : actF T f p v = Act T p v := actF_fuel T f p p v h (lt2 p)
theorem act_zero (T : Nat → Nat) (v : Nat) : Act T 0 v = 0 := rfl
theorem act_step (T : Nat → Nat) (p v : Nat) : Act T p v = (if p % 2 = 1 then v else 0) ^^^ Act T (p / 2) (T v) := by
  by_cases e : p = 0
  · subst e
    show 0 = 0 ^^^ 0
    rfl
  have h : p < 2 ^ (p + 1) := Nat.lt_trans (lt2 p) (by rw [Nat.pow_succ]; have := Nat.two_pow_pos p; omega)
  rw [← act_of v h]
  show (if p = 0 then 0 else _ ^^^ actF T p (p / 2) (T v)) = _
  rw [if_neg e, act_of (T v) (show p / 2 < 2 ^ p by have := lt2 p; omega)]
theorem act_one (T : Nat → Nat) (v : Nat) : Act T 1 v = v := by
  rw [act_step]
  show v ^^^ Act T 0 (T v) = v
  rw [act_zero, Nat.xor_zero]
theorem act_two (T : Nat → Nat) (p v : Nat) : Act T (2 * p) v = Act T p (T v) := by
  rw [act_step, if_neg (by omega), Nat.zero_xor, show 2 * p / 2 = p by omega]
theorem act_lin {T : Nat → Nat} (h : Lin T) : ∀ p, Lin (Act T p) := by
  apply bin_ind
  · intro a b; rw [act_zero, act_zero, act_zero, Nat.xor_self]
  · intro p _ ih a b
    rw [act_step T p (a ^^^ b), act_step T p a, act_step T p b, h, ih, ite_xor, xor4]
theorem act_v0 {T : Nat → Nat} (h : Lin T) (p : Nat) : Act T p 0 = 0 := (act_lin h p).zero
theorem act_xor (T : Nat → Nat) : ∀ p q v, Act T (p ^^^ q) v = Act T p v ^^^ Act T q v := by
  apply bin_ind (P := fun p => ∀ q v, Act T (p ^^^ q) v = Act T p v ^^^ Act T q v)
  · intro q v
    rw [Nat.zero_xor, act_zero, Nat.zero_xor]
  · intro p _ ih q v
    rw [act_step T (p ^^^ q), act_step T p, act_step T q, xor_div2, ih, xor4]
    congr 1
    have e : (p ^^^ q) % 2 = (p % 2) ^^^ (q % 2) := mod_xor 1 p q
    rw [e]
    rcases Nat.mod_two_eq_zero_or_one p with a | a <;> rcases Nat.mod_two_eq_zero_or_one q with b | b <;> rw [a, b] <;> simp
theorem act_comm {S T : Nat → Nat} (hS : Lin S) (h : ∀ v, S (T v) = T (S v)) : ∀ p v, Act T p (S v) = S (Act T p v) := by
  apply bin_ind (P := fun p => ∀ v, Act T p (S v) = S (Act T p v))
  · intro v; rw [act_zero, act_zero, hS.zero]
  · intro p _ ih v
    rw [act_step T p (S v), act_step T p v, hS, ← h, ih]
    congr 1
    split
    · rfl
    · exact hS.zero.symm
theorem act_T {T : Nat → Nat} (h : Lin T) (p v : Nat) : Act T p (T v) = T (Act T p v) := act_comm h (fun _ => rfl) p v
theorem act_pow (T : Nat → Nat) : ∀ k v, Act T (2 ^ k) v = itr T k v
  | 0, v => act_one T v
  | k + 1, v => by
    rw [Nat.pow_succ, Nat.mul_comm, act_two, act_pow T k]
    rfl
theorem act_shl (T : Nat → Nat) : ∀ k p v, Act T (2 ^ k * p) v = Act T p (itr T k v)
  | 0, p, v => by rw [Nat.pow_zero, Nat.one_mul]; rfl
  | k + 1, p, v => by
    rw [Nat.pow_succ, Nat.mul_comm (2 ^ k) 2, Nat.mul_assoc, act_two, act_shl T k]
    rfl
theorem act_itr {T : Nat → Nat} (h : Lin T) (p k v : Nat) : Act T p (itr T k v) = itr T k (Act T p v) := act_comm (itr_lin h k) (fun v => itr_succ T k v) p v
theorem act_lt {T : Nat → Nat} {n : Nat} (hT : ∀ v, v < 2 ^ n → T v < 2 ^ n) : ∀ p v, v < 2 ^ n → Act T p v < 2 ^ n := by
  apply bin_ind (P := fun p => ∀ v, v < 2 ^ n → Act T p v < 2 ^ n)
  · intro v _; rw [act_zero]; exact Nat.two_pow_pos n
  · intro p _ ih v hv
    rw [act_step]
    apply Nat.xor_lt_two_pow
    · split
      · exact hv
      · exact Nat.two_pow_pos n
    · exact ih _ (hT v hv)
theorem act_eq {S T : Nat → Nat} {n : Nat} (h : ∀ v, v < 2 ^ n → S v = T v) (hb : ∀ v, v < 2 ^ n → T v < 2 ^ n) : ∀ p v, v < 2 ^ n → Act S p v = Act T p v := by
  apply bin_ind (P := fun p => ∀ v, v < 2 ^ n → Act S p v = Act T p v)
  · intro v _; rfl
  · intro p _ ih v hv
    rw [act_step S p v, act_step T p v, h v hv, ih _ (hb v hv)]
/-! ### products -/
def cl (a b : Nat) : Nat := Act (2 * ·) b a
theorem cl_step (a b : Nat) : cl a b = (if b % 2 = 1 then a else 0) ^^^ cl (2 * a) (b / 2) := act_step _ b a
theorem cl_zero (a : Nat) : cl a 0 = 0 := rfl
theorem act_cl {T : Nat → Nat} (h : Lin T) : ∀ q p v, Act T (cl p q) v = Act T q (Act T p v) := by
  apply bin_ind (P := fun q => ∀ p v, Act T (cl p q) v = Act T q (Act T p v))
  · intro p v; rw [cl_zero, act_zero, act_zero]
  · intro q _ ih p v
    rw [cl_step, act_xor, ih, act_two, act_T h, act_step T q]
    congr 1
    split
    · rfl
    · exact act_zero T v
theorem cl_xor (a p q : Nat) : cl a (p ^^^ q) = cl a p ^^^ cl a q := act_xor _ p q a
theorem cl_lin (q : Nat) : Lin (fun a => cl a q) := act_lin lin_two q
theorem cl_pow (a k : Nat) : cl a (2 ^ k) = 2 ^ k * a := by
  unfold cl
  rw [act_pow, itr_two]
theorem cl_shl (k a q : Nat) : cl (2 ^ k * a) q = 2 ^ k * cl a q := act_comm (T := (2 * ·)) (lin_pow k) (fun v => Nat.mul_left_comm (2 ^ k) 2 v) q a
theorem cl_even {g : Nat} (h : g % 2 = 0) (q : Nat) : cl g q % 2 = 0 := by
  have e : g = 2 ^ 1 * (g / 2) := by omega
  rw [e, cl_shl]
  omega
/-! ### the rest by a polynomial -/
theorem divides {d g : Nat} (h1 : 2 ^ d ≤ g) (h2 : g < 2 ^ (d + 1)) : ∀ p, ∃ q r, p = cl g q ^^^ r ∧ r < 2 ^ d := by
  intro p
  induction p using Nat.strongRecOn with
  | _ p ih =>
    by_cases hp : p < 2 ^ d
    · exact ⟨0, p, by rw [cl_zero, Nat.zero_xor], hp⟩
    · have p0 : p ≠ 0 := fun e => by
        rw [e] at hp
        exact hp (Nat.two_pow_pos d)
      have bl := blen_lt p
      have bg := blen_ge p0
      have bp := blen_pos p0
      have hd : d < blen p := (Nat.pow_lt_pow_iff_right (by decide : 1 < 2)).mp (by omega)
      obtain ⟨e, he⟩ : ∃ e, blen p = e + 1 := ⟨blen p - 1, by omega⟩
      rw [he] at bl bg hd
      rw [Nat.add_sub_cancel] at bg
      obtain ⟨k, rfl⟩ : ∃ k, e = k + d := ⟨e - d, by omega⟩
      have s1 : 2 ^ (k + d) ≤ 2 ^ k * g := by rw [Nat.pow_add]; exact Nat.mul_le_mul_left _ h1
      have s2 : 2 ^ k * g < 2 ^ (k + d + 1) := by
        rw [Nat.add_assoc, Nat.pow_add 2 k]
        exact Nat.mul_lt_mul_of_pos_left h2 (Nat.two_pow_pos k)
      have lt := xor_top bg bl s1 s2
      obtain ⟨q, r, e, hr⟩ := ih (p ^^^ 2 ^ k * g) (by omega)
      refine ⟨2 ^ k ^^^ q, r, ?_, hr⟩
      rw [cl_xor, cl_pow, Nat.xor_assoc, ← e, Nat.xor_comm p, xor_cancel]
/-! ### the least polynomial -/
/-- g, of degree d, is the least polynomial by which T makes v nought -/
structure Mn (T : Nat → Nat) (v g d : Nat) : Prop where
  lo : 2 ^ d ≤ g
  hi : g < 2 ^ (d + 1)
  ann : Act T g v = 0
  min : ∀ p, p < 2 ^ d → Act T p v = 0 → p = 0
section
variable {T : Nat → Nat} {v g d : Nat}
theorem Mn.ne (m : Mn T v g d) : g ≠ 0 := fun e => by
  have := m.lo
  have := Nat.two_pow_pos d
  omega
theorem Mn.dvd (h : Lin T) (m : Mn T v g d) {p : Nat} (hp : Act T p v = 0) : ∃ q, p = cl g q := by
  obtain ⟨q, r, e, hr⟩ := divides m.lo m.hi p
  rw [e, act_xor, act_cl h, m.ann, act_v0 h, Nat.zero_xor] at hp
  exact ⟨q, by rw [e, m.min r hr hp, Nat.xor_zero]⟩
theorem Mn.uniq {g' d' : Nat} (m : Mn T v g d) (m' : Mn T v g' d') : g = g' := by
  have one : ∀ {g d g' d' : Nat}, Mn T v g d → Mn T v g' d' → d < d' → False := fun {g d g' d'} m m' h => by
    have : g < 2 ^ d' := Nat.lt_of_lt_of_le m.hi (Nat.pow_le_pow_right (by decide) h)
    exact m.ne (m'.min g this m.ann)
  rcases Nat.lt_trichotomy d d' with h | h | h
  · exact (one m m' h).elim
  · subst h
    apply xor_eq_zero
    apply m.min _ (xor_top m.lo m.hi m'.lo m'.hi)
    rw [act_xor, m.ann, m'.ann, Nat.xor_self]
  · exact (one m' m h).elim
/-- behind its tail -/
theorem Mn.later {t c : Nat} (m : Mn T v g d) (e : g = 2 ^ t * c) (ht : t ≤ d) : Mn T (itr T t v) c (d - t) := by
  have p := Nat.two_pow_pos t
  have ed : 2 ^ d = 2 ^ t * 2 ^ (d - t) := by rw [← Nat.pow_add]; congr 1; omega
  have lo := m.lo
  have hi := m.hi
  rw [Nat.pow_succ] at hi
  rw [e, ed] at lo hi
  refine ⟨Nat.le_of_mul_le_mul_left lo p, ?_, ?_, fun q hq h => ?_⟩
  · rw [Nat.pow_succ]
    rw [Nat.mul_assoc] at hi
    exact Nat.lt_of_mul_lt_mul_left hi
  · rw [← act_shl, ← e]
    exact m.ann
  · rw [← act_shl] at h
    have z := m.min _ (by rw [ed]; exact Nat.mul_lt_mul_of_pos_left hq p) h
    rcases Nat.mul_eq_zero.mp z with z | z
    · omega
    · exact z
/-- a least polynomial with the power 0: the row comes by any number of beats -/
theorem Mn.comes (h : Lin T) (m : Mn T v g d) (o : g % 2 = 1) : ∀ k, ∃ s, v = itr T k (Act T s v) := by
  obtain ⟨s, es⟩ : ∃ s, v = T (Act T s v) := by
    refine ⟨g / 2, ?_⟩
    have a := m.ann
    rw [act_step, if_pos o, act_T h] at a
    exact xor_eq_zero a
  intro k
  induction k with
  | zero => exact ⟨1, by rw [act_one]; rfl⟩
  | succ k ih =>
    obtain ⟨s', e'⟩ := ih
    refine ⟨cl s s', ?_⟩
    rw [act_cl h]
    show v = itr T k (T (Act T s' (Act T s v)))
    rw [← act_T h, ← es, ← e']
theorem odd_part : ∀ g, g ≠ 0 → ∃ t c, g = 2 ^ t * c ∧ c % 2 = 1 := by
  apply bin_ind (P := fun g => g ≠ 0 → ∃ t c, g = 2 ^ t * c ∧ c % 2 = 1)
  · intro h; exact absurd rfl h
  · intro g h ih _
    by_cases o : g % 2 = 1
    · exact ⟨0, g, by omega, o⟩
    · obtain ⟨t, c, e, hc⟩ := ih (by omega)
      refine ⟨t + 1, c, ?_, hc⟩
      rw [Nat.pow_succ, Nat.mul_comm (2 ^ t) 2, Nat.mul_assoc, ← e]
      omega
theorem pow_le_of_dvd {g d t c : Nat} (hi : g < 2 ^ (d + 1)) (e : g = 2 ^ t * c) (hc : c % 2 = 1) : t ≤ d := by
  have : 2 ^ t < 2 ^ (d + 1) := by
    refine Nat.lt_of_le_of_lt ?_ hi
    rw [e]
    exact Nat.le_mul_of_pos_right _ (by omega)
  have := (Nat.pow_lt_pow_iff_right (by decide : 1 < 2)).mp this
  omega
/-- a row that comes by n beats from one with a least polynomial of a degree up to n has one with the power 0 -/
theorem Mn.odd_of {n y h' d' : Nat} (h : Lin T) (m : Mn T v g d) (my : Mn T y h' d') (hd : d' ≤ n) (e : v = itr T n y) : g % 2 = 1 := by
  obtain ⟨t, c, e1, hc⟩ := odd_part h' my.ne
  have ht := pow_le_of_dvd my.hi e1 hc
  have a := my.ann
  rw [e1, act_shl] at a
  have b : Act T c v = 0 := by
    rw [e, show n = (n - t) + t by omega, itr_add, act_itr h, a]
    exact (itr_lin h _).zero
  obtain ⟨q, eq⟩ := m.dvd h b
  rcases Nat.mod_two_eq_zero_or_one g with o | o
  · have := cl_even o q
    rw [← eq] at this
    omega
  · exact o
/-- ahead of its tail a row is not what it is behind it -/
theorem Mn.sooner {t c b : Nat} (h : Lin T) (m : Mn T v g d) (e : g = 2 ^ t * c) (hb : b < t) : itr T b v ≠ itr T t v := by
  intro q
  have a : Act T (2 ^ b ^^^ 2 ^ t) v = 0 := by
    rw [act_xor, act_pow, act_pow, q, Nat.xor_self]
  obtain ⟨s, es⟩ := m.dvd h a
  rw [e, cl_shl] at es
  have l : (2 ^ b ^^^ 2 ^ t).testBit b = true := by
    rw [Nat.testBit_xor, Nat.testBit_two_pow_self, Nat.testBit_two_pow_of_ne (by omega)]; rfl
  have r : (2 ^ t * cl c s).testBit b = false := by
    rw [Nat.testBit_two_pow_mul]
    simp; omega
  rw [es, r] at l
  cases l
end
end KM
end

section
set_option maxHeartbeats 4000000
/-! the program's functions as plain functions of numbers -/
namespace KM
/-! ### bits.py -/
def xrl (l : List Nat) : Nat := l.foldl (fun a p => a ^^^ (1 <<< p)) 0
def pw (b : Nat) : List Nat := (List.range (blen b)).filter fun i => b.testBit i
def parF : Nat → Nat → Nat
  | 0, _ => 0
  | f + 1, b => if b = 0 then 0 else (b % 2) ^^^ parF f (b / 2)
def par (b : Nat) : Nat := parF (blen b) b
def pdv (o : Nat) : Nat → Nat × Nat → Nat × Nat
  | 0, s => s
  | f + 1, s => if blen o ≤ blen s.2 then pdv o f (s.1 ^^^ (1 <<< (blen s.2 - blen o)), s.2 ^^^ (o <<< (blen s.2 - blen o))) else s
def parted (a o : Nat) : Nat × Nat := pdv o (blen a) (0, a)
def md (a o : Nat) : Nat := (parted a o).2
def powL (m : Nat) : Nat → Nat → Nat → Nat → Nat
  | 0, fo, _, _ => fo
  | f + 1, fo, he, re => if re = 0 then fo else powL m f (if re % 2 = 1 then md (cl fo he) m else fo) (md (cl he he) m) (re / 2)
def powr (a times m : Nat) : Nat := powL m (blen times) (md 1 m) (md a m) times
/-! ### clearing.py -/
abbrev Ld := List (Nat × Nat × Nat)
def getL (L : Ld) (k : Nat) : Option (Nat × Nat) := (L.find? fun e => decide (e.1 = k)).map (·.2)
def ledF (L : Ld) : Nat → Nat × Nat → Nat × Nat
  | 0, s => s
  | k + 1, s => ledF L k (if s.1.testBit k = true then (match getL L k with
    | some e => (s.1 ^^^ e.1, s.2 ^^^ e.2)
    | none => s) else s)
def led (L : Ld) (row : Nat) : Nat × Nat := ledF L (blen row) (row, 0)
structure Spn where
  leads : Ld
  idle : List Nat
def Spn.put (s : Spn) (row num : Nat) : Spn :=
  if (led s.leads row).1 = 0 then ⟨s.leads, s.idle ++ [(led s.leads row).2 ^^^ num]⟩ else ⟨s.leads ++ [(blen (led s.leads row).1 - 1, (led s.leads row).1, (led s.leads row).2 ^^^ num)], s.idle⟩
def Spn.putAll (s : Spn) : Nat → List Nat → Spn
  | _, [] => s
  | i, r :: rs => (s.put r (1 <<< i)).putAll (i + 1) rs
def Spn.of (rows : List Nat) : Spn := Spn.putAll ⟨[], []⟩ 0 rows
def Spn.num (s : Spn) (row : Nat) : Option Nat := if (led s.leads row).1 = 0 then some (led s.leads row).2 else none
/-- the leading bits, ascending -/
def keysL (L : Ld) : List Nat := (L.map (·.1)).mergeSort fun a b => decide (a ≤ b)
def plainGo (L : Ld) : List Nat → List (Nat × Nat) → List (Nat × Nat)
  | [], found => found
  | k :: ks, found => plainGo L ks (found ++ [(k, (found.filter fun e => ((getL L k).getD (0, 0)).1.testBit e.1).foldl (fun r e => r ^^^ e.2) ((getL L k).getD (0, 0)).1)])
def plainM (L : Ld) : List (Nat × Nat) := plainGo L (keysL L) []
def barRest (pl : List (Nat × Nat)) (row : Nat) : Nat := pl.reverse.foldl (fun r e => if r.testBit e.1 = true then r ^^^ e.2 else r) row
def barMark (pl : List (Nat × Nat)) (bit : Nat) : Nat := pl.foldl (fun m e => if e.2.testBit bit = true then m ||| (1 <<< e.1) else m) (1 <<< bit)
def barFor (L : Ld) (row : Nat) : Nat := barMark (plainM L) (blen (barRest (plainM L) row) - 1)
/-! ### rows.py -/
def rotX (N b : Nat) (a o : Nat) : Nat := a ^^^ (b >>> o) ^^^ ((b <<< (N - o)) &&& ((1 <<< N) - 1))
def beatBy (off N b : Nat) : Nat := (pw off).foldl (rotX N b) 0
def unf (n b : Nat) : Nat := (b <<< 1) ||| xrl ((pw b).map fun p => 2 * n + 1 - p)
def byOff (ring : Bool) (off n b : Nat) : Nat := if ring = true then beatBy off n b else ((beatBy off (2 * n + 2) (unf n b)) >>> 1) &&& ((1 <<< n) - 1)
def wd (ring : Bool) (n : Nat) : Nat := if ring = true then n else 2 * n + 2
def onceM (rule : List Int) (N : Nat) : Nat := xrl (rule.map fun o => (o % (N : Int)).toNat)
def offB (o N beats : Nat) : Nat := powr o beats ((1 <<< N) ||| 1)
def cols (ring : Bool) (o n beats : Nat) : List Nat := (List.range n).map fun p => byOff ring (offB o (wd ring n) beats) n (1 <<< p)
/-! ### own.py -/
def ownF (T : Nat → Nat) : Nat → Spn → Nat → Nat → Nat
  | 0, s, _, _ => s.idle.headD 0
  | f + 1, s, here, b => if s.idle = [] then ownF T f (s.put here (1 <<< b)) (T here) (b + 1) else s.idle.headD 0
def ownM (T : Nat → Nat) (n v : Nat) : Nat := ownF T (n + 2) ⟨[], []⟩ v 0
/-! ### plain.py, measures.py -/
def leastF (b : Nat) : Nat → Nat → Nat
  | 0, _ => b
  | f + 1, d => if 2 * (blen d - 1) ≤ blen b - 1 then (if md b d = 0 then d else leastF b f (d + 1 + (if 2 < d then 1 else 0))) else b
def least (b : Nat) : Nat := leastF b b 2
def stripF (p : Nat) : Nat → Nat × Nat → Nat × Nat
  | 0, s => s
  | f + 1, s => if md s.1 p = 0 then stripF p f ((parted s.1 p).1, s.2 + 1) else s
def factF : Nat → Nat → List (Nat × Nat) → List (Nat × Nat)
  | 0, _, acc => acc
  | f + 1, r, acc => if 1 < blen r then factF f (stripF (least r) (blen r) (r, 0)).1 (acc ++ [(least r, (stripF (least r) (blen r) (r, 0)).2)]) else acc
def factorsM (b : Nat) : List (Nat × Nat) := factF (blen b) b []
def stripP (p : Nat) : Nat → Nat → Nat
  | 0, r => r
  | f + 1, r => if r % p = 0 then stripP p f (r / p) else r
def primF : Nat → List Nat → Nat → Nat → List Nat × Nat
  | 0, fo, r, _ => (fo, r)
  | f + 1, fo, r, p => if p * p ≤ r then (if r % p = 0 then primF f (fo ++ [p]) (stripP p r r) (p + 1) else primF f fo r (p + 1)) else (fo, r)
def primesM (n : Nat) : List Nat := if 1 < (primF n [] n 2).2 then (primF n [] n 2).1 ++ [(primF n [] n 2).2] else (primF n [] n 2).1
def pmF (g p : Nat) : Nat → Nat → Nat
  | 0, n => n
  | f + 1, n => if n % p = 0 ∧ powr 2 (n / p) g = md 1 g then pmF g p f (n / p) else n
def plainMeasure (g : Nat) : Nat := (primesM ((1 <<< (blen g - 1)) - 1)).foldl (fun n p => pmF g p n n) ((1 <<< (blen g - 1)) - 1)
def lcmL (l : List Nat) : Nat := l.foldl (fun a n => a / Nat.gcd a n * n) 1
def twosF (t : Nat) : Nat → Nat → Nat
  | 0, a => a
  | f + 1, a => if a < t then twosF t f (2 * a) else a
def twos (t : Nat) : Nat := twosF t t 1
def coreF : Nat → Nat → Nat
  | 0, r => r
  | f + 1, r => if r % 2 = 0 then coreF f (r / 2) else r
def core (b : Nat) : Nat := coreF (blen b) b
def measuredM (b : Nat) : List (Nat × Nat × Nat) := (factorsM (core b)).map fun e => (e.1, e.2, plainMeasure e.1)
def maxL (l : List Nat) : Nat := l.foldl max 1
def measureM (b : Nat) : Nat := lcmL ((measuredM b).map fun e => e.2.2) * twos (maxL ((measuredM b).map fun e => e.2.1))
/-! ### loops.py -/
def tailM (b : Nat) : Nat := blen b - blen (core b)
def periodM (b : Nat) : Nat := measureM (core b)
def divs (n : Nat) : List Nat := (List.range (n + 1)).filter fun d => decide (0 < d) && decide (n % d = 0)
def sameM (ring : Bool) (o n beats : Nat) : Nat := 1 <<< (n - (Spn.of ((cols ring o n beats).zipIdx.map fun e => e.1 ^^^ (1 <<< e.2))).leads.length)
end KM
end

section
set_option maxHeartbeats 4000000
/-! plain mathematics: the rest by a polynomial, powers -/
namespace KM
theorem shl_lt {o r : Nat} (ho : o ≠ 0) (h : blen o ≤ blen r) : r ^^^ (o <<< (blen r - blen o)) < 2 ^ (blen r - 1) := by
  have bo := blen_pos ho
  have hr : r ≠ 0 := fun e => by rw [e, blen_zero] at h; omega
  obtain ⟨e, he⟩ : ∃ e, blen r = e + 1 := ⟨blen r - 1, by omega⟩
  obtain ⟨d, hd⟩ : ∃ d, blen o = d + 1 := ⟨blen o - 1, by omega⟩
  have r1 := blen_ge hr
  have r2 := blen_lt r
  have o1 := blen_ge ho
  have o2 := blen_lt o
  rw [he] at r1 r2 h
  rw [hd] at o1 o2 h
  rw [he, hd]
  obtain ⟨k, rfl⟩ : ∃ k, e = k + d := ⟨e - d, by omega⟩
  rw [show k + d + 1 - (d + 1) = k by omega, Nat.shiftLeft_eq]
  rw [Nat.add_sub_cancel] at r1 o1 ⊢
  refine xor_top r1 r2 ?_ ?_
  · rw [Nat.mul_comm, Nat.pow_add]; exact Nat.mul_le_mul_left _ o1
  · rw [Nat.mul_comm, Nat.add_assoc, Nat.pow_add 2 k]
    exact Nat.mul_lt_mul_of_pos_left o2 (Nat.two_pow_pos k)
theorem shl_blen {o r : Nat} (ho : o ≠ 0) (h : blen o ≤ blen r) : blen (r ^^^ (o <<< (blen r - blen o))) < blen r := by
  have := blen_le (shl_lt ho h)
  have := blen_pos ho
  omega
theorem pdv_stop {o : Nat} {s : Nat × Nat} (h : ¬ blen o ≤ blen s.2) : ∀ f, pdv o f s = s
  | 0 => rfl
  | f + 1 => by
    show (if blen o ≤ blen s.2 then _ else s) = s
    rw [if_neg h]
theorem pdv_step {o f : Nat} {s : Nat × Nat} (h : blen o ≤ blen s.2) : pdv o (f + 1) s = pdv o f (s.1 ^^^ (1 <<< (blen s.2 - blen o)), s.2 ^^^ (o <<< (blen s.2 - blen o))) := by
  show (if blen o ≤ blen s.2 then _ else s) = _
  rw [if_pos h]
theorem pdv_spec {o : Nat} (ho : o ≠ 0) : ∀ (f : Nat) (s : Nat × Nat), blen s.2 ≤ f → cl o (pdv o f s).1 ^^^ (pdv o f s).2 = cl o s.1 ^^^ s.2 ∧ blen (pdv o f s).2 < blen o
  | 0, s, h => ⟨rfl, by
    have := blen_pos ho
    show blen s.2 < blen o
    omega⟩
  | f + 1, s, h => by
    by_cases c : blen o ≤ blen s.2
    · rw [pdv_step c]
      have b := shl_blen ho c
      obtain ⟨e1, e2⟩ := pdv_spec ho f (s.1 ^^^ (1 <<< (blen s.2 - blen o)), s.2 ^^^ (o <<< (blen s.2 - blen o))) (by show blen (s.2 ^^^ _) ≤ f; omega)
      refine ⟨?_, e2⟩
      rw [e1]
      show cl o (s.1 ^^^ _) ^^^ (s.2 ^^^ _) = _
      rw [cl_xor, Nat.shiftLeft_eq, Nat.one_mul, cl_pow, Nat.shiftLeft_eq, Nat.mul_comm o, xor4, Nat.xor_self, Nat.xor_zero]
    · rw [pdv_stop c]
      exact ⟨rfl, by omega⟩
theorem parted_spec (a : Nat) {o : Nat} (ho : o ≠ 0) : a = cl o (parted a o).1 ^^^ md a o ∧ blen (md a o) < blen o := by
  obtain ⟨e1, e2⟩ := pdv_spec ho (blen a) (0, a) (Nat.le_refl _)
  refine ⟨?_, e2⟩
  rw [cl_zero, Nat.zero_xor] at e1
  exact e1.symm
theorem md_lt (a : Nat) {o n : Nat} (ho : o ≠ 0) (h : o < 2 ^ (n + 1)) : md a o < 2 ^ n := by
  have h1 := (parted_spec a ho).2
  have h2 := blen_le h
  exact Nat.lt_of_lt_of_le (blen_lt _) (Nat.pow_le_pow_right (by decide) (by omega))
theorem cl_lt {i : Nat} : ∀ (j : Nat) (a b : Nat), a < 2 ^ i → b < 2 ^ j → cl a b < 2 ^ (i + j) := by
  intro j
  induction j generalizing i with
  | zero =>
    intro a b _ hb
    have : b = 0 := by omega
    rw [this, cl_zero]
    exact Nat.two_pow_pos _
  | succ j ih =>
    intro a b ha hb
    rw [cl_step]
    apply Nat.xor_lt_two_pow
    · have : a < 2 ^ (i + (j + 1)) := Nat.lt_of_lt_of_le ha (Nat.pow_le_pow_right (by decide) (by omega))
      split
      · exact this
      · exact Nat.two_pow_pos _
    · have := ih (i := i + 1) (2 * a) (b / 2) (by rw [Nat.pow_succ]; omega) (by rw [Nat.pow_succ] at hb; omega)
      rwa [show i + 1 + j = i + (j + 1) by omega] at this
theorem powL_zero (m fo he : Nat) : ∀ f, powL m f fo he 0 = fo
  | 0 => rfl
  | f + 1 => rfl
theorem powL_step {m f fo he re : Nat} (h : re ≠ 0) : powL m (f + 1) fo he re = powL m f (if re % 2 = 1 then md (cl fo he) m else fo) (md (cl he he) m) (re / 2) := by
  show (if re = 0 then fo else _) = _
  rw [if_neg h]
theorem powL_fuel (m : Nat) : ∀ (f g fo he re : Nat), blen re ≤ f → blen re ≤ g → powL m f fo he re = powL m g fo he re
  | 0, g, fo, he, re, h, _ => by
    have e : re = 0 := blen_zero_iff.mp (by omega)
    rw [e, powL_zero, powL_zero]
  | f + 1, 0, fo, he, re, _, h => by
    have e : re = 0 := blen_zero_iff.mp (by omega)
    rw [e, powL_zero, powL_zero]
  | f + 1, g + 1, fo, he, re, h1, h2 => by
    by_cases e : re = 0
    · rw [e, powL_zero, powL_zero]
    · rw [powL_step e, powL_step e]
      have : blen (re / 2) < blen re := by
        have p := blen_pos e
        have l := blen_lt re
        obtain ⟨j, ej⟩ : ∃ j, blen re = j + 1 := ⟨_, (Nat.sub_add_cancel p).symm⟩
        rw [ej, Nat.pow_succ] at l
        rw [ej]
        exact Nat.lt_succ_of_le (blen_le (by omega))
      exact powL_fuel m f g _ _ _ (by omega) (by omega)
end KM
end

section
set_option maxHeartbeats 4000000
/-! plain mathematics: sums of rows -/
namespace KM
theorem tbx (a b i : Nat) : (a ^^^ b).testBit i = (a.testBit i ^^ b.testBit i) := Nat.testBit_xor a b i
theorem tb_ge {a k i : Nat} (h : a < 2 ^ k) (hi : k ≤ i) : a.testBit i = false := Nat.testBit_lt_two_pow (Nat.lt_of_lt_of_le h (Nat.pow_le_pow_right (by decide) hi))
/-- one step of the reduction -/
def stp (L : Ld) (k x : Nat) : Nat := if x.testBit k = true then x ^^^ ((getL L k).getD (0, 0)).1 else x
theorem stp_eq (L : Ld) (k x : Nat) : stp L k x = x ^^^ (if x.testBit k = true then ((getL L k).getD (0, 0)).1 else 0) := by
  unfold stp
  split
  · rfl
  · rw [Nat.xor_zero]
theorem stp_lin (L : Ld) (k : Nat) : Lin (stp L k) := fun a b => by
  rw [stp_eq, stp_eq, stp_eq, xor4]
  congr 1
  rw [tbx]
  cases a.testBit k <;> cases b.testBit k <;> simp
def red (L : Ld) : Nat → Nat → Nat
  | 0, x => x
  | k + 1, x => red L k (stp L k x)
theorem red_lin (L : Ld) : ∀ k, Lin (red L k)
  | 0 => lin_id
  | k + 1 => (red_lin L k).comp (stp_lin L k)
theorem ledF_fst (L : Ld) : ∀ (k r n : Nat), (ledF L k (r, n)).1 = red L k r
  | 0, _, _ => rfl
  | k + 1, r, n => by
    show (ledF L k (if r.testBit k = true then (match getL L k with
      | some e => (r ^^^ e.1, n ^^^ e.2)
      | none => (r, n)) else (r, n))).1 = red L k (stp L k r)
    unfold stp
    by_cases h : r.testBit k = true
    · rw [if_pos h, if_pos h]
      cases g : getL L k with
      | none =>
        rw [ledF_fst L k]
        show red L k r = red L k (r ^^^ 0)
        rw [Nat.xor_zero]
      | some e => rw [ledF_fst L k]; rfl
    · rw [if_neg h, if_neg h, ledF_fst L k]
/-- each lead has its bit as the top one -/
def LOk (L : Ld) : Prop := ∀ k e, getL L k = some e → e.1.testBit k = true ∧ e.1 < 2 ^ (k + 1)
theorem stp_hi {L : Ld} (h : LOk L) {k i : Nat} (x : Nat) (hi : k < i) : (stp L k x).testBit i = x.testBit i := by
  unfold stp
  split
  · rw [tbx]
    cases g : getL L k with
    | none => simp
    | some e =>
      show (_ ^^ e.1.testBit i) = _
      rw [tb_ge (h k e g).2 hi]; simp
  · rfl
theorem stp_at {L : Ld} (h : LOk L) {k : Nat} (x : Nat) (e : Nat × Nat) (g : getL L k = some e) : (stp L k x).testBit k = false := by
  unfold stp
  by_cases q : x.testBit k = true
  · rw [if_pos q, tbx, g, q]
    show (true ^^ e.1.testBit k) = false
    rw [(h k e g).1]; rfl
  · rw [if_neg q]
    simpa using q
theorem red_hi {L : Ld} (h : LOk L) : ∀ (m x i : Nat), m ≤ i → (red L m x).testBit i = x.testBit i
  | 0, _, _, _ => rfl
  | m + 1, x, i, hi => by
    show (red L m (stp L m x)).testBit i = _
    rw [red_hi h m _ i (by omega), stp_hi h x (by omega)]
theorem red_at {L : Ld} (h : LOk L) : ∀ (m x i : Nat) (e : Nat × Nat), i < m → getL L i = some e → (red L m x).testBit i = false
  | m + 1, x, i, e, hi, g => by
    show (red L m (stp L m x)).testBit i = false
    by_cases q : i = m
    · subst q
      rw [red_hi h i _ i (Nat.le_refl _), stp_at h x e g]
    · exact red_at h m _ i e (by omega) g
/-- what has no lead's bit stays -/
theorem red_clear {L : Ld} : ∀ (m x : Nat), (∀ i e, i < m → getL L i = some e → x.testBit i = false) → red L m x = x
  | 0, _, _ => rfl
  | m + 1, x, h => by
    have e : stp L m x = x := by
      unfold stp
      by_cases q : x.testBit m = true
      · rw [if_pos q]
        cases g : getL L m with
        | none => exact Nat.xor_zero x
        | some e => rw [h m e (Nat.lt_succ_self m) g] at q; cases q
      · rw [if_neg q]
    show red L m (stp L m x) = x
    rw [e]
    exact red_clear m x fun i e hi g => h i e (by omega) g
theorem stp_skip {L : Ld} {k x : Nat} (h : x < 2 ^ k) : stp L k x = x := by
  unfold stp
  rw [tb_ge h (Nat.le_refl _)]
  rfl
theorem red_fuel {L : Ld} : ∀ {m j x : Nat}, x < 2 ^ j → j ≤ m → red L m x = red L j x := by
  intro m
  induction m with
  | zero =>
    intro j x _ h
    have : j = 0 := by omega
    rw [this]
  | succ m ih =>
    intro j x h hm
    by_cases q : j = m + 1
    · rw [q]
    · show red L m (stp L m x) = _
      rw [stp_skip (Nat.lt_of_lt_of_le h (Nat.pow_le_pow_right (by decide) (by omega)))]
      exact ih h (by omega)
theorem led_red {L : Ld} {m x : Nat} (h : x < 2 ^ m) : (led L x).1 = red L m x := by
  unfold led
  rw [ledF_fst]
  exact (red_fuel (blen_lt x) (blen_le h)).symm
theorem red_lt {L : Ld} (h : LOk L) {m x : Nat} (hx : x < 2 ^ m) : red L m x < 2 ^ m := by
  apply Nat.lt_pow_two_of_testBit
  intro i hi
  rw [red_hi h m x i hi, tb_ge hx hi]
/-- what is told beside the rest -/
theorem ledF_snd {comb : Nat → Nat} (hc : Lin comb) {L : Ld} (hl : ∀ i e, getL L i = some e → comb e.2 = e.1) : ∀ (k r n : Nat), comb (ledF L k (r, n)).2 ^^^ (ledF L k (r, n)).1 = comb n ^^^ r
  | 0, _, _ => rfl
  | k + 1, r, n => by
    show comb (ledF L k (if r.testBit k = true then (match getL L k with
      | some e => (r ^^^ e.1, n ^^^ e.2)
      | none => (r, n)) else (r, n))).2 ^^^ (ledF L k (if r.testBit k = true then (match getL L k with
      | some e => (r ^^^ e.1, n ^^^ e.2)
      | none => (r, n)) else (r, n))).1 = comb n ^^^ r
    by_cases h : r.testBit k = true
    · rw [if_pos h]
      cases g : getL L k with
      | none => exact ledF_snd hc hl k r n
      | some e =>
        show comb (ledF L k (r ^^^ e.1, n ^^^ e.2)).2 ^^^ (ledF L k (r ^^^ e.1, n ^^^ e.2)).1 = _
        rw [ledF_snd hc hl k, hc, hl k e g, Nat.xor_comm r, xor4, Nat.xor_comm (comb n), ← xor4, Nat.xor_self, Nat.zero_xor]
    · rw [if_neg h]
      exact ledF_snd hc hl k r n
theorem ledF_num {L : Ld} {j : Nat} (hl : ∀ i e, getL L i = some e → e.2 < 2 ^ j) : ∀ (k r n : Nat), n < 2 ^ j → (ledF L k (r, n)).2 < 2 ^ j
  | 0, _, _, h => h
  | k + 1, r, n, h => by
    show (ledF L k (if r.testBit k = true then (match getL L k with
      | some e => (r ^^^ e.1, n ^^^ e.2)
      | none => (r, n)) else (r, n))).2 < 2 ^ j
    by_cases q : r.testBit k = true
    · rw [if_pos q]
      cases g : getL L k with
      | none => exact ledF_num hl k r n h
      | some e => exact ledF_num hl k _ _ (Nat.xor_lt_two_pow h (hl k e g))
    · rw [if_neg q]
      exact ledF_num hl k r n h
/-! ### one more lead -/
theorem getL_snoc (L : Ld) (d : Nat) (e : Nat × Nat) (k : Nat) : getL (L ++ [(d, e)]) k = (match getL L k with
    | some x => some x
    | none => if d = k then some e else none) := by
  unfold getL
  rw [List.find?_append]
  cases h : L.find? (fun e => decide (e.1 = k)) with
  | some x => rfl
  | none =>
    show (List.find? (fun e => decide (e.1 = k)) [(d, e)]).map (·.2) = if d = k then some e else none
    by_cases q : d = k
    · rw [if_pos q, List.find?_cons, decide_eq_true q]; rfl
    · rw [if_neg q, List.find?_cons, decide_eq_false q]; rfl
theorem getL_not {L : Ld} {d : Nat} (h : getL L d = none) : d ∉ L.map (·.1) := fun m => by
  obtain ⟨e, he, q⟩ := List.mem_map.mp m
  unfold getL at h
  rw [Option.map_eq_none_iff, List.find?_eq_none] at h
  exact h e he (decide_eq_true q)
theorem stp_snoc {L : Ld} {d : Nat} {e : Nat × Nat} {k : Nat} (h : k ≠ d) (x : Nat) : stp (L ++ [(d, e)]) k x = stp L k x := by
  have g : getL (L ++ [(d, e)]) k = getL L k := by
    rw [getL_snoc, if_neg (Ne.symm h)]
    cases getL L k <;> rfl
  unfold stp
  rw [g]
theorem red_snoc {L : Ld} (h : LOk L) {d : Nat} {e : Nat × Nat} (hn : getL L d = none) (hc : ∀ i e', getL L i = some e' → e.1.testBit i = false) :
    ∀ m x, red (L ++ [(d, e)]) m x = red L m x ^^^ (if d < m ∧ (red L m x).testBit d = true then e.1 else 0)
  | 0, x => by
    rw [if_neg (by omega), Nat.xor_zero]; rfl
  | m + 1, x => by
    show red (L ++ [(d, e)]) m (stp (L ++ [(d, e)]) m x) = red L m (stp L m x) ^^^ _
    by_cases q : m = d
    · subst q
      have s1 : stp L m x = x := by
        unfold stp
        rw [hn]
        split
        · exact Nat.xor_zero x
        · rfl
      have s2 : stp (L ++ [(m, e)]) m x = x ^^^ (if x.testBit m = true then e.1 else 0) := by
        rw [stp_eq, getL_snoc, hn, if_pos rfl]
        rfl
      have r1 : red L m e.1 = e.1 := red_clear m e.1 fun i e' _ g => hc i e' g
      rw [red_snoc h hn hc m, if_neg (by omega), Nat.xor_zero, s1, s2, red_lin L m]
      congr 1
      show red L m _ = if m < m + 1 ∧ (red L m (stp L m x)).testBit m = true then e.1 else 0
      rw [s1, red_hi h m x m (Nat.le_refl _)]
      by_cases b : x.testBit m = true
      · rw [if_pos b, if_pos ⟨Nat.lt_succ_self _, b⟩, r1]
      · rw [if_neg b, if_neg fun z => b z.2]
        exact (red_lin L m).zero
    · rw [stp_snoc q, red_snoc h hn hc m]
      have e1 : (d < m ∧ (red L m (stp L m x)).testBit d = true) ↔ (d < m + 1 ∧ (red L (m + 1) x).testBit d = true) := by
        show _ ↔ (d < m + 1 ∧ (red L m (stp L m x)).testBit d = true)
        constructor
        · rintro ⟨a, b⟩; exact ⟨by omega, b⟩
        · rintro ⟨a, b⟩; exact ⟨by omega, b⟩
      simp only [e1]
/-! ### a span of the first k rows -/
structure SpanInv (comb : Nat → Nat) (N k : Nat) (S : Spn) : Prop where
  lok : LOk S.leads
  lc : ∀ i e, getL S.leads i = some e → comb e.2 = e.1 ∧ e.2 < 2 ^ k ∧ i < N
  all : ∀ p, p < 2 ^ k → red S.leads N (comb p) = 0
  nd : (S.leads.map (·.1)).Nodup
  cnt : S.leads.length = ((List.range N).filter fun i => (getL S.leads i).isSome).length
theorem pow_split {p k : Nat} (h : p < 2 ^ (k + 1)) : p < 2 ^ k ∨ ∃ q, q < 2 ^ k ∧ p = q ^^^ 2 ^ k := by
  by_cases c : p < 2 ^ k
  · exact .inl c
  · refine .inr ⟨p ^^^ 2 ^ k, ?_, ?_⟩
    · exact xor_top (by omega) h (Nat.le_refl _) (Nat.pow_lt_pow_right (by decide) (by omega))
    · rw [Nat.xor_assoc, Nat.xor_self, Nat.xor_zero]
theorem count_one {f g : Nat → Bool} {d : Nat} (hf : f d = false) (hg : g d = true) (hs : ∀ i, i ≠ d → g i = f i) : ∀ N, ((List.range N).filter g).length = ((List.range N).filter f).length + (if d < N then 1 else 0) := by
  intro N
  induction N with
  | zero => rfl
  | succ N ih =>
    rw [List.range_succ, List.filter_append, List.filter_append, List.length_append, List.length_append, ih]
    by_cases q : N = d
    · subst q
      have h1 : List.filter g [N] = [N] := by rw [List.filter_cons, if_pos hg]; rfl
      have h2 : List.filter f [N] = [] := by rw [List.filter_cons, if_neg (by rw [hf]; decide)]; rfl
      rw [h1, h2]
      simp
    · have h1 : List.filter g [N] = List.filter f [N] := by
        rw [List.filter_cons, List.filter_cons, hs N q]; rfl
      rw [h1]
      have : (if d < N then 1 else 0) = (if d < N + 1 then 1 else 0 : Nat) := by
        by_cases c : d < N
        · rw [if_pos c, if_pos (by omega)]
        · rw [if_neg c, if_neg (by omega)]
      omega
section
variable {comb : Nat → Nat} {N k : Nat} {S : Spn}
theorem SpanInv.nil (comb : Nat → Nat) (hc : Lin comb) (N : Nat) : SpanInv comb N 0 ⟨[], []⟩ := by
  refine ⟨fun k e h => (nomatch h), fun i e h => (nomatch h), fun p hp => ?_, List.nodup_nil, ?_⟩
  · have : p = 0 := by omega
    rw [this, hc.zero]
    exact (red_lin _ N).zero
  · have : ((List.range N).filter fun i => (getL ([] : Ld) i).isSome) = [] := List.filter_eq_nil_iff.mpr fun i _ => by
      show ¬ (false = true); decide
    rw [this]; rfl
/-- what is left of a row has no lead's bit -/
theorem SpanInv.free (I : SpanInv comb N k S) {x : Nat} (hx : x < 2 ^ N) : ∀ i e, getL S.leads i = some e → (led S.leads x).1.testBit i = false := fun i e g => by
  rw [led_red hx]
  exact red_at I.lok N x i e (I.lc i e g).2.2 g
theorem SpanInv.new (I : SpanInv comb N k S) {x : Nat} (hx : x < 2 ^ N) (h : (led S.leads x).1 ≠ 0) : getL S.leads (blen (led S.leads x).1 - 1) = none := by
  cases g : getL S.leads (blen (led S.leads x).1 - 1) with
  | none => rfl
  | some e =>
    have := I.free hx _ e g
    rw [blen_top h] at this
    cases this
theorem SpanInv.snd (I : SpanInv comb N k S) (hc : Lin comb) (x : Nat) : comb (led S.leads x).2 ^^^ (led S.leads x).1 = x := by
  have := ledF_snd hc (fun i e g => (I.lc i e g).1) (blen x) x 0
  rw [hc.zero, Nat.zero_xor] at this
  exact this
theorem SpanInv.num (I : SpanInv comb N k S) (x : Nat) : (led S.leads x).2 < 2 ^ k := ledF_num (fun i e g => (I.lc i e g).2.1) (blen x) x 0 (Nat.two_pow_pos k)
theorem SpanInv.put (I : SpanInv comb N k S) (hc : Lin comb) (hx : comb (2 ^ k) < 2 ^ N) : SpanInv comb N (k + 1) (S.put (comb (2 ^ k)) (2 ^ k)) := by
  have p2 : 2 ^ k < 2 ^ (k + 1) := Nat.pow_lt_pow_right (by decide) (by omega)
  have hs := I.snd hc (comb (2 ^ k))
  have hn := I.num (comb (2 ^ k))
  unfold Spn.put
  by_cases h : (led S.leads (comb (2 ^ k))).1 = 0
  · rw [if_pos h]
    refine ⟨I.lok, fun i e g => ⟨(I.lc i e g).1, Nat.lt_trans (I.lc i e g).2.1 p2, (I.lc i e g).2.2⟩, fun p hp => ?_, I.nd, I.cnt⟩
    rcases pow_split hp with hp | ⟨q, hq, rfl⟩
    · exact I.all p hp
    · rw [hc, red_lin, I.all q hq, Nat.zero_xor, ← led_red hx]
      exact h
  · rw [if_neg h]
    have hd := I.new hx h
    have hf := I.free hx
    have hlt : (led S.leads (comb (2 ^ k))).1 < 2 ^ N := by rw [led_red hx]; exact red_lt I.lok hx
    have hdN : blen (led S.leads (comb (2 ^ k))).1 - 1 < N := by
      have := blen_le hlt
      have := blen_pos h
      omega
    have rs := red_snoc I.lok (e := ((led S.leads (comb (2 ^ k))).1, (led S.leads (comb (2 ^ k))).2 ^^^ 2 ^ k)) hd hf N
    refine ⟨fun i e g => ?_, fun i e g => ?_, fun p hp => ?_, ?_, ?_⟩
    · rw [getL_snoc] at g
      cases g2 : getL S.leads i with
      | some e2 =>
        rw [g2] at g
        have : e2 = e := Option.some.inj g
        rw [← this]
        exact I.lok i e2 g2
      | none =>
        rw [g2] at g
        have g3 : (if blen (led S.leads (comb (2 ^ k))).1 - 1 = i then some ((led S.leads (comb (2 ^ k))).1, (led S.leads (comb (2 ^ k))).2 ^^^ 2 ^ k) else none) = some e := g
        split at g3
        · rename_i q
          have : ((led S.leads (comb (2 ^ k))).1, (led S.leads (comb (2 ^ k))).2 ^^^ 2 ^ k) = e := Option.some.inj g3
          rw [← this, ← q]
          refine ⟨blen_top h, ?_⟩
          rw [Nat.sub_add_cancel (blen_pos h)]
          exact blen_lt _
        · cases g3
    · rw [getL_snoc] at g
      cases g2 : getL S.leads i with
      | some e2 =>
        rw [g2] at g
        have : e2 = e := Option.some.inj g
        rw [← this]
        exact ⟨(I.lc i e2 g2).1, Nat.lt_trans (I.lc i e2 g2).2.1 p2, (I.lc i e2 g2).2.2⟩
      | none =>
        rw [g2] at g
        have g3 : (if blen (led S.leads (comb (2 ^ k))).1 - 1 = i then some ((led S.leads (comb (2 ^ k))).1, (led S.leads (comb (2 ^ k))).2 ^^^ 2 ^ k) else none) = some e := g
        split at g3
        · rename_i q
          have : ((led S.leads (comb (2 ^ k))).1, (led S.leads (comb (2 ^ k))).2 ^^^ 2 ^ k) = e := Option.some.inj g3
          rw [← this, ← q]
          refine ⟨?_, Nat.xor_lt_two_pow (Nat.lt_trans hn p2) p2, hdN⟩
          show comb (_ ^^^ _) = _
          rw [hc]
          generalize comb (2 ^ k) = y at hs ⊢
          generalize comb (led S.leads y).2 = z at hs ⊢
          generalize (led S.leads y).1 = u at hs ⊢
          rw [← hs, xor_cancel]
        · cases g3
    · show red (S.leads ++ [_]) N (comb p) = 0
      rcases pow_split hp with hp | ⟨q, hq, rfl⟩
      · rw [rs, I.all p hp]
        simp
      · rw [hc, red_lin, rs, I.all q hq]
        have z : red (S.leads ++ [(blen (led S.leads (comb (2 ^ k))).1 - 1, (led S.leads (comb (2 ^ k))).1, (led S.leads (comb (2 ^ k))).2 ^^^ 2 ^ k)]) N (comb (2 ^ k)) = 0 := by
          rw [red_snoc I.lok (e := ((led S.leads (comb (2 ^ k))).1, (led S.leads (comb (2 ^ k))).2 ^^^ 2 ^ k)) hd hf N, ← led_red hx, if_pos ⟨hdN, blen_top h⟩, Nat.xor_self]
        rw [z]
        simp
    · show (List.map (fun e : Nat × Nat × Nat => e.1) (S.leads ++ [_])).Nodup
      rw [List.map_append]
      refine List.nodup_append.mpr ⟨I.nd, List.nodup_cons.mpr ⟨List.not_mem_nil, List.nodup_nil⟩, fun a ha b hb e => ?_⟩
      have hb : b = blen (led S.leads (comb (2 ^ k))).1 - 1 := List.mem_singleton.mp hb
      rw [e, hb] at ha
      exact getL_not hd ha
    · show (S.leads ++ [_]).length = _
      rw [List.length_append, List.length_singleton, I.cnt]
      have c1 := count_one (f := fun i => (getL S.leads i).isSome) (g := fun i => (getL (S.leads ++ [(blen (led S.leads (comb (2 ^ k))).1 - 1, (led S.leads (comb (2 ^ k))).1, (led S.leads (comb (2 ^ k))).2 ^^^ 2 ^ k)]) i).isSome)
        (d := blen (led S.leads (comb (2 ^ k))).1 - 1) (by show (getL _ _).isSome = false; rw [hd]; rfl) (by show (getL _ _).isSome = true; rw [getL_snoc, hd, if_pos rfl]; rfl) (fun i hi => by
          show (getL _ i).isSome = (getL _ i).isSome
          rw [getL_snoc, if_neg (Ne.symm hi)]
          cases getL S.leads i <;> rfl) N
      rw [if_pos hdN] at c1
      exact c1.symm
theorem SpanInv.le (I : SpanInv comb N k S) : S.leads.length ≤ N := by
  rw [I.cnt]
  have := List.length_filter_le (fun i => (getL S.leads i).isSome) (List.range N)
  rwa [List.length_range] at this
/-- the numbers that are told -/
theorem SpanInv.some (I : SpanInv comb N k S) (hc : Lin comb) {x n : Nat} (h : S.num x = some n) : comb n = x ∧ n < 2 ^ k := by
  unfold Spn.num at h
  split at h
  · rename_i q
    have e : (led S.leads x).2 = n := Option.some.inj h
    have := I.snd hc x
    rw [q, Nat.xor_zero, e] at this
    exact ⟨this, by rw [← e]; exact I.num x⟩
  · cases h
theorem SpanInv.none (I : SpanInv comb N k S) {x : Nat} (hx : x < 2 ^ N) (h : S.num x = none) : ∀ p, p < 2 ^ k → comb p ≠ x := fun p hp e => by
  unfold Spn.num at h
  split at h
  · cases h
  · rename_i q
    rw [led_red hx, ← e, I.all p hp] at q
    exact q rfl
/-- as many leads as bits: each row is a sum -/
theorem SpanInv.full (I : SpanInv comb N k S) (hc : Lin comb) (h : S.leads.length = N) {x : Nat} (hx : x < 2 ^ N) : ∃ p, p < 2 ^ k ∧ comb p = x := by
  have c := I.cnt
  rw [h] at c
  have a : ∀ i ∈ List.range N, (getL S.leads i).isSome = true := by
    have := List.length_filter_eq_length_iff (l := List.range N) (p := fun i => (getL S.leads i).isSome)
    rw [List.length_range] at this
    exact this.mp c.symm
  have z : (led S.leads x).1 = 0 := by
    apply Nat.eq_of_testBit_eq
    intro i
    rw [Nat.zero_testBit]
    by_cases hi : i < N
    · obtain ⟨e, g⟩ := Option.isSome_iff_exists.mp (a i (List.mem_range.mpr hi))
      exact I.free hx i e g
    · rw [led_red hx]
      exact tb_ge (red_lt I.lok hx) (by omega)
  refine ⟨(led S.leads x).2, I.num x, ?_⟩
  have := I.snd hc x
  rwa [z, Nat.xor_zero] at this
theorem SpanInv.full_of (I : SpanInv comb N k S) (h : ∀ x, x < 2 ^ N → ∃ p, p < 2 ^ k ∧ comb p = x) : S.leads.length = N := by
  rw [I.cnt]
  have a : ∀ i ∈ List.range N, (getL S.leads i).isSome = true := fun i hi => by
    have hi := List.mem_range.mp hi
    obtain ⟨p, hp, e⟩ := h (2 ^ i) (Nat.pow_lt_pow_right (by decide) hi)
    have z := I.all p hp
    rw [e] at z
    cases g : getL S.leads i with
    | some e => rfl
    | none =>
      exfalso
      have : ∀ m, i < m → red S.leads m (2 ^ i) = 2 ^ i → True := fun _ _ _ => trivial
      have b : (red S.leads N (2 ^ i)).testBit i = true := by
        have r1 : red S.leads N (2 ^ i) = red S.leads (i + 1) (2 ^ i) := red_fuel (Nat.pow_lt_pow_right (by decide) (by omega)) hi
        rw [r1]
        show (red S.leads i (stp S.leads i (2 ^ i))).testBit i = true
        rw [red_hi I.lok i _ i (Nat.le_refl _)]
        unfold stp
        rw [g, Nat.testBit_two_pow_self, if_pos rfl]
        show (2 ^ i ^^^ 0).testBit i = true
        rw [Nat.xor_zero, Nat.testBit_two_pow_self]
      rw [z, Nat.zero_testBit] at b
      cases b
  have := (List.length_filter_eq_length_iff (l := List.range N) (p := fun i => (getL S.leads i).isSome)).mpr a
  rw [List.length_range] at this
  exact this
end
/-! ### a span of given rows -/
theorem putAll_snoc : ∀ (l : List Nat) (s : Spn) (i r : Nat), s.putAll i (l ++ [r]) = (s.putAll i l).put r (1 <<< (i + l.length))
  | [], s, i, r => rfl
  | x :: l, s, i, r => by
    show (s.put x (1 <<< i)).putAll (i + 1) (l ++ [r]) = ((s.put x (1 <<< i)).putAll (i + 1) l).put r (1 <<< (i + (l.length + 1)))
    rw [putAll_snoc l, show i + 1 + l.length = i + (l.length + 1) by omega]
theorem one_shl (i : Nat) : 1 <<< i = 2 ^ i := by rw [Nat.shiftLeft_eq, Nat.one_mul]
theorem span_take {comb : Nat → Nat} (hc : Lin comb) {N : Nat} {rows : List Nat} (h : ∀ i r, rows[i]? = some r → comb (2 ^ i) = r ∧ r < 2 ^ N) : ∀ k, k ≤ rows.length → SpanInv comb N k (Spn.putAll ⟨[], []⟩ 0 (rows.take k))
  | 0, _ => by
    rw [List.take_zero]
    exact SpanInv.nil comb hc N
  | k + 1, hk => by
    obtain ⟨r, hr⟩ : ∃ r, rows[k]? = some r := ⟨rows[k], by simp [hk]⟩
    obtain ⟨e, lt⟩ := h k r hr
    have I := span_take hc h k (by omega)
    have e2 : rows.take (k + 1) = rows.take k ++ [r] := by rw [List.take_add_one, hr]; rfl
    rw [e2, putAll_snoc, one_shl, List.length_take, Nat.zero_add, Nat.min_eq_left (by omega), ← e]
    exact I.put hc (by rw [e]; exact lt)
theorem span_of {comb : Nat → Nat} (hc : Lin comb) {N : Nat} {rows : List Nat} (h : ∀ i r, rows[i]? = some r → comb (2 ^ i) = r ∧ r < 2 ^ N) : SpanInv comb N rows.length (Spn.of rows) := by
  have := span_take hc h rows.length (Nat.le_refl _)
  rw [List.take_length] at this
  exact this
/-- the sum of the rows of some numbers -/
def combR : List Nat → Nat → Nat
  | [], _ => 0
  | r :: rs, p => (if p % 2 = 1 then r else 0) ^^^ combR rs (p / 2)
theorem combR_lin : ∀ rows, Lin (combR rows)
  | [] => lin_zero
  | r :: rs => fun a b => by
    show (if (a ^^^ b) % 2 = 1 then r else 0) ^^^ combR rs ((a ^^^ b) / 2) = _
    rw [xor_div2, combR_lin rs]
    show _ = ((if a % 2 = 1 then r else 0) ^^^ combR rs (a / 2)) ^^^ ((if b % 2 = 1 then r else 0) ^^^ combR rs (b / 2))
    rw [xor4]
    congr 1
    have e : (a ^^^ b) % 2 = (a % 2) ^^^ (b % 2) := mod_xor 1 a b
    rw [e]
    rcases Nat.mod_two_eq_zero_or_one a with h | h <;> rcases Nat.mod_two_eq_zero_or_one b with g | g <;> rw [h, g] <;> simp
theorem combR_pow : ∀ (rows : List Nat) (i r : Nat), rows[i]? = some r → combR rows (2 ^ i) = r
  | [], i, r, h => by simp at h
  | x :: rs, 0, r, h => by
    have : x = r := Option.some.inj h
    show (if 2 ^ 0 % 2 = 1 then x else 0) ^^^ combR rs (2 ^ 0 / 2) = r
    have z : combR rs 0 = 0 := (combR_lin rs).zero
    rw [if_pos (by decide), show 2 ^ 0 / 2 = 0 from rfl, z, Nat.xor_zero, this]
  | x :: rs, i + 1, r, h => by
    show (if 2 ^ (i + 1) % 2 = 1 then x else 0) ^^^ combR rs (2 ^ (i + 1) / 2) = r
    have e1 : 2 ^ (i + 1) % 2 = 0 := by rw [Nat.pow_succ]; omega
    have e2 : 2 ^ (i + 1) / 2 = 2 ^ i := by rw [Nat.pow_succ]; omega
    rw [if_neg (by omega), Nat.zero_xor, e2]
    exact combR_pow rs i r h
/-! ### the own polynomial -/
/-- while no sum is nought -/
structure OwnInv (T : Nat → Nat) (n v k : Nat) (S : Spn) : Prop where
  sp : SpanInv (fun p => Act T p v) n k S
  idle : S.idle = []
  ind : ∀ p, p < 2 ^ k → Act T p v = 0 → p = 0
  len : S.leads.length = k
section
variable {T : Nat → Nat} {n v k : Nat} {S : Spn}
theorem act_linp (T : Nat → Nat) (v : Nat) : Lin fun p => Act T p v := fun a b => act_xor T a b v
theorem own_put (hT : ∀ v, v < 2 ^ n → T v < 2 ^ n) (hv : v < 2 ^ n) (O : OwnInv T n v k S) :
    OwnInv T n v (k + 1) (S.put (itr T k v) (1 <<< k)) ∨ ∃ g, (S.put (itr T k v) (1 <<< k)).idle = [g] ∧ Mn T v g k := by
  have hl := act_linp T v
  have row : Act T (2 ^ k) v = itr T k v := act_pow T k v
  have rlt : itr T k v < 2 ^ n := by
    rw [← row]
    exact act_lt hT _ v hv
  have I := O.sp.put hl (by show Act T (2 ^ k) v < _; rw [row]; exact rlt)
  have I : SpanInv (fun p => Act T p v) n (k + 1) (S.put (itr T k v) (1 <<< k)) := by
    rw [one_shl, ← row]; exact I
  have hs := O.sp.snd hl (itr T k v)
  have hn := O.sp.num (itr T k v)
  have p2 : 2 ^ k < 2 ^ (k + 1) := Nat.pow_lt_pow_right (by decide) (by omega)
  by_cases h : (led S.leads (itr T k v)).1 = 0
  · refine .inr ⟨(led S.leads (itr T k v)).2 ^^^ 2 ^ k, ?_, ?_, Nat.xor_lt_two_pow (Nat.lt_trans hn p2) p2, ?_, O.ind⟩
    · unfold Spn.put
      rw [if_pos h, O.idle, one_shl]; rfl
    · apply ge_of_bit
      rw [tbx, tb_ge hn (Nat.le_refl _), Nat.testBit_two_pow_self]; rfl
    · rw [act_xor, row]
      rw [h, Nat.xor_zero] at hs
      have hs : Act T (led S.leads (itr T k v)).2 v = itr T k v := hs
      rw [hs, Nat.xor_self]
  · refine .inl ⟨I, ?_, fun p hp e => ?_, ?_⟩
    · unfold Spn.put
      rw [if_neg h]
      exact O.idle
    · rcases pow_split hp with hp | ⟨q, hq, rfl⟩
      · exact O.ind p hp e
      · exfalso
        rw [act_xor, row] at e
        have e := xor_eq_zero e
        have z := O.sp.all q hq
        rw [led_red rlt] at h
        apply h
        rw [← e]
        exact z
    · unfold Spn.put
      rw [if_neg h]
      show (S.leads ++ [_]).length = k + 1
      rw [List.length_append, O.len]; rfl
theorem own_nil (T : Nat → Nat) (n v : Nat) : OwnInv T n v 0 ⟨[], []⟩ := ⟨SpanInv.nil _ (act_linp T v) n, rfl, fun p hp _ => by omega, rfl⟩
theorem ownF_stop {S : Spn} {g here b : Nat} (h : S.idle = [g]) : ∀ f, ownF T f S here b = g
  | 0 => by show S.idle.headD 0 = g; rw [h]; rfl
  | f + 1 => by
    show (if S.idle = [] then _ else S.idle.headD 0) = g
    rw [h, if_neg (by simp)]; rfl
theorem own_run (hT : ∀ v, v < 2 ^ n → T v < 2 ^ n) (hv : v < 2 ^ n) : ∀ (f k : Nat) (S : Spn), OwnInv T n v k S → n + 1 ≤ f + k → ∃ d, d ≤ n ∧ Mn T v (ownF T f S (itr T k v) k) d
  | 0, k, S, O, h => by
    have := O.sp.le
    rw [O.len] at this
    omega
  | f + 1, k, S, O, h => by
    have e : ownF T (f + 1) S (itr T k v) k = ownF T f (S.put (itr T k v) (1 <<< k)) (itr T (k + 1) v) (k + 1) := by
      show (if S.idle = [] then _ else _) = _
      rw [if_pos O.idle, itr_succ]
    rw [e]
    rcases own_put hT hv O with O' | ⟨g, hg, m⟩
    · exact own_run hT hv f (k + 1) _ O' (by omega)
    · rw [ownF_stop hg]
      have := O.sp.le
      rw [O.len] at this
      exact ⟨k, this, m⟩
/-- the own polynomial of a row is its least one, of a degree up to the size -/
theorem own_mn (hT : ∀ v, v < 2 ^ n → T v < 2 ^ n) (hv : v < 2 ^ n) : ∃ d, d ≤ n ∧ Mn T v (ownM T n v) d := own_run hT hv (n + 2) 0 _ (own_nil T n v) (by omega)
end
end KM
end

section
set_option maxHeartbeats 4000000
/-! plain mathematics: marks that bar a row -/
namespace KM
/-! ### odd and even -/
theorem par_step' (b : Nat) : par b = (b % 2) ^^^ par (b / 2) := by
  have half : ∀ x : Nat, x ≠ 0 → blen (x / 2) < blen x := fun x h => by
    have p := blen_pos h
    have l := blen_lt x
    obtain ⟨j, e⟩ : ∃ j, blen x = j + 1 := ⟨_, (Nat.sub_add_cancel p).symm⟩
    rw [e, Nat.pow_succ] at l
    rw [e]
    exact Nat.lt_succ_of_le (blen_le (by omega))
  have fuel : ∀ (f g b : Nat), blen b ≤ f → blen b ≤ g → parF f b = parF g b := by
    intro f
    induction f with
    | zero =>
      intro g b h _
      have e : b = 0 := blen_zero_iff.mp (by omega)
      subst e
      cases g <;> rfl
    | succ f ih =>
      intro g b h1 h2
      cases g with
      | zero =>
        have e : b = 0 := blen_zero_iff.mp (by omega)
        subst e
        rfl
      | succ g =>
        show (if b = 0 then 0 else _ ^^^ parF f (b / 2)) = (if b = 0 then 0 else _ ^^^ parF g (b / 2))
        by_cases e : b = 0
        · rw [if_pos e, if_pos e]
        · have := half b e
          rw [if_neg e, if_neg e, ih g (b / 2) (by omega) (by omega)]
  by_cases e : b = 0
  · subst e; rfl
  · have hs := half b e
    unfold par
    obtain ⟨j, ej⟩ : ∃ j, blen b = j + 1 := ⟨blen b - 1, by omega⟩
    rw [ej]
    show (if b = 0 then 0 else _ ^^^ parF j (b / 2)) = _
    rw [if_neg e, fuel j (blen (b / 2)) (b / 2) (by omega) (by omega)]
theorem par_xor : ∀ a b, par (a ^^^ b) = par a ^^^ par b := by
  apply bin_ind (P := fun a => ∀ b, par (a ^^^ b) = par a ^^^ par b)
  · intro b
    have z : par 0 = 0 := rfl
    rw [Nat.zero_xor, z, Nat.zero_xor]
  · intro a _ ih b
    rw [par_step' (a ^^^ b), par_step' a, par_step' b, xor_div2, ih, xor4]
    congr 1
    exact mod_xor 1 a b
theorem par_pow : ∀ i, par (2 ^ i) = 1
  | 0 => by rw [par_step']; rfl
  | i + 1 => by
    rw [par_step', Nat.pow_succ, show 2 ^ i * 2 % 2 = 0 by omega, show 2 ^ i * 2 / 2 = 2 ^ i by omega, par_pow i]; rfl
theorem and_xor (m a b : Nat) : m &&& (a ^^^ b) = (m &&& a) ^^^ (m &&& b) := by
  apply Nat.eq_of_testBit_eq
  intro i
  rw [Nat.testBit_and, tbx, tbx, Nat.testBit_and, Nat.testBit_and]
  cases m.testBit i <;> cases a.testBit i <;> cases b.testBit i <;> rfl
/-- how marks meet a row -/
def meet (m x : Nat) : Nat := par (m &&& x)
theorem meet_lin (m : Nat) : Lin (meet m) := fun a b => by
  show par (m &&& (a ^^^ b)) = par (m &&& a) ^^^ par (m &&& b)
  rw [and_xor, par_xor]
/-! ### plain rows -/
/-- each of these rows alone has its bit -/
structure Diag (pl : List (Nat × Nat)) : Prop where
  nd : (pl.map (·.1)).Nodup
  top : ∀ e ∈ pl, e.2.testBit e.1 = true ∧ e.2 < 2 ^ (e.1 + 1)
  off : ∀ e ∈ pl, ∀ e' ∈ pl, e'.1 ≠ e.1 → e.2.testBit e'.1 = false
theorem fold_bit {t : Nat} {p : Nat × Nat → Bool} : ∀ (f : List (Nat × Nat)) (r : Nat), (f.map (·.1)).Nodup → (∀ e ∈ f, e.2.testBit t = decide (e.1 = t)) →
    ((f.filter p).foldl (fun r e => r ^^^ e.2) r).testBit t = (r.testBit t ^^ f.any fun e => decide (e.1 = t) && p e)
  | [], r, _, _ => by simp
  | e :: f, r, nd, h => by
    have nd' := List.nodup_cons.mp nd
    have he := h e (List.mem_cons_self ..)
    have ih := fun r => fold_bit (t := t) (p := p) f r nd'.2 fun e' he' => h e' (List.mem_cons_of_mem _ he')
    have tail : e.1 = t → (f.any fun e => decide (e.1 = t) && p e) = false := fun q => by
      rw [List.any_eq_false]
      intro x hx hh
      rw [Bool.and_eq_true, decide_eq_true_eq] at hh
      apply nd'.1
      show e.1 ∈ f.map (·.1)
      rw [q, ← hh.1]
      exact List.mem_map_of_mem hx
    rw [List.filter_cons, List.any_cons]
    by_cases hp : p e = true
    · rw [if_pos hp, List.foldl_cons, ih, tbx, he, hp]
      by_cases q : e.1 = t
      · rw [tail q, decide_eq_true q]; simp
      · rw [decide_eq_false q]; simp
    · rw [if_neg hp, ih]
      have : p e = false := by simpa using hp
      rw [this, Bool.and_false, Bool.false_or]
theorem fold_lin {g : Nat → Nat} (hg : Lin g) : ∀ (f : List (Nat × Nat)) (r : Nat), (∀ e ∈ f, g e.2 = 0) → g (f.foldl (fun r e => r ^^^ e.2) r) = g r
  | [], _, _ => rfl
  | e :: f, r, h => by
    rw [List.foldl_cons, fold_lin hg f _ fun e' he' => h e' (List.mem_cons_of_mem _ he'), hg, h e (List.mem_cons_self ..), Nat.xor_zero]
theorem fold_lt {n : Nat} : ∀ (f : List (Nat × Nat)) (r : Nat), r < 2 ^ n → (∀ e ∈ f, e.2 < 2 ^ n) → f.foldl (fun r e => r ^^^ e.2) r < 2 ^ n
  | [], _, h, _ => h
  | e :: f, r, h, he => by
    rw [List.foldl_cons]
    exact fold_lt f _ (Nat.xor_lt_two_pow h (he e (List.mem_cons_self ..))) fun e' he' => he e' (List.mem_cons_of_mem _ he')
section
variable {L : Ld} {N : Nat}
/-- the plain rows so far -/
structure PlainInv (L : Ld) (N : Nat) (f : List (Nat × Nat)) : Prop where
  dg : Diag f
  red0 : ∀ e ∈ f, red L N e.2 = 0
theorem plain_go (hok : LOk L) (hr : ∀ k e, getL L k = some e → red L N e.1 = 0) : ∀ (ks : List Nat) (f : List (Nat × Nat)), (∀ k ∈ ks, ∃ e, getL L k = some e) → ks.Pairwise (· < ·) → (∀ e ∈ f, ∀ k ∈ ks, e.1 < k) → PlainInv L N f → PlainInv L N (plainGo L ks f)
  | [], f, _, _, _, I => I
  | k :: ks, f, hk, hs, hlt, I => by
    obtain ⟨e, he⟩ := hk k (List.mem_cons_self ..)
    have hs' := List.pairwise_cons.mp hs
    have gd : ((getL L k).getD (0, 0)).1 = e.1 := by rw [he]; rfl
    show PlainInv L N (plainGo L ks (f ++ [(k, (f.filter fun x => ((getL L k).getD (0, 0)).1.testBit x.1).foldl (fun r x => r ^^^ x.2) ((getL L k).getD (0, 0)).1)]))
    rw [gd]
    have lo : ∀ x ∈ f, x.1 < k := fun x hx => hlt x hx k (List.mem_cons_self ..)
    have xlt : ∀ x ∈ f, x.2 < 2 ^ k := fun x hx => Nat.lt_of_lt_of_le (I.dg.top x hx).2 (Nat.pow_le_pow_right (by decide) (lo x hx))
    have sub : ∀ x ∈ f.filter (fun x => e.1.testBit x.1), x ∈ f := fun x hx => (List.mem_filter.mp hx).1
    have bits : ∀ x ∈ f, ((f.filter fun x => e.1.testBit x.1).foldl (fun r x => r ^^^ x.2) e.1).testBit x.1 = false := fun x hx => by
      rw [fold_bit f e.1 I.dg.nd fun y hy => by
        by_cases q : y.1 = x.1
        · rw [decide_eq_true q, ← q]; exact (I.dg.top y hy).1
        · rw [decide_eq_false q]; exact I.dg.off y hy x hx (Ne.symm q)]
      by_cases b : e.1.testBit x.1 = true
      · have : (f.any fun y => decide (y.1 = x.1) && e.1.testBit y.1) = true := List.any_eq_true.mpr ⟨x, hx, by rw [decide_eq_true rfl, b]; rfl⟩
        rw [this, b]; rfl
      · have b' : e.1.testBit x.1 = false := by simpa using b
        have : (f.any fun y => decide (y.1 = x.1) && e.1.testBit y.1) = false := List.any_eq_false.mpr fun y hy hh => by
          rw [Bool.and_eq_true, decide_eq_true_eq] at hh
          rw [hh.1, b'] at hh
          exact Bool.noConfusion hh.2
        rw [this, b']; rfl
    have plt : (f.filter fun x => e.1.testBit x.1).foldl (fun r x => r ^^^ x.2) e.1 < 2 ^ (k + 1) := fold_lt _ _ (hok k e he).2 fun x hx => Nat.lt_trans (xlt x (sub x hx)) (Nat.pow_lt_pow_right (by decide) (Nat.lt_succ_self k))
    have ptop : ((f.filter fun x => e.1.testBit x.1).foldl (fun r x => r ^^^ x.2) e.1).testBit k = true := by
      have : ∀ (l : List (Nat × Nat)) (r : Nat), (∀ x ∈ l, x.2 < 2 ^ k) → (l.foldl (fun r x => r ^^^ x.2) r).testBit k = r.testBit k := by
        intro l
        induction l with
        | nil => intro r _; rfl
        | cons x l ih =>
          intro r h
          rw [List.foldl_cons, ih _ fun y hy => h y (List.mem_cons_of_mem _ hy), tbx, tb_ge (h x (List.mem_cons_self ..)) (Nat.le_refl _)]
          simp
      rw [this _ _ fun x hx => xlt x (sub x hx)]
      exact (hok k e he).1
    have pred : red L N ((f.filter fun x => e.1.testBit x.1).foldl (fun r x => r ^^^ x.2) e.1) = 0 := by
      rw [fold_lin (red_lin L N) _ _ fun x hx => I.red0 x (sub x hx)]
      exact hr k e he
    generalize (f.filter fun x => e.1.testBit x.1).foldl (fun r x => r ^^^ x.2) e.1 = P at bits plt ptop pred
    refine plain_go hok hr ks _ (fun j hj => hk j (List.mem_cons_of_mem _ hj)) hs'.2 (fun x hx j hj => ?_) ⟨⟨?_, fun x hx => ?_, fun x hx y hy hne => ?_⟩, fun x hx => ?_⟩
    · rcases List.mem_append.mp hx with h | h
      · exact hlt x h j (List.mem_cons_of_mem _ hj)
      · rw [List.mem_singleton.mp h]
        exact hs'.1 j hj
    · rw [List.map_append]
      refine List.nodup_append.mpr ⟨I.dg.nd, List.nodup_cons.mpr ⟨List.not_mem_nil, List.nodup_nil⟩, fun a ha b hb q => ?_⟩
      obtain ⟨x, hx, ex⟩ := List.mem_map.mp ha
      have hb : b = k := List.mem_singleton.mp hb
      have := lo x hx
      omega
    · rcases List.mem_append.mp hx with h | h
      · exact I.dg.top x h
      · rw [List.mem_singleton.mp h]
        exact ⟨ptop, plt⟩
    · rcases List.mem_append.mp hx with h | h
      · rcases List.mem_append.mp hy with g | g
        · exact I.dg.off x h y g hne
        · rw [List.mem_singleton.mp g]
          exact tb_ge (xlt x h) (Nat.le_refl _)
      · rw [List.mem_singleton.mp h] at hne ⊢
        rcases List.mem_append.mp hy with g | g
        · exact bits y g
        · rw [List.mem_singleton.mp g] at hne
          exact absurd rfl hne
    · rcases List.mem_append.mp hx with h | h
      · exact I.red0 x h
      · rw [List.mem_singleton.mp h]
        exact pred
end
/-! ### what is left of a row -/
def brs (l : List (Nat × Nat)) (x : Nat) : Nat := l.foldl (fun r e => if r.testBit e.1 = true then r ^^^ e.2 else r) x
theorem brs_keep {t : Nat} : ∀ (l : List (Nat × Nat)) (x : Nat), (∀ e ∈ l, e.2.testBit t = false) → (brs l x).testBit t = x.testBit t
  | [], _, _ => rfl
  | e :: l, x, h => by
    show (brs l (if x.testBit e.1 = true then x ^^^ e.2 else x)).testBit t = _
    rw [brs_keep l _ fun e' he' => h e' (List.mem_cons_of_mem _ he')]
    split
    · rw [tbx, h e (List.mem_cons_self ..)]; simp
    · rfl
theorem brs_clear : ∀ (l : List (Nat × Nat)), Diag l → ∀ x, ∀ e ∈ l, (brs l x).testBit e.1 = false
  | y :: l, D, x, e, he => by
    have nd' := List.nodup_cons.mp D.nd
    have D' : Diag l := ⟨nd'.2, fun e he => D.top e (List.mem_cons_of_mem _ he), fun e he e' he' => D.off e (List.mem_cons_of_mem _ he) e' (List.mem_cons_of_mem _ he')⟩
    show (brs l (if x.testBit y.1 = true then x ^^^ y.2 else x)).testBit e.1 = false
    rcases List.mem_cons.mp he with q | q
    · rw [q, brs_keep l _ fun e' he' => D.off e' (List.mem_cons_of_mem _ he') y (List.mem_cons_self ..) fun z => nd'.1 (by
        show y.1 ∈ l.map (·.1)
        rw [z]; exact List.mem_map_of_mem he')]
      by_cases b : x.testBit y.1 = true
      · rw [if_pos b, tbx, b, (D.top y (List.mem_cons_self ..)).1]; rfl
      · rw [if_neg b]; simpa using b
    · exact brs_clear l D' _ e q
theorem brs_lin {g : Nat → Nat} (hg : Lin g) : ∀ (l : List (Nat × Nat)) (x : Nat), (∀ e ∈ l, g e.2 = 0) → g (brs l x) = g x
  | [], _, _ => rfl
  | y :: l, x, h => by
    show g (brs l (if x.testBit y.1 = true then x ^^^ y.2 else x)) = g x
    rw [brs_lin hg l _ fun e he => h e (List.mem_cons_of_mem _ he)]
    split
    · rw [hg, h y (List.mem_cons_self ..), Nat.xor_zero]
    · rfl
theorem Diag.reverse {l : List (Nat × Nat)} (D : Diag l) : Diag l.reverse :=
  ⟨by rw [List.map_reverse]; exact (List.reverse_perm _).nodup_iff.mpr D.nd, fun e he => D.top e (List.mem_reverse.mp he), fun e he e' he' => D.off e (List.mem_reverse.mp he) e' (List.mem_reverse.mp he')⟩
/-! ### the marks -/
theorem mark_bit {bit i : Nat} : ∀ (l : List (Nat × Nat)) (m : Nat), (l.foldl (fun m e => if e.2.testBit bit = true then m ||| (1 <<< e.1) else m) m).testBit i = (m.testBit i || l.any fun e => decide (e.1 = i) && e.2.testBit bit)
  | [], m => by simp
  | e :: l, m => by
    rw [List.foldl_cons, mark_bit l, List.any_cons]
    by_cases b : e.2.testBit bit = true
    · rw [if_pos b, Nat.testBit_or, b, one_shl, Bool.and_true, ← Bool.or_assoc]
      congr 2
      by_cases q : e.1 = i
      · rw [decide_eq_true q, q, Nat.testBit_two_pow_self]
      · rw [decide_eq_false q, Nat.testBit_two_pow_of_ne q]
    · rw [if_neg b]
      have : e.2.testBit bit = false := by simpa using b
      rw [this, Bool.and_false, Bool.false_or]
theorem barMark_bit (pl : List (Nat × Nat)) (bit i : Nat) : (barMark pl bit).testBit i = (decide (bit = i) || pl.any fun e => decide (e.1 = i) && e.2.testBit bit) := by
  unfold barMark
  rw [mark_bit, one_shl]
  congr 1
  by_cases q : bit = i
  · rw [decide_eq_true q, q, Nat.testBit_two_pow_self]
  · rw [decide_eq_false q, Nat.testBit_two_pow_of_ne q]
section
variable {pl : List (Nat × Nat)} {bit : Nat}
/-- the marks meet the plain rows evenly -/
theorem meet_plain (D : Diag pl) (hb : ∀ e ∈ pl, e.1 ≠ bit) {e : Nat × Nat} (he : e ∈ pl) : meet (barMark pl bit) e.2 = 0 := by
  unfold meet
  have eq : barMark pl bit &&& e.2 = if e.2.testBit bit = true then 2 ^ bit ^^^ 2 ^ e.1 else 0 := by
    apply Nat.eq_of_testBit_eq
    intro i
    rw [Nat.testBit_and, barMark_bit]
    have r : (if e.2.testBit bit = true then 2 ^ bit ^^^ 2 ^ e.1 else 0).testBit i = (e.2.testBit bit && (decide (bit = i) ^^ decide (e.1 = i))) := by
      by_cases b : e.2.testBit bit = true
      · rw [if_pos b, b, tbx, Nat.testBit_two_pow, Nat.testBit_two_pow, Bool.true_and]
      · rw [if_neg b]
        have : e.2.testBit bit = false := by simpa using b
        rw [this, Nat.zero_testBit]; rfl
    rw [r]
    by_cases q : bit = i
    · have : e.1 ≠ i := fun z => hb e he (z.trans q.symm)
      rw [decide_eq_true q, decide_eq_false this, ← q]
      simp
    · rw [decide_eq_false q, Bool.false_or, Bool.false_xor]
      by_cases q2 : e.1 = i
      · have a : (pl.any fun x => decide (x.1 = i) && x.2.testBit bit) = e.2.testBit bit := by
          cases b : e.2.testBit bit with
          | true => exact List.any_eq_true.mpr ⟨e, he, by rw [decide_eq_true q2, b]; rfl⟩
          | false =>
            refine List.any_eq_false.mpr fun x hx hh => ?_
            rw [Bool.and_eq_true, decide_eq_true_eq] at hh
            have : x = e := by
              by_cases z : x = e
              · exact z
              · exfalso
                have := D.nd
                have k := List.nodup_iff_pairwise_ne.mp this
                rw [List.pairwise_map] at k
                have kk : ∀ a ∈ pl, ∀ b ∈ pl, a ≠ b → a.1 ≠ b.1 := fun a ha b hb' hne => by
                  obtain ⟨i1, h1, e1⟩ := List.mem_iff_getElem.mp ha
                  obtain ⟨i2, h2, e2⟩ := List.mem_iff_getElem.mp hb'
                  rcases Nat.lt_trichotomy i1 i2 with l | l | l
                  · rw [← e1, ← e2]; exact List.pairwise_iff_getElem.mp k i1 i2 h1 h2 l
                  · subst l; exact absurd (e1.symm.trans e2) hne
                  · rw [← e1, ← e2]; exact (List.pairwise_iff_getElem.mp k i2 i1 h2 h1 l).symm
                exact kk x hx e he z (hh.1.trans q2.symm)
            rw [this, b] at hh
            exact Bool.noConfusion hh.2
        rw [a, decide_eq_true q2, ← q2, (D.top e he).1]
      · rw [decide_eq_false q2, Bool.and_false]
        have : (pl.any fun x => decide (x.1 = i) && x.2.testBit bit) = true → e.2.testBit i = false := fun h => by
          obtain ⟨x, hx, hh⟩ := List.any_eq_true.mp h
          rw [Bool.and_eq_true, decide_eq_true_eq] at hh
          rw [← hh.1]
          exact D.off e he x hx fun z => q2 (z ▸ hh.1)
        cases a : (pl.any fun x => decide (x.1 = i) && x.2.testBit bit) with
        | true => rw [this a]; rfl
        | false => rfl
  rw [eq]
  split
  · rw [par_xor, par_pow, par_pow]; rfl
  · rfl
/-- .. and what has none of their bits but its top one oddly -/
theorem meet_rest {x : Nat} (hx : x ≠ 0) (hc : ∀ e ∈ pl, x.testBit e.1 = false) : meet (barMark pl (blen x - 1)) x = 1 := by
  unfold meet
  have eq : barMark pl (blen x - 1) &&& x = 2 ^ (blen x - 1) := by
    apply Nat.eq_of_testBit_eq
    intro i
    rw [Nat.testBit_and, barMark_bit, Nat.testBit_two_pow]
    by_cases q : blen x - 1 = i
    · rw [decide_eq_true q, ← q, blen_top hx]; rfl
    · rw [decide_eq_false q, Bool.false_or]
      cases a : (pl.any fun e => decide (e.1 = i) && e.2.testBit (blen x - 1)) with
      | false => rfl
      | true =>
        obtain ⟨e, he, hh⟩ := List.any_eq_true.mp a
        rw [Bool.and_eq_true, decide_eq_true_eq] at hh
        rw [← hh.1, hc e he]; rfl
  rw [eq, par_pow]
theorem barMark_lt {N : Nat} (hb : bit < N) (hk : ∀ e ∈ pl, e.1 < N) : barMark pl bit < 2 ^ N := by
  apply Nat.lt_pow_two_of_testBit
  intro i hi
  rw [barMark_bit, decide_eq_false (by omega), Bool.false_or]
  refine List.any_eq_false.mpr fun e he hh => ?_
  rw [Bool.and_eq_true, decide_eq_true_eq] at hh
  have := hk e he
  omega
end
section
variable {comb : Nat → Nat} {N k : Nat} {S : Spn}
theorem keysL_mem (L : Ld) (j : Nat) : j ∈ keysL L ↔ j ∈ L.map (·.1) := (List.mergeSort_perm ..).mem_iff
theorem SpanInv.keys (I : SpanInv comb N k S) : (∀ j ∈ keysL S.leads, (∃ e, getL S.leads j = Option.some e) ∧ j < N) ∧ (keysL S.leads).Pairwise (· < ·) := by
  have perm : (keysL S.leads).Perm (S.leads.map (·.1)) := List.mergeSort_perm ..
  refine ⟨fun j hj => ?_, ?_⟩
  · cases g : getL S.leads j with
    | some e => exact ⟨⟨e, rfl⟩, (I.lc j e g).2.2⟩
    | none => exact absurd (perm.mem_iff.mp hj) (getL_not g)
  · have nd : (keysL S.leads).Nodup := perm.nodup_iff.mpr I.nd
    have le := List.pairwise_mergeSort (le := fun a b : Nat => decide (a ≤ b)) (fun a b c h1 h2 => by simp at *; omega) (fun a b => by simp; omega) (S.leads.map (·.1))
    exact (List.nodup_iff_pairwise_ne.mp nd).imp₂ (fun {a b} h1 h2 => by have := of_decide_eq_true h2; omega) le
theorem SpanInv.plain (I : SpanInv comb N k S) : PlainInv S.leads N (plainM S.leads) := by
  obtain ⟨h1, h2⟩ := I.keys
  refine plain_go I.lok (fun j e g => ?_) (keysL S.leads) [] (fun j hj => (h1 j hj).1) h2 (fun e he => (nomatch he)) ⟨⟨List.nodup_nil, fun e he => (nomatch he), fun e he => (nomatch he)⟩, fun e he => (nomatch he)⟩
  obtain ⟨c1, c2, _⟩ := I.lc j e g
  rw [← c1]
  exact I.all e.2 c2
theorem plainGo_keys' (L : Ld) : ∀ (ks : List Nat) (f : List (Nat × Nat)), (plainGo L ks f).map (·.1) = f.map (·.1) ++ ks
  | [], f => (List.append_nil _).symm
  | k :: ks, f => by
    show (plainGo L ks (f ++ [(k, _)])).map (·.1) = _
    rw [plainGo_keys' L ks, List.map_append, List.append_assoc]; rfl
/-- what is left, by plain rows as by the leads -/
theorem SpanInv.rest (I : SpanInv comb N k S) {x : Nat} (hx : x < 2 ^ N) : barRest (plainM S.leads) x = red S.leads N x ∧ ∀ e ∈ plainM S.leads, (barRest (plainM S.leads) x).testBit e.1 = false := by
  have P := I.plain
  have cl : ∀ e ∈ plainM S.leads, (brs (plainM S.leads).reverse x).testBit e.1 = false := fun e he => brs_clear _ P.dg.reverse x e (List.mem_reverse.mpr he)
  refine ⟨?_, cl⟩
  show brs (plainM S.leads).reverse x = _
  rw [← brs_lin (red_lin S.leads N) (plainM S.leads).reverse x fun e he => P.red0 e (List.mem_reverse.mp he)]
  refine (red_clear N _ fun i e hi g => ?_).symm
  have mem : i ∈ (plainM S.leads).map (·.1) := by
    unfold plainM
    rw [plainGo_keys']
    refine List.mem_append_right _ ((keysL_mem _ _).mpr ?_)
    by_cases h : i ∈ S.leads.map (·.1)
    · exact h
    · exfalso
      unfold getL at g
      cases q : S.leads.find? (fun e => decide (e.1 = i)) with
      | none => rw [q] at g; cases g
      | some y =>
        have a := List.find?_some q
        have b := List.mem_of_find?_eq_some q
        exact h (List.mem_map.mpr ⟨y, b, of_decide_eq_true a⟩)
  obtain ⟨y, hy, ey⟩ := List.mem_map.mp mem
  rw [← ey]
  exact cl y hy
/-- the marks of a row that is no sum -/
theorem SpanInv.bar (I : SpanInv comb N k S) (hcb : ∀ p, p < 2 ^ k → comb p < 2 ^ N) {x : Nat} (hx : x < 2 ^ N) (h : S.num x = Option.none) :
    barRest (plainM S.leads) x ≠ 0 ∧ blen (barRest (plainM S.leads) x) ≤ N ∧ barFor S.leads x < 2 ^ N ∧ (∀ p, p < 2 ^ k → meet (barFor S.leads x) (comb p) = 0) ∧ meet (barFor S.leads x) x = 1 := by
  obtain ⟨e1, c1⟩ := I.rest hx
  have P := I.plain
  have ne : barRest (plainM S.leads) x ≠ 0 := by
    rw [e1, ← led_red hx]
    unfold Spn.num at h
    split at h
    · cases h
    · assumption
  have lt : barRest (plainM S.leads) x < 2 ^ N := by rw [e1]; exact red_lt I.lok hx
  have bl := blen_le lt
  have bp := blen_pos ne
  have hb : ∀ e ∈ plainM S.leads, e.1 ≠ blen (barRest (plainM S.leads) x) - 1 := fun e he q => by
    have := c1 e he
    rw [q, blen_top ne] at this
    cases this
  have hk : ∀ e ∈ plainM S.leads, e.1 < N := fun e he => by
    have m : e.1 ∈ (plainM S.leads).map (·.1) := List.mem_map_of_mem he
    unfold plainM at m
    rw [plainGo_keys'] at m
    exact (I.keys.1 e.1 (by simpa using m)).2
  have even : ∀ y, meet (barFor S.leads x) (barRest (plainM S.leads) y) = meet (barFor S.leads x) y := fun y =>
    brs_lin (meet_lin _) (plainM S.leads).reverse y fun e he => meet_plain P.dg hb (List.mem_reverse.mp he)
  refine ⟨ne, bl, barMark_lt (by omega) hk, fun p hp => ?_, ?_⟩
  · rw [← even]
    have z : brs (plainM S.leads).reverse (comb p) = 0 := (I.rest (hcb p hp)).1.trans (I.all p hp)
    show meet _ (brs (plainM S.leads).reverse (comb p)) = 0
    rw [z]
    exact (meet_lin _).zero
  · rw [← even]
    exact meet_rest ne c1
end
end KM
end

section
set_option maxHeartbeats 4000000
/-! words for the walk: numbers that are not negative, heaps -/
namespace K71
open PySem PySem.Spec PyProof.Rows L2
/-- a number that is not negative, as a value -/
abbrev vn (n : Nat) : V := .int (n : Int)
abbrev vns (l : List Nat) : List V := l.map vn
section
variable {X : Cx}
def rN2 (c : Nat → Nat → Prop) (f : Nat → Nat → V) : R2 := fun x y H Q => ∃ n m : Nat, x = .int (n : Int) ∧ y = .int (m : Int) ∧ c n m ∧ Q (f n m) H
def rN (f : Nat → Nat → V) : R2 := fun x y H Q => ∃ n m : Nat, x = .int (n : Int) ∧ y = .int (m : Int) ∧ Q (f n m) H
theorem qi {Q : VK} {H : Hp} {a b : Int} (e : b = a) (q : Q (.int a) H) : Q (.int b) H := e ▸ q
theorem bitAnd_nat (n m : Nat) : Builtin.bitAnd (n : Int) (m : Int) = ((n &&& m : Nat) : Int) := by
  rfl
/-- an operator's rule for numbers that are not negative -/
theorem nat2 {f : Value → Value → Sem Value} {c : Int → Int → Prop} {g : Int → Int → Int} {d : Nat → Nat → Prop} {h : Nat → Nat → Nat} (r : OpR X f (rI c fun i j => .int (g i j))) (hc : ∀ n m : Nat, d n m → c n m)
    (e : ∀ n m : Nat, d n m → g n m = ((h n m : Nat) : Int)) : OpR X f (rN2 d fun n m => vn (h n m)) := by
  intro pins s σ H x y v u Q I rx ry ⟨n, m, ex, ey, k, q⟩
  exact r pins s σ H x y v u Q I rx ry ⟨_, _, ex, ey, hc n m k, qi (e n m k) q⟩
theorem nat0 {f : Value → Value → Sem Value} {g : Int → Int → Int} {h : Nat → Nat → Nat} (r : OpR X f (rI0 fun i j => .int (g i j))) (e : ∀ n m : Nat, g n m = ((h n m : Nat) : Int)) : OpR X f (rN fun n m => vn (h n m)) := by
  intro pins s σ H x y v u Q I rx ry ⟨n, m, ex, ey, q⟩
  exact r pins s σ H x y v u Q I rx ry ⟨_, _, ex, ey, qi (e n m) q⟩
theorem ox : OpR X (binaryOp .BitXor) (rN fun n m => vn (n ^^^ m)) := nat0 op_xor fun n m => Bits.bitXor_pp (Int.natCast_nonneg n) (Int.natCast_nonneg m)
theorem oo : OpR X (binaryOp .BitOr) (rN fun n m => vn (n ||| m)) := nat0 op_or fun n m => Bits.bitOr_pp (Int.natCast_nonneg n) (Int.natCast_nonneg m)
theorem oa : OpR X (binaryOp .BitAnd) (rN fun n m => vn (n &&& m)) := nat0 op_and bitAnd_nat
theorem oad : OpR X (binaryOp .Add) (rN fun n m => vn (n + m)) := nat0 op_add fun n m => rfl
/-- n >> m -/
theorem osr : OpR X (binaryOp .RShift) (rN2 (fun _ _ => True) fun n m => vn (n >>> m)) := nat2 op_shr (fun n m _ => Int.natCast_nonneg m) fun n m _ => by
  rw [Nat.shiftRight_eq_div_pow, Int.natCast_ediv, Int.natCast_pow, Int.toNat_natCast]; rfl
/-- n << m, both small -/
theorem osl : OpR X (binaryOp .LShift) (rN2 (fun n m => n < 2 ^ 64 ∧ m ≤ 1000) fun n m => vn (n <<< m)) := nat2 op_shl (fun n m c => ⟨Int.natCast_nonneg m, by omega, by rw [Int.natAbs_natCast]; exact c.1⟩) fun n m _ => by
  rw [Nat.shiftLeft_eq, Int.natCast_mul, Int.natCast_pow, Int.toNat_natCast]; rfl
theorem osb : OpR X (binaryOp .Sub) (rN2 (fun n m => m ≤ n) fun n m => vn (n - m)) := by
  intro pins s σ H x y v u Q I rx ry ⟨n, m, ex, ey, c, q⟩
  exact op_sub pins s σ H x y v u Q I rx ry ⟨_, _, ex, ey, qi (Int.ofNat_sub c).symm q⟩
theorem omd : OpR X (binaryOp .Mod) (rN2 (fun _ m => 0 < m) fun n m => vn (n % m)) := nat2 op_modN (fun n m c => by omega) fun n m _ => by
  rw [Int.fmod_eq_emod_of_nonneg _ (Int.natCast_nonneg m), ← Int.natCast_emod]
theorem ofd : OpR X (binaryOp .FloorDiv) (rN2 (fun _ m => 0 < m ∧ m < 1073741824) fun n m => vn (n / m)) := nat2 op_fdivN (fun n m c => ⟨by omega, by rw [Int.natAbs_natCast]; exact c.2⟩) fun n m _ => by
  rw [Int.fdiv_eq_ediv_of_nonneg _ (Int.natCast_nonneg m), ← Int.natCast_ediv]
theorem oml : OpR X (binaryOp .Mult) (rN2 (fun n _ => n < 2 ^ 64) fun n m => vn (n * m)) := nat2 op_mul (fun n m c => .inl ⟨by omega, by omega⟩) fun n m _ => (Int.natCast_mul n m).symm
/-- the same with the answer told -/
def rZ (f : Int → Int → Int) : R2 := fun x y H Q => ∃ i j z : Int, x = .int i ∧ y = .int j ∧ f i j = z ∧ Q (.int z) H
theorem told {f : Value → Value → Sem Value} {g : Int → Int → Int} (r : OpR X f (rI0 fun i j => .int (g i j))) : OpR X f (rZ g) := by
  intro pins s σ H x y v u Q I rx ry ⟨i, j, z, ex, ey, e, q⟩
  exact r pins s σ H x y v u Q I rx ry ⟨_, _, ex, ey, qi e q⟩
theorem osz : OpR X (binaryOp .Sub) (rZ fun i j => i - j) := told op_sub
theorem oaz : OpR X (binaryOp .Add) (rZ fun i j => i + j) := told op_add
/-- a power of any size -/
theorem opw : OpR X (binaryOp .Pow) (rI (fun i j => 0 ≤ j ∧ (Builtin.Int.intBits i : Int) * j ≤ 2 ^ 27) fun i j => .int (i ^ j.toNat)) := opI fun _ _ _ _ _ _ _ hc q => pow_int hc.1 hc.2 q
/-- comparisons of such numbers -/
theorem scal_int (i j : Int) : scal (.int i) (.int j) = true := rfl
theorem dec_vn (n m : Nat) : decide (V.int (n : Int) = V.int (m : Int)) = decide (n = m) := by
  by_cases h : n = m
  · rw [h]; simp
  · rw [decide_eq_false h, decide_eq_false]
    intro e
    exact h (Int.ofNat.inj (V.int.inj e))
end
/-! ### heaps -/
theorem same_new {H : Hp} {p : Addr} {o : HO} (h : H p = none) : Same H (upd H p o) := fun b x e => Eq.trans (upd_ne (ne_of_none e h)) e
theorem snew {H H' : Hp} (e : Same H H') {p : Addr} {o : HO} (h : H' p = none) : Same H (upd H' p o) := e.trans (same_new h)
/-- a thing that H does not know has changed -/
theorem smut {H H' : Hp} (e : Same H H') {p : Addr} {o : HO} (h : H p = none) : Same H (upd H' p o) := fun b x q => Eq.trans (upd_ne (ne_of_none q h)) (e b x q)
theorem stup {K : PySem.W.Frag} {H H' : Hp} {a : Addr} {xs : List V} (e : Same H H') (h : SqT K H a xs) : SqT K H' a xs := by
  rcases h with (h | ⟨o, h⟩) | h
  · exact .inl (.inl (e _ _ h))
  · exact .inl (.inr ⟨o, e _ _ h⟩)
  · exact .inr h
/-! ### tests -/
theorem itE {n m : Nat} {A B : Prop} (h1 : n = m → A) (h2 : n ≠ m → B) : if decide (V.int (n : Int) = V.int (m : Int)) = true then A else B :=
  ite2 (fun h => h1 (Int.ofNat.inj (V.int.inj (of_decide_eq_true h)))) fun h => h2 fun e => h (decide_eq_true (by rw [e]))
theorem itNe {n m : Nat} {A B : Prop} (h1 : n ≠ m → A) (h2 : n = m → B) : if (!decide (V.int (n : Int) = V.int (m : Int))) = true then A else B := by
  by_cases e : n = m
  · have q : decide (V.int (n : Int) = V.int (m : Int)) = true := decide_eq_true (by rw [e])
    rw [q]
    exact iteF (h2 e)
  · have q : decide (V.int (n : Int) = V.int (m : Int)) = false := decide_eq_false fun q => e (Int.ofNat.inj (V.int.inj q))
    rw [q]
    exact iteT (h1 e)
theorem itL {n m : Nat} {A B : Prop} (h1 : n < m → A) (h2 : m ≤ n → B) : if decide ((n : Int) < (m : Int)) = true then A else B :=
  ite2 (fun h => h1 (Int.ofNat_lt.mp (of_decide_eq_true h))) fun h => h2 (Nat.le_of_not_lt fun e => h (decide_eq_true (Int.ofNat_lt.mpr e)))
theorem itLe {n m : Nat} {A B : Prop} (h1 : n ≤ m → A) (h2 : m < n → B) : if decide ((n : Int) ≤ (m : Int)) = true then A else B :=
  ite2 (fun h => h1 (Int.ofNat_le.mp (of_decide_eq_true h))) fun h => h2 (Nat.lt_of_not_le fun e => h (decide_eq_true (Int.ofNat_le.mpr e)))
theorem itI {p : Prop} [Decidable p] {A B : Prop} (h1 : p → A) (h2 : ¬ p → B) : if decide p = true then A else B :=
  ite2 (fun h => h1 (of_decide_eq_true h)) fun h => h2 fun e => h (decide_eq_true e)
theorem blen_bits (n : Nat) : Builtin.Int.intBits (n : Int) = KM.blen n := by
  unfold Builtin.Int.intBits KM.blen
  by_cases h : n = 0
  · subst h; rfl
  · have h' : ((n : Int) == 0) = false := by simpa using h
    rw [h', if_neg h, Int.natAbs_natCast]; rfl
theorem sz {n : Nat} (h : n ≤ 100000) : n ≤ sizeLine := Nat.le_trans h (by decide)
theorem szl {n : Nat} (h : n < 100000) : n < sizeLine := Nat.lt_of_lt_of_le h (by decide)
end K71
end

section
set_option maxHeartbeats 4000000
/-! the walk: bits.py -/
namespace K71
open PySem PySem.Spec PyProof.Rows L2 KM
theorem xrl_snoc (l : List Nat) (p : Nat) : xrl (l ++ [p]) = xrl l ^^^ (1 <<< p) := by
  unfold xrl
  rw [List.foldl_append]; rfl
theorem take_succ {α : Type} {l : List α} {i : Nat} {p : α} (h : l[i]? = some p) : l.take (i + 1) = l.take i ++ [p] := by
  rw [List.take_add_one, h]; rfl
theorem vns_at {l : List Nat} {i : Nat} {x : V} (h : (vns l)[i]? = some x) : ∃ p, l[i]? = some p ∧ x = vn p := by
  rw [List.getElem?_map] at h
  cases e : l[i]? with
  | none => rw [e] at h; cases h
  | some p => rw [e] at h; exact ⟨p, rfl, (Option.some.inj h).symm⟩
theorem vns_len (l : List Nat) : (vns l).length = l.length := List.length_map ..
section
variable {P : Program} {w : World} {K : PySem.W.Frag} {mg : Str → Option Value} {base : Heap}
def q_bits_of (K : PySem.W.Frag) : Sp := fun vs H Q _ => ∃ (a : Addr) (l : List Nat), vs = [.ref a] ∧ SqL K H a (vns l) ∧ (∀ p ∈ l, p ≤ 1000) ∧ Q (vn (xrl l)) H
theorem ok_bits_of (D : Ok K mg) : FnOk P w K mg base CX0 1 (He.ga K "bits_of") (fdA K (He.ga K "bits_of")) ["powers"] (q_bits_of K) := by
  refine D.f_bits_of.ok sc_bits_of (fun vs H Q E h => ?_) (fun cdv A outer s H vs Q E hr h => ?_)
  · obtain ⟨_, _, rfl, _⟩ := h
    rfl
  · refine ⟨_, PSs.nox (pss_cons (ps_set (i := 1) sc_bits_of.nd rfl (.inl rfl) pe_int)
  (pss_cons (ps_for PassesOwn.never rfl (pi_list (pv 0)) (pg_name (i := 2) sc_bits_of.nd rfl (.inl rfl))
    (pss_one (ps_set (i := 1) sc_bits_of.nd rfl (.inl rfl) (pe_op ox (pv 1) (pe_op osl pe_int (pv 2))))))
  (pss_one (ps_ret (pv 1))))), ?_⟩
    obtain ⟨a, l, rfl, hS, hp, k⟩ := h
    refine ⟨_, rfl, a, rfl, ⟨_, hS⟩, for_list (K := K) (a := a) (xs := vns l) (fun i σ H' => H' = H ∧ ∃ y, σ = [some (.ref a), some (vn (xrl (l.take i))), y]) ⟨rfl, none, rfl⟩ (fun i σ H' _ h => by rw [h.1]; exact hS) ?_ ?_⟩
    · rintro i x σ H' hi ⟨rfl, y, rfl⟩
      obtain ⟨p, e, rfl⟩ := vns_at hi
      refine ⟨_, rfl, _, rfl, 1, p, rfl, rfl, ⟨by decide, hp p (List.mem_of_getElem? e)⟩, _, _, rfl, rfl, rfl, some (vn p), ?_⟩
      rw [take_succ e, xrl_snoc]; rfl
    · rintro σ H' ⟨rfl, y, rfl⟩
      rw [vns_len, List.take_length]
      exact ⟨_, rfl, k⟩
def q_powers_of (K : PySem.W.Frag) : Sp := fun vs H Q _ => ∃ b : Nat, vs = [vn b] ∧ b < 2 ^ 64 ∧ ∀ p H', Same H H' → H p = none → H' p = some (.tup (vns (pw b))) → Q (.ref p) H'
theorem pw_of {b n : Nat} (h : b < 2 ^ n) : (List.range n).filter (fun i => b.testBit i) = pw b := by
  unfold pw
  have l := blen_le h
  obtain ⟨k, rfl⟩ : ∃ k, n = blen b + k := ⟨n - blen b, by omega⟩
  have z : List.filter (fun i => b.testBit i) (List.map (fun x => blen b + x) (List.range k)) = [] := ?_
  · rw [List.range_add, List.filter_append, z, List.append_nil]
  rw [List.filter_eq_nil_iff]
  intro i hi
  obtain ⟨j, _, rfl⟩ := List.mem_map.mp hi
  rw [Nat.testBit_lt_two_pow (Nat.lt_of_lt_of_le (blen_lt b) (Nat.pow_le_pow_right (by decide) (by omega)))]
  decide
theorem pw_len (b : Nat) : (pw b).length ≤ blen b := by
  unfold pw
  have := List.length_filter_le (fun i => b.testBit i) (List.range (blen b))
  rwa [List.length_range] at this
theorem shr_zero {b k : Nat} (h : b >>> k = 0) : b < 2 ^ k := by
  rw [Nat.shiftRight_eq_div_pow] at h
  exact (Nat.div_eq_zero_iff_lt (Nat.two_pow_pos _)).mp h
theorem shr_small {b k : Nat} {n : Nat} (hb : b < 2 ^ n) (h : 0 < b >>> k) : k < n := by
  rcases Nat.lt_or_ge k n with q | q
  · exact q
  · exfalso
    rw [Nat.shiftRight_eq_div_pow, Nat.div_eq_of_lt (Nat.lt_of_lt_of_le hb (Nat.pow_le_pow_right (by decide) q))] at h
    exact Nat.lt_irrefl _ h
theorem half_step {x : Nat} (h : 0 < x) : blen (x / 2) < blen x := by
  have p := blen_pos (Nat.pos_iff_ne_zero.mp h)
  have l := blen_lt x
  obtain ⟨j, e⟩ : ∃ j, blen x = j + 1 := ⟨_, (Nat.sub_add_cancel p).symm⟩
  rw [e, Nat.pow_succ] at l
  rw [e]
  exact Nat.lt_succ_of_le (blen_le (by omega))
theorem shr_step {b k : Nat} (h : 0 < b >>> k) : blen (b >>> (k + 1)) < blen (b >>> k) := by
  rw [Nat.shiftRight_succ]
  exact half_step h
theorem tb_shr (b k : Nat) : b.testBit k = decide (b >>> k % 2 = 1) := by
  rw [Nat.testBit_eq_decide_div_mod_eq, Nat.shiftRight_eq_div_pow]
theorem flt_len (b k : Nat) : ((List.range k).filter fun i => b.testBit i).length ≤ k := by
  have := List.length_filter_le (fun i => b.testBit i) (List.range k)
  rwa [List.length_range] at this
theorem flt_yes {b k : Nat} (h : b.testBit k = true) : (List.range (k + 1)).filter (fun i => b.testBit i) = (List.range k).filter (fun i => b.testBit i) ++ [k] := by
  rw [List.range_succ, List.filter_append, List.filter_cons, if_pos h, List.filter_nil]
theorem flt_no {b k : Nat} (h : b.testBit k = false) : (List.range (k + 1)).filter (fun i => b.testBit i) = (List.range k).filter (fun i => b.testBit i) := by
  rw [List.range_succ, List.filter_append, List.filter_cons, if_neg (by rw [h]; decide), List.filter_nil, List.append_nil]
theorem ok_powers_of (D : Ok K mg) : FnOk P w K mg base CX0 1 (He.ga K "powers_of") (fdA K (He.ga K "powers_of")) ["bits"] (q_powers_of K) := by
  refine D.f_powers_of.ok sc_powers_of (fun vs H Q E h => ?_) (fun cdv A outer s H vs Q E hr h => ?_)
  · obtain ⟨_, rfl, _⟩ := h
    rfl
  · refine ⟨_, PSs.nox (pss_cons (ps_par3 (i := 1) (j := 2) (l := 3) (by rfl) sc_powers_of.nd rfl rfl rfl (by decide) (by decide) (by decide) rfl rfl rfl (pa_cons (pe_lst pa_nil) (pa_cons pe_int (pa_cons (pv 0) pa_nil))) (by rfl))
  (pss_cons (ps_while PassesOwn.never (pt_cmpR op_gt (pv 3) pe_int (nomark _))
    (pss_cons (ps_if (pt_cmpR op_eq (pe_op omd (pv 3) pe_int) pe_int (nomark _)) (pss_one (ps_expr (pe_bm PySem.F.plainAttrs_list PySem.F.slot_list_append PySem.F.type_list_append mt_append (pv 1) (pa_cons (pv 2) pa_nil)))) pss_nil)
  (pss_one (ps_par (i := 2) (j := 3) (by rfl) sc_powers_of.nd rfl rfl (by decide) rfl rfl (pa_cons (pe_op oad (pv 2) pe_int) (pa_cons (pe_op osr (pv 3) pe_int) pa_nil)) (by rfl)))))
  (pss_one (ps_ret (pe_callTy call_tuple_of (by rfl) D.z_tuple (by decide +kernel) (pa_cons (pv 1) pa_nil)))))), ?_⟩
    obtain ⟨b, rfl, hb, k⟩ := h
    refine ⟨Nat.zero_le _, fun l hl => ?_⟩
    refine ⟨_, rfl, _, _, _, rfl, ?_⟩
    refine ⟨fun m σ H' => ∃ at' : Nat, m = blen (b >>> at') ∧ at' ≤ 64 ∧ σ = [some (vn b), some (.ref l), some (vn at'), some (vn (b >>> at'))] ∧ Same H H' ∧ H' l = some (.lst (vns ((List.range at').filter fun i => b.testBit i))),
      ⟨_, 0, rfl, by omega, rfl, same_new hl, upd_same⟩, ?_⟩
    rintro m σ H' ⟨at', rfl, ha, rfl, sm, hL⟩
    refine ⟨_, rfl, _, _, rfl, rfl, _, rfl, ?_⟩
    refine itL (n := 0) (fun hpos => ?_) (fun hz => ?_)
    · have hlt := shr_small hb hpos
      have hm := shr_step hpos
      have flen := flt_len b at'
      refine ⟨fun σ' H' => ∃ m', m' < _ ∧ ∃ at' : Nat, m' = blen (b >>> at') ∧ at' ≤ 64 ∧ σ' = [some (vn b), some (.ref l), some (vn at'), some (vn (b >>> at'))] ∧ Same H H' ∧ H' l = some (.lst (vns ((List.range at').filter fun i => b.testBit i))), fun _ _ h => h, ?_⟩
      refine ⟨_, rfl, _, 2, rfl, rfl, (by show 0 < 2; decide), rfl, _, rfl, ?_⟩
      have et := tb_shr b at'
      refine itE (m := 1) (fun ho => ?_) (fun ho => ?_)
      · refine ⟨_, rfl, .inl ⟨rfl, _, SqL.of hL⟩, _, rfl, l, _, _, rfl, rfl, hL, szl (by rw [vns_len]; omega), ?_⟩
        refine ⟨_, rfl, _, 1, rfl, rfl, _, rfl, _, 1, rfl, rfl, trivial, _, _, rfl, ?_⟩
        refine ⟨_, hm, at' + 1, rfl, hlt, rfl, smut sm hl, ?_⟩
        rw [upd_same, flt_yes (by rw [et, decide_eq_true ho]), vns, vns, List.map_append]; rfl
      · refine ⟨_, rfl, _, 1, rfl, rfl, _, rfl, _, 1, rfl, rfl, trivial, _, _, rfl, ?_⟩
        refine ⟨_, hm, at' + 1, rfl, hlt, rfl, sm, ?_⟩
        rw [flt_no (by rw [et, decide_eq_false ho])]
        exact hL
    · have hlt := shr_zero (Nat.le_zero.mp hz)
      refine ⟨_, rfl, l, _, rfl, .inl ⟨SqL.of hL, fun p hp => ?_⟩⟩
      refine k p _ (snew sm hp) (sm.free hp) ?_
      rw [upd_same, pw_of hlt]
end
end K71
end

section
set_option maxHeartbeats 4000000
/-! the walk: bits.py, the rest -/
namespace K71
open PySem PySem.Spec PyProof.Rows L2 KM
section
variable {P : Program} {w : World} {K : PySem.W.Frag} {mg : Str → Option Value} {base : Heap}
def q_degree_of (K : PySem.W.Frag) : Sp := fun vs H Q _ => ∃ b : Nat, vs = [vn b] ∧ Q (.int ((blen b : Int) - 1)) H
theorem ok_degree_of (D : Ok K mg) : FnOk P w K mg base CX0 1 (He.ga K "degree_of") (fdA K (He.ga K "degree_of")) ["bits"] (q_degree_of K) := by
  refine D.f_degree_of.ok sc_degree_of (fun vs H Q E h => ?_) (fun cdv A outer s H vs Q E hr h => ?_)
  · obtain ⟨_, rfl, _⟩ := h
    rfl
  · refine ⟨_, PSs.nox (pss_one (ps_ret (pe_op osz (pe_bits (pv 0)) pe_int))), ?_⟩
    obtain ⟨b, rfl, k⟩ := h
    exact ⟨_, rfl, _, rfl, _, _, _, rfl, rfl, by rw [blen_bits], k⟩
theorem par_step (b : Nat) : par b = (b % 2) ^^^ par (b / 2) := by
  have fuel : ∀ (f g b : Nat), blen b ≤ f → blen b ≤ g → parF f b = parF g b := by
    intro f
    induction f with
    | zero =>
      intro g b h _
      have e : b = 0 := blen_zero_iff.mp (by omega)
      subst e
      cases g <;> rfl
    | succ f ih =>
      intro g b h1 h2
      cases g with
      | zero =>
        have e : b = 0 := blen_zero_iff.mp (by omega)
        subst e
        rfl
      | succ g =>
        show (if b = 0 then 0 else _ ^^^ parF f (b / 2)) = (if b = 0 then 0 else _ ^^^ parF g (b / 2))
        by_cases e : b = 0
        · rw [if_pos e, if_pos e]
        · have := half_step (Nat.pos_iff_ne_zero.mpr e)
          rw [if_neg e, if_neg e, ih g (b / 2) (by omega) (by omega)]
  by_cases e : b = 0
  · subst e; rfl
  · have hs := half_step (Nat.pos_iff_ne_zero.mpr e)
    unfold par
    obtain ⟨j, ej⟩ : ∃ j, blen b = j + 1 := ⟨blen b - 1, by omega⟩
    rw [ej]
    show (if b = 0 then 0 else _ ^^^ parF j (b / 2)) = _
    rw [if_neg e, fuel j (blen (b / 2)) (b / 2) (by omega) (by omega)]
theorem par_lt (b : Nat) : par b < 2 := by
  revert b
  apply bin_ind (P := fun b => par b < 2)
  · decide
  · intro b _ ih
    rw [par_step]
    exact Nat.xor_lt_two_pow (n := 1) (by omega) ih
def q_is_odd (K : PySem.W.Frag) : Sp := fun vs H Q _ => ∃ b : Nat, vs = [vn b] ∧ Q (.bl (decide (par b = 1))) H
theorem ok_is_odd (D : Ok K mg) : FnOk P w K mg base CX0 1 (He.ga K "is_odd") (fdA K (He.ga K "is_odd")) ["bits"] (q_is_odd K) := by
  refine D.f_is_odd.ok sc_is_odd (fun vs H Q E h => ?_) (fun cdv A outer s H vs Q E hr h => ?_)
  · obtain ⟨_, rfl, _⟩ := h
    rfl
  · refine ⟨_, PSs.nox (pss_cons (ps_par (i := 1) (j := 2) (by rfl) sc_is_odd.nd rfl rfl (by decide) rfl rfl (pa_cons pe_int (pa_cons (pv 0) pa_nil)) (by rfl))
  (pss_cons (ps_while PassesOwn.never (pt_cmpR op_gt (pv 2) pe_int (nomark _))
    (pss_one (ps_par (i := 1) (j := 2) (by rfl) sc_is_odd.nd rfl rfl (by decide) rfl rfl (pa_cons (pe_op ox (pv 1) (pe_op omd (pv 2) pe_int)) (pa_cons (pe_op osr (pv 2) pe_int) pa_nil)) (by rfl))))
  (pss_one (ps_ret (pe_cmpR op_eq (pv 1) pe_int (nomark _)))))), ?_⟩
    obtain ⟨b, rfl, k⟩ := h
    refine ⟨_, rfl, _, _, rfl, ?_⟩
    refine ⟨fun m σ H' => H' = H ∧ ∃ fo re : Nat, m = blen re ∧ fo ^^^ par re = par b ∧ σ = [some (vn b), some (vn fo), some (vn re)], ⟨_, rfl, 0, b, rfl, Nat.zero_xor _, rfl⟩, ?_⟩
    rintro m σ H' ⟨rfl, fo, re, rfl, e, rfl⟩
    refine ⟨_, rfl, _, _, rfl, rfl, _, rfl, ?_⟩
    refine itL (n := 0) (fun hpos => ?_) (fun hz => ?_)
    · refine ⟨fun σ' H2 => ∃ m', m' < _ ∧ H2 = H' ∧ ∃ fo re : Nat, m' = blen re ∧ fo ^^^ par re = par b ∧ σ' = [some (vn b), some (vn fo), some (vn re)], fun _ _ h => h, ?_⟩
      refine ⟨_, rfl, _, rfl, _, 2, rfl, rfl, (by show 0 < 2; decide), _, _, rfl, rfl, _, rfl, _, 1, rfl, rfl, trivial, _, _, rfl, ?_⟩
      refine ⟨_, half_step hpos, rfl, _, _, rfl, ?_, rfl⟩
      rw [par_step] at e
      rw [Nat.xor_assoc]
      exact e
    · have hz : re = 0 := Nat.le_zero.mp hz
      subst hz
      have e0 : fo = par b := by
        rw [← e]
        exact (Nat.xor_zero fo).symm
      refine ⟨_, rfl, rfl, ?_⟩
      rw [← e0] at k
      have d : decide (V.int (fo : Int) = V.int 1) = decide (fo = 1) := dec_vn fo 1
      rw [d]
      exact k
def q_times_of (K : PySem.W.Frag) : Sp := fun vs H Q _ => ∃ a b : Nat, vs = [vn a, vn b] ∧ a < 2 ^ 32 ∧ b < 2 ^ 32 ∧ Q (vn (cl a b)) H
theorem ok_times_of (D : Ok K mg) : FnOk P w K mg base CX0 1 (He.ga K "times_of") (fdA K (He.ga K "times_of")) ["one", "other"] (q_times_of K) := by
  refine D.f_times_of.ok sc_times_of (fun vs H Q E h => ?_) (fun cdv A outer s H vs Q E hr h => ?_)
  · obtain ⟨_, _, rfl, _⟩ := h
    rfl
  · refine ⟨_, PSs.nox (pss_cons (ps_par3 (i := 2) (j := 3) (l := 4) (by rfl) sc_times_of.nd rfl rfl rfl (by decide) (by decide) (by decide) rfl rfl rfl (pa_cons pe_int (pa_cons (pv 1) (pa_cons (pv 0) pa_nil))) (by rfl))
  (pss_cons (ps_while PassesOwn.never (pt_cmpR op_gt (pv 3) pe_int (nomark _))
    (pss_cons (ps_if (pt_cmpR op_eq (pe_op omd (pv 3) pe_int) pe_int (nomark _)) (pss_one (ps_set (i := 2) sc_times_of.nd rfl (.inl rfl) (pe_op ox (pv 2) (pv 4)))) pss_nil)
  (pss_one (ps_par (i := 4) (j := 3) (by rfl) sc_times_of.nd rfl rfl (by decide) rfl rfl (pa_cons (pe_op osl (pv 4) pe_int) (pa_cons (pe_op osr (pv 3) pe_int) pa_nil)) (by rfl)))))
  (pss_one (ps_ret (pv 2))))), ?_⟩
    obtain ⟨a, b, rfl, ha, hb, k⟩ := h
    refine ⟨_, rfl, _, rfl, _, _, _, rfl, ?_⟩
    refine ⟨fun m σ H' => H' = H ∧ ∃ fo re he : Nat, m = blen re ∧ fo ^^^ cl he re = cl a b ∧ blen re ≤ 32 ∧ he < 2 ^ (64 - blen re) ∧ σ = [some (vn a), some (vn b), some (vn fo), some (vn re), some (vn he)],
      ⟨_, rfl, 0, b, a, rfl, Nat.zero_xor _, blen_le hb, Nat.lt_of_lt_of_le ha (Nat.pow_le_pow_right (by decide) (by have := blen_le hb; omega)), rfl⟩, ?_⟩
    rintro m σ H' ⟨rfl, fo, re, he, rfl, e, h32, hhe, rfl⟩
    refine ⟨_, rfl, _, _, rfl, rfl, _, rfl, ?_⟩
    refine itL (n := 0) (fun hpos => ?_) (fun hz => ?_)
    · have hs := half_step hpos
      have h64 : he < 2 ^ 64 := Nat.lt_of_lt_of_le hhe (Nat.pow_le_pow_right (by decide) (by omega))
      have h2 : 2 * he < 2 ^ (64 - blen (re / 2)) := by
        refine Nat.lt_of_lt_of_le (m := 2 ^ (64 - blen re + 1)) (by rw [Nat.pow_succ]; omega) (Nat.pow_le_pow_right (by decide) (by omega))
      have e1 : he <<< 1 = 2 * he := by rw [Nat.shiftLeft_eq]; omega
      have e2 : re >>> 1 = re / 2 := rfl
      refine ⟨fun σ' H2 => ∃ m', m' < _ ∧ H2 = H' ∧ ∃ fo re he : Nat, m' = blen re ∧ fo ^^^ cl he re = cl a b ∧ blen re ≤ 32 ∧ he < 2 ^ (64 - blen re) ∧ σ' = [some (vn a), some (vn b), some (vn fo), some (vn re), some (vn he)], fun _ _ h => h, ?_⟩
      rw [cl_step] at e
      refine ⟨_, rfl, _, 2, rfl, rfl, (by show 0 < 2; decide), rfl, _, rfl, ?_⟩
      refine itE (m := 1) (fun ho => ?_) (fun ho => ?_)
      · refine ⟨_, rfl, _, rfl, _, _, rfl, rfl, ?_⟩
        refine ⟨_, rfl, _, 1, rfl, rfl, ⟨h64, by decide⟩, _, rfl, _, 1, rfl, rfl, trivial, _, _, rfl, ?_⟩
        refine ⟨_, hs, rfl, fo ^^^ he, re / 2, 2 * he, rfl, ?_, by omega, h2, by rw [← e1]; rfl⟩
        rw [if_pos ho] at e
        rw [Nat.xor_assoc]
        exact e
      · refine ⟨_, rfl, _, 1, rfl, rfl, ⟨h64, by decide⟩, _, rfl, _, 1, rfl, rfl, trivial, _, _, rfl, ?_⟩
        refine ⟨_, hs, rfl, fo, re / 2, 2 * he, rfl, ?_, by omega, h2, by rw [← e1]; rfl⟩
        rw [if_neg ho, Nat.zero_xor] at e
        exact e
    · have hz : re = 0 := Nat.le_zero.mp hz
      subst hz
      have e0 : fo = cl a b := by
        rw [← e, cl_zero, Nat.xor_zero]
      refine ⟨_, rfl, ?_⟩
      rw [e0]
      exact k
def q_parted_of (K : PySem.W.Frag) : Sp := fun vs H Q _ => ∃ a o : Nat, vs = [vn a, vn o] ∧ a < 2 ^ 64 ∧ o < 2 ^ 64 ∧ o ≠ 0 ∧ ∀ p H', Same H H' → H p = none → H' p = some (.tup [vn (parted a o).1, vn (md a o)]) → Q (.ref p) H'
theorem ok_parted_of (D : Ok K mg) : FnOk P w K mg base CX0 2 (He.ga K "parted_of") (fdA K (He.ga K "parted_of")) ["one", "other"] (q_parted_of K) := by
  refine D.f_parted_of.ok sc_parted_of (fun vs H Q E h => ?_) (fun cdv A outer s H vs Q E hr h => ?_)
  · obtain ⟨_, _, rfl, _⟩ := h
    rfl
  · refine ⟨_, PSs.nox (pss_cons (ps_par3 (i := 2) (j := 3) (l := 4) (by rfl) sc_parted_of.nd rfl rfl rfl (by decide) (by decide) (by decide) rfl rfl rfl (pa_cons pe_int (pa_cons (pv 0) (pa_cons (pe_call (ok_degree_of D) (hr.mono (by decide)) rfl D.m_degree_of D.f_degree_of.kp D.b_degree_of .nil pass0 (pa_cons (pv 1) pa_nil)) pa_nil))) (by rfl))
  (pss_cons (ps_while PassesOwn.never (pt_cmpR op_ge (pe_call (ok_degree_of D) (hr.mono (by decide)) rfl D.m_degree_of D.f_degree_of.kp D.b_degree_of .nil pass0 (pa_cons (pv 3) pa_nil)) (pv 4) (nomark _))
    (pss_cons (ps_set (i := 5) sc_parted_of.nd rfl (.inl rfl) (pe_op osz (pe_call (ok_degree_of D) (hr.mono (by decide)) rfl D.m_degree_of D.f_degree_of.kp D.b_degree_of .nil pass0 (pa_cons (pv 3) pa_nil)) (pv 4)))
  (pss_one (ps_par (i := 2) (j := 3) (by rfl) sc_parted_of.nd rfl rfl (by decide) rfl rfl (pa_cons (pe_op ox (pv 2) (pe_op osl pe_int (pv 5))) (pa_cons (pe_op ox (pv 3) (pe_op osl (pv 1) (pv 5))) pa_nil)) (by rfl)))))
  (pss_one (ps_ret (pe_tup (pa_cons (pv 2) (pa_cons (pv 3) pa_nil))))))), ?_⟩
    obtain ⟨a, o, rfl, ha, hb, ho, k⟩ := h
    refine ⟨_, rfl, _, rfl, o, rfl, _, _, _, rfl, ?_⟩
    refine ⟨fun m σ H' => H' = H ∧ ∃ (q r : Nat) (y : Option V), blen r ≤ m ∧ m ≤ 64 ∧ pdv o m (q, r) = parted a o ∧ σ = [some (vn a), some (vn o), some (vn q), some (vn r), some (.int ((blen o : Int) - 1)), y],
      ⟨_, rfl, 0, a, none, Nat.le_refl _, blen_le ha, rfl, rfl⟩, ?_⟩
    rintro m σ H' ⟨rfl, q, r, y, hm, h64, e, rfl⟩
    refine ⟨_, rfl, r, rfl, _, rfl, _, _, rfl, rfl, _, rfl, ?_⟩
    refine itI (fun hc => ?_) (fun hc => ?_)
    · have hc' : blen o ≤ blen r := by omega
      have hs := shl_blen ho hc'
      obtain ⟨m', rfl⟩ : ∃ m', m = m' + 1 := ⟨m - 1, by omega⟩
      rw [pdv_step (s := (q, r)) hc'] at e
      have hs' : blen (r ^^^ o <<< (blen r - blen o)) ≤ m' := by omega
      have ey : ((blen r : Int) - 1) - ((blen o : Int) - 1) = ((blen r - blen o : Nat) : Int) := by omega
      refine ⟨fun σ' H2 => ∃ m2, m2 < m' + 1 ∧ H2 = H' ∧ ∃ (q r : Nat) (y : Option V), blen r ≤ m2 ∧ m2 ≤ 64 ∧ pdv o m2 (q, r) = parted a o ∧ σ' = [some (vn a), some (vn o), some (vn q), some (vn r), some (.int ((blen o : Int) - 1)), y], fun _ _ h => h, ?_⟩
      refine ⟨_, rfl, r, rfl, _, rfl, _, _, _, rfl, rfl, ey, ?_⟩
      refine ⟨_, rfl, _, rfl, 1, _, rfl, rfl, ⟨by decide, by omega⟩, _, _, rfl, rfl, _, rfl, _, rfl, _, rfl, _, _, rfl, rfl, ⟨hb, by omega⟩, _, _, rfl, rfl, _, _, rfl, ?_⟩
      exact ⟨m', Nat.lt_succ_self _, rfl, _, _, _, hs', by omega, e, rfl⟩
    · have hc' : ¬ blen o ≤ blen r := fun z => hc (by omega)
      rw [pdv_stop (s := (q, r)) hc'] at e
      refine ⟨_, rfl, _, rfl, by show 2 ≤ sizeLine; decide, fun p hp => ?_⟩
      refine k p _ (same_new hp) hp ?_
      rw [upd_same]
      unfold md
      rw [← e]
def q_rest_of (K : PySem.W.Frag) : Sp := fun vs H Q _ => ∃ a o : Nat, vs = [vn a, vn o] ∧ a < 2 ^ 64 ∧ o < 2 ^ 64 ∧ o ≠ 0 ∧ ∀ H', Same H H' → Q (vn (md a o)) H'
theorem ok_rest_of (D : Ok K mg) : FnOk P w K mg base CX0 3 (He.ga K "rest_of") (fdA K (He.ga K "rest_of")) ["one", "other"] (q_rest_of K) := by
  refine D.f_rest_of.ok sc_rest_of (fun vs H Q E h => ?_) (fun cdv A outer s H vs Q E hr h => ?_)
  · obtain ⟨_, _, rfl, _⟩ := h
    rfl
  · refine ⟨_, PSs.nox (pss_one (ps_ret (pe_ix ix_tup (pe_call (ok_parted_of D) (hr.mono (by decide)) rfl D.m_parted_of D.f_parted_of.kp D.b_parted_of .nil pass0 (pa_cons (pv 0) (pa_cons (pv 1) pa_nil))) pe_int (fun _ _ => rfl)))), ?_⟩
    obtain ⟨a, o, rfl, ha, hb, ho, k⟩ := h
    refine ⟨_, rfl, _, rfl, a, o, rfl, ha, hb, ho, fun p H' sm hp ht => ?_⟩
    exact ⟨p, _, 1, _, rfl, rfl, SqT.of ht, rfl, k H' sm⟩
def q_power_of (K : PySem.W.Frag) : Sp := fun vs H Q _ => ∃ a t m : Nat, vs = [vn a, vn t, vn m] ∧ a < 2 ^ 64 ∧ m < 2 ^ 32 ∧ m ≠ 0 ∧ ∀ H', Same H H' → Q (vn (powr a t m)) H'
theorem ok_power_of (D : Ok K mg) : FnOk P w K mg base CX0 4 (He.ga K "power_of") (fdA K (He.ga K "power_of")) ["one", "times", "modulo"] (q_power_of K) := by
  refine D.f_power_of.ok sc_power_of (fun vs H Q E h => ?_) (fun cdv A outer s H vs Q E hr h => ?_)
  · obtain ⟨_, _, _, rfl, _⟩ := h
    rfl
  · refine ⟨_, PSs.nox (pss_cons (ps_par3 (i := 3) (j := 4) (l := 5) (by rfl) sc_power_of.nd rfl rfl rfl (by decide) (by decide) (by decide) rfl rfl rfl (pa_cons (pe_call (ok_rest_of D) (hr.mono (by decide)) rfl D.m_rest_of D.f_rest_of.kp D.b_rest_of .nil pass0 (pa_cons pe_int (pa_cons (pv 2) pa_nil))) (pa_cons (pe_call (ok_rest_of D) (hr.mono (by decide)) rfl D.m_rest_of D.f_rest_of.kp D.b_rest_of .nil pass0 (pa_cons (pv 0) (pa_cons (pv 2) pa_nil))) (pa_cons (pv 1) pa_nil))) (by rfl))
  (pss_cons (ps_while PassesOwn.never (pt_cmpR op_gt (pv 5) pe_int (nomark _))
    (pss_cons (ps_if (pt_cmpR op_eq (pe_op omd (pv 5) pe_int) pe_int (nomark _)) (pss_one (ps_set (i := 3) sc_power_of.nd rfl (.inl rfl) (pe_call (ok_rest_of D) (hr.mono (by decide)) rfl D.m_rest_of D.f_rest_of.kp D.b_rest_of .nil pass0 (pa_cons (pe_call (ok_times_of D) (hr.mono (by decide)) rfl D.m_times_of D.f_times_of.kp D.b_times_of .nil pass0 (pa_cons (pv 3) (pa_cons (pv 4) pa_nil))) (pa_cons (pv 2) pa_nil))))) pss_nil)
  (pss_one (ps_par (i := 4) (j := 5) (by rfl) sc_power_of.nd rfl rfl (by decide) rfl rfl (pa_cons (pe_call (ok_rest_of D) (hr.mono (by decide)) rfl D.m_rest_of D.f_rest_of.kp D.b_rest_of .nil pass0 (pa_cons (pe_call (ok_times_of D) (hr.mono (by decide)) rfl D.m_times_of D.f_times_of.kp D.b_times_of .nil pass0 (pa_cons (pv 4) (pa_cons (pv 4) pa_nil))) (pa_cons (pv 2) pa_nil))) (pa_cons (pe_op osr (pv 5) pe_int) pa_nil)) (by rfl)))))
  (pss_one (ps_ret (pv 3))))), ?_⟩
    obtain ⟨a, t, m, rfl, ha, hm, m0, k⟩ := h
    have m64 : m < 2 ^ 64 := Nat.lt_of_lt_of_le hm (by decide)
    have lt32 : ∀ x, md x m < 2 ^ 32 := fun x => Nat.lt_trans (md_lt x (n := 31) m0 hm) (by decide)
    refine ⟨_, rfl, 1, m, rfl, by decide, m64, m0, fun H1 s1 => ?_⟩
    refine ⟨_, rfl, _, rfl, a, m, rfl, ha, m64, m0, fun H2 s2 => ?_⟩
    refine ⟨_, rfl, _, _, _, rfl, ?_⟩
    refine ⟨fun n σ H' => Same H H' ∧ ∃ fo he re : Nat, n = blen re ∧ fo < 2 ^ 32 ∧ he < 2 ^ 32 ∧ powL m (blen re) fo he re = powr a t m ∧ σ = [some (vn a), some (vn t), some (vn m), some (vn fo), some (vn he), some (vn re)],
      ⟨_, s1.trans s2, md 1 m, md a m, t, rfl, lt32 _, lt32 _, rfl, rfl⟩, ?_⟩
    rintro n σ H' ⟨sm, fo, he, re, rfl, hf, hh, e, rfl⟩
    refine ⟨_, rfl, _, _, rfl, rfl, _, rfl, ?_⟩
    refine itL (n := 0) (fun hpos => ?_) (fun hz => ?_)
    · have hs := half_step hpos
      have fin : powL m (blen (re / 2)) (if re % 2 = 1 then md (cl fo he) m else fo) (md (cl he he) m) (re / 2) = powr a t m := by
        obtain ⟨j, ej⟩ : ∃ j, blen re = j + 1 := ⟨blen re - 1, by omega⟩
        rw [ej, powL_step (Nat.pos_iff_ne_zero.mp hpos)] at e
        rw [← e]
        exact powL_fuel m _ _ _ _ _ (Nat.le_refl _) (by omega)
      refine ⟨fun σ' H2 => ∃ m', m' < _ ∧ Same H H2 ∧ ∃ fo he re : Nat, m' = blen re ∧ fo < 2 ^ 32 ∧ he < 2 ^ 32 ∧ powL m (blen re) fo he re = powr a t m ∧ σ' = [some (vn a), some (vn t), some (vn m), some (vn fo), some (vn he), some (vn re)], fun _ _ h => h, ?_⟩
      refine ⟨_, rfl, _, 2, rfl, rfl, (by show 0 < 2; decide), rfl, _, rfl, ?_⟩
      refine itE (m := 1) (fun ho => ?_) (fun ho => ?_)
      · rw [if_pos ho] at fin
        refine ⟨_, rfl, _, rfl, fo, he, rfl, hf, hh, _, rfl, _, m, rfl, cl_lt (i := 32) 32 _ _ hf hh, m64, m0, fun H3 s3 => ?_⟩
        refine ⟨_, rfl, _, rfl, he, he, rfl, hh, hh, _, rfl, _, m, rfl, cl_lt (i := 32) 32 _ _ hh hh, m64, m0, fun H4 s4 => ?_⟩
        refine ⟨_, rfl, _, 1, rfl, rfl, trivial, _, _, rfl, ?_⟩
        exact ⟨_, hs, (sm.trans s3).trans s4, _, _, re / 2, rfl, lt32 _, lt32 _, fin, rfl⟩
      · rw [if_neg ho] at fin
        refine ⟨_, rfl, _, rfl, he, he, rfl, hh, hh, _, rfl, _, m, rfl, cl_lt (i := 32) 32 _ _ hh hh, m64, m0, fun H4 s4 => ?_⟩
        refine ⟨_, rfl, _, 1, rfl, rfl, trivial, _, _, rfl, ?_⟩
        exact ⟨_, hs, sm.trans s4, _, _, re / 2, rfl, hf, lt32 _, fin, rfl⟩
    · have hz : re = 0 := Nat.le_zero.mp hz
      subst hz
      rw [powL_zero] at e
      refine ⟨_, rfl, ?_⟩
      rw [e]
      exact k H' sm
end
end K71
end

section
set_option maxHeartbeats 4000000
/-! the walk: clearing.py, the class Span -/
namespace K71
open PySem PySem.Spec PyProof.Rows L2 KM
/-! ### what an instance holds -/
def spf (d l : Addr) : List (Str × V) := putF "own_idle" (.ref l) (putF "own_leads" (.ref d) [])
theorem idle_ne : ¬ (("own_idle" : Str) = "own_leads") := by decide +kernel
theorem leads_ne : ¬ (("own_leads" : Str) = "own_idle") := by decide +kernel
theorem spf_leads (d l : Addr) : (spf d l).lookup ("own_leads" : Str) = some (.ref d) := by
  unfold spf
  rw [lookup_putF, if_neg leads_ne, lookup_putF, if_pos rfl]
theorem spf_idle (d l : Addr) : (spf d l).lookup ("own_idle" : Str) = some (.ref l) := by
  unfold spf
  rw [lookup_putF, if_pos rfl]
theorem spf_no (d l : Addr) {m : Str} (h1 : ¬ m = "own_leads") (h2 : ¬ m = "own_idle") : (spf d l).lookup m = none := by
  unfold spf
  rw [lookup_putF, if_neg h2, lookup_putF, if_neg h1]
  rfl
/-- the dict kvs holds the leads L -/
inductive LdAt (H : Hp) : List (Key × V) → Ld → Prop
  | nil : LdAt H [] []
  | cons {kvs : List (Key × V)} {L : Ld} {k : Nat} {e : Nat × Nat} {t : Addr} : H t = some (.tup [vn e.1, vn e.2]) → LdAt H kvs L → LdAt H ((Sum.inl (k : Int), .ref t) :: kvs) ((k, e) :: L)
theorem LdAt.mono {H H' : Hp} {kvs : List (Key × V)} {L : Ld} (s : ∀ t xs, H t = some (.tup xs) → H' t = some (.tup xs)) (h : LdAt H kvs L) : LdAt H' kvs L := by
  induction h with
  | nil => exact .nil
  | cons e _ ih => exact .cons (s _ _ e) ih
theorem LdAt.length {H : Hp} {kvs : List (Key × V)} {L : Ld} (h : LdAt H kvs L) : kvs.length = L.length := by
  induction h with
  | nil => rfl
  | cons _ _ ih => rw [List.length_cons, List.length_cons, ih]
theorem LdAt.snoc {H : Hp} {kvs : List (Key × V)} {L : Ld} {k : Nat} {e : Nat × Nat} {t : Addr} (h : LdAt H kvs L) (ht : H t = some (.tup [vn e.1, vn e.2])) : LdAt H (kvs ++ [(Sum.inl (k : Int), .ref t)]) (L ++ [(k, e)]) := by
  induction h with
  | nil => exact .cons ht .nil
  | cons e _ ih => exact .cons e ih
theorem inl_iff (a b : Nat) : ((Sum.inl (a : Int) : Key) = Sum.inl (b : Int)) ↔ a = b := ⟨fun h => Int.ofNat.inj (Sum.inl.inj h), fun h => by rw [h]⟩
theorem LdAt.get {H : Hp} {kvs : List (Key × V)} {L : Ld} (h : LdAt H kvs L) (k : Nat) :
    (getL L k = none ∧ valV kvs (Sum.inl (k : Int) : Key) = none) ∨ ∃ e t, getL L k = some e ∧ valV kvs (Sum.inl (k : Int) : Key) = some (.ref t) ∧ H t = some (.tup [vn e.1, vn e.2]) := by
  induction h with
  | nil => exact .inl ⟨rfl, rfl⟩
  | @cons kvs L j e t ht _ ih =>
    by_cases q : j = k
    · subst q
      refine .inr ⟨e, t, ?_, valV_pos (p := (Sum.inl (j : Int), V.ref t)) rfl, ht⟩
      unfold getL
      rw [List.find?_cons, decide_eq_true rfl]; rfl
    · have g : getL ((j, e) :: L) k = getL L k := by
        unfold getL
        rw [List.find?_cons, decide_eq_false q]
      rw [g, valV_neg (p := (Sum.inl (j : Int), V.ref t)) (fun z => q ((inl_iff _ _).mp z))]
      exact ih
/-- a Span stands at p -/
def SpIn (K : PySem.W.Frag) (H : Hp) (p : Addr) (S : Spn) (dx d l : Addr) (kvs : List (Key × V)) : Prop :=
  H p = some (.ins (cSpan K) dx (spf d l)) ∧ H d = some (.dK kvs) ∧ LdAt H kvs S.leads ∧ H l = some (.lst (vns S.idle))
/-- a Span stands at p, made behind H0 -/
def SpAt (K : PySem.W.Frag) (H0 H : Hp) (p : Addr) (S : Spn) : Prop := Same H0 H ∧ H0 p = none ∧ ∃ dx d l kvs, SpIn K H p S dx d l kvs ∧ H0 d = none ∧ H0 l = none
theorem SpIn.mono {K : PySem.W.Frag} {H H' : Hp} {p : Addr} {S : Spn} {dx d l : Addr} {kvs : List (Key × V)} (e : Same H H') (h : SpIn K H p S dx d l kvs) : SpIn K H' p S dx d l kvs :=
  ⟨e _ _ h.1, e _ _ h.2.1, h.2.2.1.mono fun t xs q => e _ _ q, e _ _ h.2.2.2⟩
theorem SpAt.mono {K : PySem.W.Frag} {H0 H H' : Hp} {p : Addr} {S : Spn} (e : Same H H') (h : SpAt K H0 H p S) : SpAt K H0 H' p S := by
  obtain ⟨s, p0, dx, d, l, kvs, i, d0, l0⟩ := h
  exact ⟨s.trans e, p0, dx, d, l, kvs, i.mono e, d0, l0⟩
theorem ledF_step (L : Ld) (k r n : Nat) : ledF L (k + 1) (r, n) = ledF L k (if r.testBit k = true then (match getL L k with
    | some e => (r ^^^ e.1, n ^^^ e.2)
    | none => (r, n)) else (r, n)) := rfl
theorem tb_and (r k : Nat) : ((r >>> k) &&& 1 = 1) ↔ r.testBit k = true := by
  rw [Nat.and_one_is_mod, tb_shr, decide_eq_true_iff]
section
variable {P : Program} {w : World} {K : PySem.W.Frag} {mg : Str → Option Value} {base : Heap}
def q_sp_led (K : PySem.W.Frag) : Sp := fun vs H Q _ => ∃ (p : Addr) (row : Nat) (S : Spn) (dx d l : Addr) (kvs : List (Key × V)), vs = [.ref p, vn row] ∧ SpIn K H p S dx d l kvs ∧
  ∀ t H', Same H H' → H t = none → H' t = some (.tup [vn (led S.leads row).1, vn (led S.leads row).2]) → Q (.ref t) H'
theorem ok_sp_led (D : Ok K mg) : FnOk P w K mg base CX0 2 (He.ma K (cSpan K) "led") (fdA K (He.ma K (cSpan K) "led")) ["self", "row"] (q_sp_led K) := by
  refine D.f_sp_led.ok sc_sp_led (fun vs H Q E h => ?_) (fun cdv A outer s H vs Q E hr h => ?_)
  · obtain ⟨_, _, _, _, _, _, _, rfl, _⟩ := h
    rfl
  · refine ⟨_, PSs.nox (pss_cons (ps_par3 (i := 2) (j := 3) (l := 4) (by rfl) sc_sp_led.nd rfl rfl rfl (by decide) (by decide) (by decide) rfl rfl rfl (pa_cons (pv 1) (pa_cons pe_int (pa_cons (pe_call (ok_degree_of D) (hr.mono (by decide)) rfl D.m_degree_of D.f_degree_of.kp D.b_degree_of .nil pass0 (pa_cons (pv 1) pa_nil)) pa_nil))) (by rfl))
  (pss_cons (ps_while PassesOwn.never (pt_cmpR op_ge (pv 4) pe_int (nomark _))
    (pss_cons (ps_if (PW.pt (pw_and (pt_cmpR op_eq (pe_op oa (pe_op osr (pv 2) (pv 4)) pe_int) pe_int (nomark _)) (pw_and1 (pt_cmp (pc_din (hu_of hr) (pv 4) (pe_fld (pv 0) rfl)))))) (pss_cons (ps_asg (pe_dget (hu_of hr) (pe_fld (pv 0) rfl) (pv 4) (fun _ _ => rfl)) (pg_tup (by rfl) (pgs_cons (pg_name (i := 5) sc_sp_led.nd rfl (.inl rfl)) (pgs_cons (pg_name (i := 6) sc_sp_led.nd rfl (.inl rfl)) pgs_nil))))
  (pss_one (ps_par (i := 2) (j := 3) (by rfl) sc_sp_led.nd rfl rfl (by decide) rfl rfl (pa_cons (pe_op ox (pv 2) (pv 5)) (pa_cons (pe_op ox (pv 3) (pv 6)) pa_nil)) (by rfl)))) pss_nil)
  (pss_one (ps_set (i := 4) sc_sp_led.nd rfl (.inl rfl) (pe_op osz (pv 4) pe_int)))))
  (pss_one (ps_ret (pe_tup (pa_cons (pv 2) (pa_cons (pv 3) pa_nil))))))), ?_⟩
    obtain ⟨p, row, S, dx, d, l, kvs, rfl, ⟨hp, hd, hL, hl⟩, k⟩ := h
    refine ⟨_, rfl, _, rfl, row, rfl, _, _, _, rfl, ?_⟩
    refine ⟨fun m σ H' => H' = H ∧ ∃ (r n : Nat) (z : Int) (y5 y6 : Option V), z = (m : Int) - 1 ∧ ledF S.leads m (r, n) = led S.leads row ∧ σ = [some (.ref p), some (vn row), some (vn r), some (vn n), some (.int z), y5, y6],
      ⟨_, rfl, row, 0, _, none, none, rfl, rfl, rfl⟩, ?_⟩
    rintro m σ H' ⟨rfl, r, n, z, y5, y6, ez, e, rfl⟩
    refine ⟨_, rfl, _, _, rfl, rfl, _, rfl, ?_⟩
    refine itI (fun hc => ?_) (fun hc => ?_)
    · obtain ⟨j, rfl⟩ : ∃ j, m = j + 1 := ⟨m - 1, by omega⟩
      obtain rfl : z = (j : Int) := by omega
      rw [ledF_step] at e
      refine ⟨fun σ' H2 => ∃ m2, m2 < j + 1 ∧ H2 = H' ∧ ∃ (r n : Nat) (z : Int) (y5 y6 : Option V), z = (m2 : Int) - 1 ∧ ledF S.leads m2 (r, n) = led S.leads row ∧ σ' = [some (.ref p), some (vn row), some (vn r), some (vn n), some (.int z), y5, y6], fun _ _ h => h, ?_⟩
      refine ⟨_, rfl, _, rfl, _, _, rfl, rfl, trivial, _, 1, rfl, rfl, rfl, _, rfl, ?_⟩
      refine itE (m := 1) (fun h1 => ?_) (fun h1 => ?_)
      · rw [if_pos ((tb_and r j).mp h1)] at e
        refine ⟨_, rfl, _, rfl, p, _, dx, _, _, rfl, hp, D.cl, D.no_own_leads, spf_leads _ _, d, _, rfl, DGet.k (k := Sum.inl (j : Int)) hd, _, rfl, ?_⟩
        rcases hL.get j with ⟨g1, g2⟩ | ⟨e', t, g1, g2, ht⟩
        · rw [g1] at e
          rw [g2]
          refine iteF ?_
          exact ⟨_, rfl, _, _, ((j : Int) - 1), rfl, rfl, rfl, j, Nat.lt_succ_self _, rfl, r, n, _, y5, y6, rfl, e, rfl⟩
        · rw [g1] at e
          rw [g2]
          refine iteT ?_
          refine ⟨_, rfl, p, _, dx, _, _, rfl, hp, D.cl, D.no_own_leads, spf_leads _ _, _, rfl, d, .ref t, rfl, by rw [← g2]; exact DGet.k (k := Sum.inl (j : Int)) hd, ?_⟩
          refine ⟨t, _, rfl, SqT.of ht, rfl, _, _, rfl, _, _, rfl, rfl, ?_⟩
          refine ⟨_, rfl, _, rfl, _, _, rfl, rfl, _, rfl, _, rfl, _, _, rfl, rfl, _, _, rfl, ?_⟩
          exact ⟨_, rfl, _, _, ((j : Int) - 1), rfl, rfl, rfl, j, Nat.lt_succ_self _, rfl, _, _, _, _, _, rfl, e, rfl⟩
      · rw [if_neg (fun q => h1 ((tb_and r j).mpr q))] at e
        refine iteF ?_
        exact ⟨_, rfl, _, _, ((j : Int) - 1), rfl, rfl, rfl, j, Nat.lt_succ_self _, rfl, r, n, _, y5, y6, rfl, e, rfl⟩
    · obtain rfl : m = 0 := by omega
      refine ⟨_, rfl, _, rfl, by show 2 ≤ sizeLine; decide, fun t ht => ?_⟩
      refine k t _ (same_new ht) ht ?_
      rw [upd_same, ← e]; rfl
def q_sp_amount (K : PySem.W.Frag) : Sp := fun vs H Q _ => ∃ (p : Addr) (S : Spn) (dx d l : Addr) (kvs : List (Key × V)), vs = [.ref p] ∧ SpIn K H p S dx d l kvs ∧ Q (vn S.leads.length) H
theorem ok_sp_amount (D : Ok K mg) : FnOk P w K mg base CX0 1 (He.ma K (cSpan K) "amount") (fdA K (He.ma K (cSpan K) "amount")) ["self"] (q_sp_amount K) := by
  refine D.f_sp_amount.ok sc_sp_amount (fun vs H Q E h => ?_) (fun cdv A outer s H vs Q E hr h => ?_)
  · obtain ⟨_, _, _, _, _, _, rfl, _⟩ := h
    rfl
  · refine ⟨_, PSs.nox (pss_one (ps_ret (pe_callB call_lenD (by rfl) D.z_len (by decide +kernel) (pa_cons (pe_fld (pv 0) rfl) pa_nil)))), ?_⟩
    obtain ⟨p, S, dx, d, l, kvs, rfl, ⟨hp, hd, hL, hl⟩, k⟩ := h
    refine ⟨_, rfl, p, _, dx, _, _, rfl, hp, D.cl, D.no_own_leads, spf_leads _ _, d, kvs, rfl, hd, ?_⟩
    rw [hL.length]
    exact k
def q_sp_idle (K : PySem.W.Frag) : Sp := fun vs H Q _ => ∃ (p : Addr) (S : Spn) (dx d l : Addr) (kvs : List (Key × V)), vs = [.ref p] ∧ SpIn K H p S dx d l kvs ∧ Q (.ref l) H
theorem ok_sp_idle (D : Ok K mg) : FnOk P w K mg base CX0 1 (He.ma K (cSpan K) "idle") (fdA K (He.ma K (cSpan K) "idle")) ["self"] (q_sp_idle K) := by
  refine D.f_sp_idle.ok sc_sp_idle (fun vs H Q E h => ?_) (fun cdv A outer s H vs Q E hr h => ?_)
  · obtain ⟨_, _, _, _, _, _, rfl, _⟩ := h
    rfl
  · refine ⟨_, PSs.nox (pss_one (ps_ret (pe_fld (pv 0) rfl))), ?_⟩
    obtain ⟨p, S, dx, d, l, kvs, rfl, ⟨hp, hd, hL, hl⟩, k⟩ := h
    exact ⟨_, rfl, p, _, dx, _, _, rfl, hp, D.cl, D.no_own_idle, spf_idle _ _, k⟩
/-- a number, or None -/
def vo : Option Nat → V
  | some n => vn n
  | none => .non
def q_sp_numbers_for (K : PySem.W.Frag) : Sp := fun vs H Q _ => ∃ (p : Addr) (row : Nat) (S : Spn) (dx d l : Addr) (kvs : List (Key × V)), vs = [.ref p, vn row] ∧ SpIn K H p S dx d l kvs ∧ ∀ H', Same H H' → Q (vo (S.num row)) H'
theorem ok_sp_numbers_for (D : Ok K mg) : FnOk P w K mg base CX0 3 (He.ma K (cSpan K) "numbers_for") (fdA K (He.ma K (cSpan K) "numbers_for")) ["self", "row"] (q_sp_numbers_for K) := by
  refine D.f_sp_numbers_for.ok sc_sp_numbers_for (fun vs H Q E h => ?_) (fun cdv A outer s H vs Q E hr h => ?_)
  · obtain ⟨_, _, _, _, _, _, _, rfl, _⟩ := h
    rfl
  · refine ⟨_, PSs.nox (pss_cons (ps_asg (pe_meth (pv 0) D.cl D.t_sp_led (ok_sp_led D) (hr.mono (by decide)) D.b_sp_led .nil pass0 (pa_cons (pv 1) pa_nil)) (pg_tup (by rfl) (pgs_cons (pg_name (i := 2) sc_sp_numbers_for.nd rfl (.inl rfl)) (pgs_cons (pg_name (i := 3) sc_sp_numbers_for.nd rfl (.inl rfl)) pgs_nil))))
  (pss_one (ps_ret (pe_ifExp (pt_cmpR op_eq (pv 2) pe_int (nomark _)) (pv 3) pe_non)))), ?_⟩
    obtain ⟨p, row, S, dx, d, l, kvs, rfl, hI, k⟩ := h
    refine ⟨_, rfl, p, dx, _, rfl, hI.1, spf_no _ _ (by decide +kernel) (by decide +kernel), _, rfl, p, row, S, dx, d, l, kvs, rfl, hI, fun t H' sm ht hT => ?_⟩
    refine ⟨t, _, rfl, SqT.of hT, rfl, _, _, rfl, _, _, rfl, rfl, ?_⟩
    refine ⟨_, rfl, rfl, _, rfl, ?_⟩
    have kk := k H' sm
    unfold Spn.num at kk
    refine itE (m := 0) (fun h => ?_) (fun h => ?_)
    · rw [if_pos h] at kk
      exact ⟨_, rfl, kk⟩
    · rw [if_neg h] at kk
      exact kk
end
end K71
end

section
set_option maxHeartbeats 4000000
/-! the walk: clearing.py, put and __init__ -/
namespace K71
open PySem PySem.Spec PyProof.Rows L2 KM
section
variable {P : Program} {w : World} {K : PySem.W.Frag} {mg : Str → Option Value} {base : Heap}
def q_sp_put (K : PySem.W.Frag) : Sp := fun vs H Q _ => ∃ (H0 : Hp) (p : Addr) (row num : Nat) (S : Spn), vs = [.ref p, vn row, vn num] ∧ SpAt K H0 H p S ∧ ((led S.leads row).1 ≠ 0 → getL S.leads (blen (led S.leads row).1 - 1) = none) ∧
  S.idle.length < 10000 ∧ S.leads.length < 10000 ∧ ∀ H', SpAt K H0 H' p (S.put row num) → Q .non H'
theorem ok_sp_put (D : Ok K mg) : FnOk P w K mg base CX0 3 (He.ma K (cSpan K) "put") (fdA K (He.ma K (cSpan K) "put")) ["self", "row", "numbers"] (q_sp_put K) := by
  refine D.f_sp_put.ok sc_sp_put (fun vs H Q E h => ?_) (fun cdv A outer s H vs Q E hr h => ?_)
  · obtain ⟨_, _, _, _, _, rfl, _⟩ := h
    rfl
  · refine ⟨_, PSs.nox (pss_cons (ps_asg (pe_meth (pv 0) D.cl D.t_sp_led (ok_sp_led D) (hr.mono (by decide)) D.b_sp_led .nil pass0 (pa_cons (pv 1) pa_nil)) (pg_tup (by rfl) (pgs_cons (pg_name (i := 3) sc_sp_put.nd rfl (.inl rfl)) (pgs_cons (pg_name (i := 4) sc_sp_put.nd rfl (.inl rfl)) pgs_nil))))
  (pss_one (ps_if (pt_cmpR op_eq (pv 3) pe_int (nomark _)) (pss_one (ps_expr (pe_bm PySem.F.plainAttrs_list PySem.F.slot_list_append PySem.F.type_list_append mt_append (pe_fld (pv 0) rfl) (pa_cons (pe_op ox (pv 4) (pv 2)) pa_nil)))) (pss_one (ps_dput (hu_of hr) (pe_fld (pv 0) rfl) (pe_call (ok_degree_of D) (hr.mono (by decide)) rfl D.m_degree_of D.f_degree_of.kp D.b_degree_of .nil pass0 (pa_cons (pv 3) pa_nil)) (pe_tup (pa_cons (pv 3) (pa_cons (pe_op ox (pv 4) (pv 2)) pa_nil))) rfl))))), ?_⟩
    obtain ⟨H0, p, row, num, S, rfl, ⟨s0, p0, dx, d, l, kvs, hI, d0, l0⟩, hfree, hidle, hleads, k⟩ := h
    refine ⟨_, rfl, p, dx, _, rfl, hI.1, spf_no _ _ (by decide +kernel) (by decide +kernel), _, rfl, p, row, S, dx, d, l, kvs, rfl, hI, fun t H1 sm ht hT => ?_⟩
    obtain ⟨hp, hd, hL, hl⟩ := hI.mono sm
    have npd : p ≠ d := ne_of hp hd (by intro z; cases z)
    have npl : p ≠ l := ne_of hp hl (by intro z; cases z)
    have nld : l ≠ d := ne_of hl hd (by intro z; cases z)
    refine ⟨t, _, rfl, SqT.of hT, rfl, _, _, rfl, _, _, rfl, rfl, ?_⟩
    refine ⟨_, rfl, rfl, _, rfl, ?_⟩
    unfold Spn.put at k
    refine itE (m := 0) (fun h => ?_) (fun h => ?_)
    · rw [if_pos h] at k
      refine ⟨_, rfl, p, _, dx, _, _, rfl, hp, D.cl, D.no_own_idle, spf_idle _ _, .inl ⟨rfl, _, SqL.of hl⟩, _, rfl, _, rfl, _, _, rfl, rfl, l, _, _, rfl, rfl, hl, szl (by rw [vns_len]; omega), ?_⟩
      refine k _ ⟨smut (s0.trans sm) l0, p0, dx, d, l, kvs, ⟨?_, ?_, hL.mono fun t xs q => ?_, ?_⟩, d0, l0⟩
      · rw [upd_ne npl]; exact hp
      · rw [upd_ne nld.symm]; exact hd
      · rw [upd_ne (ne_of q hl (by intro z; cases z))]; exact q
      · rw [upd_same, vns, vns, List.map_append]; rfl
    · rw [if_neg h] at k
      have hb := blen_pos h
      have ez : ((blen (led S.leads row).1 : Int) - 1) = ((blen (led S.leads row).1 - 1 : Nat) : Int) := by omega
      refine ⟨_, rfl, _, rfl, _, rfl, _, _, rfl, rfl, by show 2 ≤ sizeLine; decide, fun t2 ht2 => ?_⟩
      have sm2 : Same H1 (upd H1 t2 (.tup [vn (led S.leads row).1, vn ((led S.leads row).2 ^^^ num)])) := same_new ht2
      have nd2 : d ≠ t2 := ne_of_none hd ht2
      refine ⟨_, rfl, p, _, dx, _, _, rfl, sm2 _ _ hp, D.cl, D.no_own_leads, spf_leads _ _, _, rfl, _, rfl, ?_⟩
      rw [ez]
      have hv : valV kvs (Sum.inl ((blen (led S.leads row).1 - 1 : Nat) : Int) : Key) = none := by
        rcases hL.get (blen (led S.leads row).1 - 1) with ⟨_, g2⟩ | ⟨e', t', g1, _, _⟩
        · exact g2
        · rw [hfree h] at g1; cases g1
      refine ⟨d, _, rfl, DPut.k (k := Sum.inl ((blen (led S.leads row).1 - 1 : Nat) : Int)) (sm2 _ _ hd) (szl (by rw [hL.length]; omega)), ?_⟩
      rw [putK_new _ hv]
      have sm3 := sm2
      refine k _ ⟨smut ((s0.trans sm).trans sm2) d0, p0, dx, d, l, _, ⟨?_, upd_same, (LdAt.snoc (hL.mono fun t xs q => sm2 _ _ q) upd_same).mono fun t xs q => ?_, ?_⟩, d0, l0⟩
      · rw [upd_ne npd]; exact sm2 _ _ hp
      · rw [upd_ne (ne_of q (sm2 _ _ hd) (by intro z; cases z))]; exact q
      · rw [upd_ne nld]; exact sm2 _ _ hl
def q_sp_init (K : PySem.W.Frag) : Sp := fun vs H Q _ => ∃ (H0 : Hp) (p dx a : Addr) (rows : List Nat), vs = [.ref p, .ref a] ∧ Same H0 H ∧ H0 p = none ∧ H p = some (.ins (cSpan K) dx []) ∧ SqL K H a (vns rows) ∧ rows.length ≤ 100 ∧ (∀ r ∈ rows, r < 2 ^ 64) ∧ ∀ H', SpAt K H0 H' p (Spn.of rows) → Q .non H'
theorem putAll_step {rows : List Nat} {i r : Nat} (h : rows[i]? = some r) : Spn.putAll ⟨[], []⟩ 0 (rows.take (i + 1)) = (Spn.putAll ⟨[], []⟩ 0 (rows.take i)).put r (1 <<< i) := by
  have hi : i < rows.length := (List.getElem?_eq_some_iff.mp h).1
  rw [take_succ h, KM.putAll_snoc, List.length_take, Nat.zero_add, Nat.min_eq_left (Nat.le_of_lt hi)]
theorem put_idle (S : Spn) (r n : Nat) : (S.put r n).idle.length ≤ S.idle.length + 1 := by
  unfold Spn.put
  split
  · show (S.idle ++ [_]).length ≤ _
    rw [List.length_append]
    exact Nat.le_refl _
  · exact Nat.le_succ _
theorem putAll_idle : ∀ (l : List Nat) (S : Spn) (i : Nat), (S.putAll i l).idle.length ≤ S.idle.length + l.length
  | [], S, i => Nat.le_refl _
  | r :: l, S, i => by
    show ((S.put r (1 <<< i)).putAll (i + 1) l).idle.length ≤ S.idle.length + (l.length + 1)
    have := putAll_idle l (S.put r (1 <<< i)) (i + 1)
    have := put_idle S r (1 <<< i)
    omega
/-- the heap without what stands at p -/
def hide (H : Hp) (p : Addr) : Hp := fun b => if b = p then none else H b
theorem hide_at (H : Hp) (p : Addr) : hide H p p = none := if_pos rfl
theorem hide_ne {H : Hp} {p b : Addr} (h : b ≠ p) : hide H p b = H b := if_neg h
theorem hide_same (H : Hp) (p : Addr) : Same (hide H p) H := fun b o e => by
  by_cases h : b = p
  · rw [h, hide_at] at e; cases e
  · rwa [hide_ne h] at e
theorem same_hide {H0 H : Hp} {p : Addr} (s : Same H0 H) (h : H0 p = none) : Same H0 (hide H p) := fun b o e => by
  rw [hide_ne (ne_of_none e h)]
  exact s b o e
theorem spAt_low {H0 H1 H : Hp} {p : Addr} {S : Spn} (s : Same H0 H1) (h : SpAt K H1 H p S) : SpAt K H0 H p S := by
  obtain ⟨a, p0, dx, d, l, kvs, i, d0, l0⟩ := h
  exact ⟨s.trans a, s.free p0, dx, d, l, kvs, i, s.free d0, s.free l0⟩
theorem seq_hide {H : Hp} {a p C dx : Addr} {xs : List V} {fs : List (Str × V)} (h : SqL K H a xs) (hp : H p = some (.ins C dx fs)) : SqL K (hide H p) a xs := by
  rcases h with (h | ⟨o, h⟩) | h
  · exact .inl (.inl (Eq.trans (hide_ne (ne_of h hp (by intro z; cases z))) h))
  · exact .inl (.inr ⟨o, Eq.trans (hide_ne (ne_of h hp (by intro z; cases z))) h⟩)
  · exact .inr h
theorem ok_sp_init (D : Ok K mg) : FnOk P w K mg base CX0 4 (He.ma K (cSpan K) "__init__") (fdA K (He.ma K (cSpan K) "__init__")) ["self", "rows"] (q_sp_init K) := by
  refine D.f_sp_init.ok sc_sp_init (fun vs H Q E h => ?_) (fun cdv A outer s H vs Q E hr h => ?_)
  · obtain ⟨_, _, _, _, _, rfl, _⟩ := h
    rfl
  · refine ⟨_, PSs.nox (pss_cons (ps_fld (pv 0) pe_dnewK rfl)
  (pss_cons (ps_fld (pv 0) (pe_lst pa_nil) rfl)
  (pss_one (ps_for PassesOwn.never rfl (pi_enum (by rfl) D.z_enumerate (pa_cons (pv 1) pa_nil)) (pg_tup (by rfl) (pgs_cons (pg_name (i := 2) sc_sp_init.nd rfl (.inl rfl)) (pgs_cons (pg_name (i := 3) sc_sp_init.nd rfl (.inl rfl)) pgs_nil)))
    (pss_one (ps_expr (pe_meth (pv 0) D.cl D.t_sp_put (ok_sp_put D) (hr.mono (by decide)) D.b_sp_put .nil pass0 (pa_cons (pv 3) (pa_cons (pe_op osl pe_int (pv 2)) pa_nil))))))))), ?_⟩
    obtain ⟨H0, p, dx, a, rows, rfl, s0, p0, hp, hS, hlen, hrow, k⟩ := h
    intro d hd
    have npd : p ≠ d := ne_of_none hp hd
    have s1 : Same H (upd H d (.dK [])) := same_new hd
    refine ⟨_, rfl, p, _, dx, [], rfl, s1 _ _ hp, D.cl, D.no_own_leads, by show 0 < 1000; decide, ?_⟩
    refine ⟨Nat.zero_le _, fun l hl => ?_⟩
    have npl : p ≠ l := fun e => by rw [e, upd_same] at hl; cases hl
    have ndl : d ≠ l := fun e => by rw [e, upd_ne (by rw [← e]; exact npd.symm), upd_same] at hl; cases hl
    have hl0 : H l = none := by
      rw [upd_ne npl.symm, upd_ne ndl.symm] at hl
      exact hl
    refine ⟨_, rfl, p, _, dx, _, rfl, by rw [upd_ne npl]; exact upd_same, D.cl, D.no_own_idle, by show 1 < 1000; decide, ?_⟩
    have s0' := same_hide s0 p0
    have hS' := seq_hide hS hp
    generalize hHb : hide H p = Hb at s0' hS'
    have pb : Hb p = none := by rw [← hHb]; exact hide_at H p
    have sb : Same Hb H := by rw [← hHb]; exact hide_same H p
    generalize hHf : upd (upd (upd (upd H d (.dK [])) p (.ins (cSpan K) dx (putF "own_leads" (.ref d) []))) l (.lst [])) p (.ins (cSpan K) dx (putF "own_idle" (.ref l) (putF "own_leads" (.ref d) []))) = Hf
    have A0 : SpAt K Hb Hf p ⟨[], []⟩ := by
      refine ⟨?_, pb, dx, d, l, [], ⟨?_, ?_, .nil, ?_⟩, sb.free hd, sb.free hl0⟩
      · rw [← hHf]
        exact smut (smut (smut (smut sb (sb.free hd)) pb) (sb.free hl0)) pb
      · rw [← hHf, upd_same]; rfl
      · rw [← hHf, upd_ne npd.symm, upd_ne ndl, upd_ne npd.symm, upd_same]
      · rw [← hHf, upd_ne npl.symm, upd_same]; rfl
    refine ⟨_, rfl, a, _, rfl, A0.1.seq hS', for_it (walk_enum (xs := vns rows)) (fun i σ H' => ∃ y2 y3, σ = [some (.ref p), some (.ref a), y2, y3] ∧ SpAt K Hb H' p (Spn.putAll ⟨[], []⟩ 0 (rows.take i))) ⟨none, none, rfl, A0⟩ (fun i σ H' _ ⟨_, _, _, h⟩ => h.1.seq hS') ?_ ?_⟩
    · rintro i x σ H1 H2 hi ⟨y2, y3, rfl, R⟩ ⟨T, x2, x3, rfl, nT, rfl, e2, e3⟩
      cases e2
      obtain ⟨r, er, rfl⟩ := vns_at e3
      rw [vns_len] at hi
      have sT : Same H1 (upd H1 T (.tup [.int (i : Nat), vn r])) := same_new nT
      have R2 := R.mono sT
      obtain ⟨sR, pR, dx2, d2, l2, kvs2, hI, hd0, hl0⟩ := id R2
      have I := span_take (combR_lin rows) (N := 64) (rows := rows) (fun j r' h => ⟨combR_pow rows j r' h, hrow r' (List.mem_of_getElem? h)⟩) i (Nat.le_of_lt hi)
      refine ⟨T, _, rfl, SqT.of upd_same, rfl, _, _, rfl, _, _, rfl, rfl, ?_⟩
      refine ⟨_, rfl, p, dx2, _, rfl, hI.1, spf_no _ _ (by decide +kernel) (by decide +kernel), _, rfl, _, rfl, 1, i, rfl, rfl, ⟨by decide, by omega⟩, ?_⟩
      refine ⟨Hb, p, r, 1 <<< i, _, rfl, R2, I.new (hrow r (List.mem_of_getElem? er)), ?_, Nat.lt_of_le_of_lt I.le (by decide), fun H3 R3 => ?_⟩
      · have := putAll_idle (rows.take i) ⟨[], []⟩ 0
        have z : (⟨[], []⟩ : Spn).idle.length = 0 := rfl
        rw [z, List.length_take] at this
        omega
      · refine ⟨_, _, rfl, ?_⟩
        rw [putAll_step er]; exact R3
    · rintro σ H' ⟨y2, y3, rfl, R⟩
      rw [vns_len, List.take_length] at R
      exact k H' (spAt_low s0' R)
end
end K71
end

section
set_option maxHeartbeats 4000000
/-! rules that the layer lacks: t[::-1] of a tuple, sorted(d) of int keys, enumerate(text), set(list of ints) -/
namespace K71
open PySem PySem.Spec PyProof.Rows L2
/-! ### a tuple turned about -/
section
variable {prog : Program} {w : World} {A : Around} {E : Value → Shared → Prop} {s : Shared}
theorem adj_back (n : Nat) : Builtin.Slice.sliceAdjust none none (-1) (n : Int) = ((n : Int) - 1, -1) := rfl
theorem places_back (n : Nat) : Builtin.Slice.slicePlaces ((n : Int) - 1) (-1) (-1) = n := by
  unfold Builtin.Slice.slicePlaces
  rw [if_neg (by decide)]
  by_cases h : n = 0
  · subst h; rfl
  · rw [if_pos (by omega), show (-(-1) : Int) = 1 by decide, Int.ediv_one]
    omega
theorem fm_map {α β : Type} {f : α → Option β} {g : α → β} : ∀ (l : List α), (∀ m ∈ l, f m = some (g m)) → l.filterMap f = l.map g
  | [], _ => rfl
  | x :: l, h => by
    rw [List.filterMap_cons, h x (List.mem_cons_self ..), List.map_cons, fm_map l fun m hm => h m (List.mem_cons_of_mem _ hm)]
theorem pick_back (xs : Array Value) : ((List.range xs.size).filterMap fun (m : Nat) => xs[(((xs.size : Int) - 1) + (m : Int) * (-1)).toNat]?).toArray = xs.toList.reverse.toArray := by
  congr 1
  apply List.ext_getElem?
  intro i
  have e : ∀ m ∈ List.range xs.size, xs[(((xs.size : Int) - 1) + (m : Int) * (-1)).toNat]? = some (xs.toList.reverse.getD m .none) := fun m hm => by
    have hm := List.mem_range.mp hm
    have k : (((xs.size : Int) - 1) + (m : Int) * (-1)).toNat = xs.size - 1 - m := by omega
    rw [k, ← Array.getElem?_toList, List.getD_eq_getElem?_getD, List.getElem?_reverse (by rw [Array.length_toList]; exact hm), Array.length_toList, List.getElem?_eq_getElem (by rw [Array.length_toList]; omega)]
    rfl
  rw [fm_map _ e, List.getElem?_map]
  by_cases hi : i < xs.size
  · rw [List.getElem?_range hi]
    have hr : i < xs.toList.reverse.length := by rw [List.length_reverse, Array.length_toList]; exact hi
    rw [List.getElem?_eq_getElem hr]
    show some (xs.toList.reverse.getD i .none) = _
    rw [List.getD_eq_getElem?_getD, List.getElem?_eq_getElem hr]; rfl
  · rw [List.getElem?_eq_none (by rw [List.length_range]; omega), List.getElem?_eq_none (by rw [List.length_reverse, Array.length_toList]; omega)]; rfl
theorem slice_back {sl : Addr} {vs : Value} {n : Nat} {Q : Int × Int × Nat → Shared → Prop} (hs : s.heap.IsSliceOf sl .none .none vs) (ps : IsPart vs (some (-1))) (h : Q ((n : Int) - 1, -1, n) s) :
    wpAny (model prog w) A (Builtin.Slice.sliceApplied (.ref sl) (pure (n : Int))) Q E s := by
  obtain ⟨os, hos, _, hds⟩ := id hs
  unfold Builtin.Slice.sliceApplied Builtin.Slice.sliceFields
  refine wpAny_bind (wpAny_bind (wpAny_field hos hds (x := .none) rfl (wpAny_bind (wpAny_field hos hds (x := .none) rfl (wpAny_bind (wpAny_field hos hds (x := vs) rfl (wpAny_pure ?_)))))))
  refine wpAny_bind (HT.slicePart_ ps ?_)
  show wpAny _ _ (if ((-1 : Int) == 0) = true then _ else _) _ _ s
  rw [if_neg (by decide)]
  refine wpAny_bind (HT.slicePart_ .none (wpAny_bind (HT.slicePart_ .none (wpAny_bind (wpAny_pure ?_)))))
  show wpAny _ _ (match Builtin.Slice.sliceAdjust none none (-1) (n : Int) with | (lo, hi) => pure (lo, (-1 : Int), Builtin.Slice.slicePlaces lo hi (-1))) _ _ s
  rw [adj_back n]
  show wpAny _ _ (pure ((n : Int) - 1, (-1 : Int), Builtin.Slice.slicePlaces ((n : Int) - 1) (-1) (-1))) _ _ s
  rw [places_back]
  exact wpAny_pure h
theorem getItem_back {t sl : Addr} {items : Array Value} {vs : Value} {Q : Value → Shared → Prop} (ht : IsTup s.heap t items) (hs : s.heap.IsSliceOf sl .none .none vs) (ps : IsPart vs (some (-1)))
    (h : Q (.ref s.heap.objs.size) { s with heap := s.heap.push { cls := .type "tuple", data := .seq items.toList.reverse.toArray } }) (hsz : items.size ≤ sizeLine) : wpAny (model prog w) A (getItem (.ref t) (.ref sl)) Q E s := by
  have fits : sizeOk (.seq items.toList.reverse.toArray) := by
    show items.toList.reverse.toArray.size ≤ sizeLine
    rw [List.size_toArray, List.length_reverse, Array.length_toList]; exact hsz
  obtain ⟨os, hos, hcs, _⟩ := id hs
  have ty : s.TypeIs (.ref sl) "slice" := ⟨os, hos, hcs⟩
  unfold getItem
  try with_reducible refine wpAny_holding ?_
  first | refine wpAny_bind (wpAny_pure ?_) | skip
  refine wpAny_bind (wpAny_sequenceKey ht.typeIs (by decide) ?_)
  refine wpAny_bind (wpAny_callSpecial?_slot (name := Str.ofString "__getitem__") ht.typeIs PyProof.Rows.slot_tuple_getitem
    (wpAny_call_entry PyProof.Rows.slot_tuple_getitem ht.typeIs entry_tuple_getitem ?_ (args_tuple_getitem _ _)))
  show wpAny _ _ (Builtin.Tuple.tupleItemsOf (.ref t) >>= _) _ _ s
  refine wpAny_bind (tupleItemsOf_ ht (wpAny_bind (wpAny_typeOf ty ?_)))
  rw [if_pos (by decide)]
  refine wpAny_bind (slice_back hs ps ?_)
  have off : ¬ ((((items.size : Int) - 1) == 0 && (-1 : Int) == 1 && items.size == items.size) = true) := by
    rw [show ((-1 : Int) == 1) = false by decide, Bool.and_false, Bool.false_and]
    exact Bool.false_ne_true
  show wpAny _ _ (if (((items.size : Int) - 1) == 0 && (-1 : Int) == 1 && items.size == items.size) = true then _ else _) _ _ s
  rw [if_neg off, pick_back]
  first
    | exact wpAny_bind (m := Builtin.Tuple.tupleExact _) (wpAny_newObj_type (wpAny_pure ⟨_, rfl, wpAny_pure h⟩) fits)
    | exact wpAny_bind (wpAny_bind (m := Builtin.Tuple.tupleExact _) (wpAny_newObj_type (wpAny_pure ⟨_, rfl, wpAny_pure h⟩) fits))
end
def tRevT (K : PySem.W.Frag) (te : TE) : TE := fun σ H Q => te σ H fun x H1 => ∃ a xs, x = .ref a ∧ SqT K H1 a xs ∧ ∀ p, H1 p = none → Q (.ref p) (upd H1 p (.tup xs.reverse))
section
variable {X : Cx}
theorem pe_revT {e : Expr} {te : TE} {k : Nat} {p1 p2 p3 pos : Pos} (he : PE X e te) : PE X (.Subscript e (.Slice none none (some (.UnaryOp .USub (.Constant (.int 1) k p1) p2)) p3) pos) (tRevT X.K te) := by
  refine ⟨fun pins s σ H Q I h => ?_⟩
  refine Subscript_ (thn (he.run pins s σ H _ I h) fun v s1 ⟨x, H1, I1, r1, a, xs, ex, hx, q⟩ => ?_)
  subst ex
  obtain rfl : v = Value.ref a := r1
  have hst : PO X (some (.UnaryOp .USub (.Constant (.int 1) k p1) p2)) (tPart (tUn (rU fun i => .int (-i)) (tC (.int 1)))) := po_some (pe_un un_neg pe_int)
  refine wpAny_Slice (thn (po_none.run pins s1 σ H1 (fun o H2 => o = none ∧ H2 = H1) I1 ⟨rfl, rfl⟩) fun vl s2 ⟨l, H2, I2, pl, el, e2⟩ => ?_)
  subst el e2
  refine thn (po_none.run pins s2 σ H2 (fun o H3 => o = none ∧ H3 = H2) I2 ⟨rfl, rfl⟩) fun vu s3 ⟨u, H3, I3, pu, eu, e3⟩ => ?_
  subst eu e3
  refine thn (hst.run pins s3 σ H3 (fun o H4 => o = some (-1) ∧ H4 = H3) I3 ⟨1, rfl, -1, rfl, rfl, rfl⟩) fun vs s4 ⟨o, H4, I4, ps, eo, e4⟩ => ?_
  subst eo e4
  cases pl
  cases pu
  have I5 : Inv X pins σ H4 { s4 with heap := s4.heap.push { cls := .type "slice", data := .fields #[.none, .none, vs] } } := I4.kept (t' := s4.toks) fun b ob q => Heap.get?_push_of_some _ q
  obtain ⟨its, r, ht, hz⟩ := I5.tuple hx
  have hlen := r.length
  show wpAny (model X.prog X.w) X.A (subscriptTail e (.Slice none none (some (.UnaryOp .USub (.Constant (.int 1) k p1) p2)) p3) (.ref a) (.ref s4.heap.objs.size)) (EP X pins σ Q) X.xe { s4 with heap := s4.heap.push { cls := .type "slice", data := .fields #[.none, .none, vs] } }
  refine tail_any (ops := [.ref a, .ref s4.heap.objs.size]) ht.typeIs (PyProof.Rows.slot_tuple_getitem.lookup) ?_ (by with_unfolding_all rfl)
  refine getItem_back ht (Heap.IsSliceOf.new _ .none .none vs) ps ?_ (by rw [List.size_toArray]; omega)
  refine ⟨.ref _, _, I5.laid (t' := s4.toks) (o := .tup xs.reverse) (fun b ob q => Heap.get?_push_of_some _ q) (Nat.le_refl _) ?_, rfl, q _ (I5.hok.fresh (Nat.le_refl _))⟩
  exact ⟨by rw [List.length_reverse]; exact hz, _, r.reverse, IsTup.new _ _⟩
end
/-! ### sorted(d), a dict of int keys -/
def rSortKI : List V → Hp → VK → Prop := fun xs H Q => ∃ (a : Addr) (kvs : List (Key × V)) (ks : List Int), xs = [.ref a] ∧ Rd H a (.dK kvs) ∧ kvs.map (·.1) = ks.map Sum.inl ∧ ks.length ≤ 1000 ∧
  ∀ (ys : List Int) (p : Addr), ys.Perm ks → ys.Pairwise (· ≤ ·) → H p = none → Q (.ref p) (upd H p (.lst (ys.map V.int)))
theorem intsAre_of : ∀ {us : List Value} {ks : List Int}, us.length = ks.length → (∀ (j : Nat) (v : Value), us[j]? = some v → ∃ (x : Int) (t : Tok), ks[j]? = some x ∧ v = Value.int x t) → IntsAre us ks
  | [], [], _, _ => .nil
  | [], _ :: _, h, _ => nomatch h
  | _ :: _, [], h, _ => nomatch h
  | u :: us, k :: ks, hl, h => by
    obtain ⟨x, t, e1, rfl⟩ := h 0 u rfl
    obtain rfl : k = x := Option.some.inj e1
    exact .cons _ _ (intsAre_of (Nat.succ.inj hl) fun j v e => h (j + 1) v e)
section
variable {X : Cx}
theorem cr_sortedKI (calm : X.calm = true) : CallR X (.builtin "sorted") rSortKI := by
  intro pins s σ H xs us Q I r ⟨a, kvs, ks, ex, hd, hks, h1k, q⟩
  subst ex
  rw [Vals.ref1 r]
  obtain ⟨_, notSys, vs, rel, dd⟩ := dk_rd I.hok hd
  obtain ⟨ep, at'⟩ := dd.dictAt
  have keys : vs.map (·.1) = ks.map Sum.inl := rel.keys.symm.trans hks
  have many : vs.length = ks.length := by
    have z := congrArg List.length keys
    rwa [List.length_map, List.length_map] at z
  refine Calls.call_function_entry PyProof.Rows.kind_sorted PyProof.Rows.plain_sorted PyProof.Rows.entry_sorted (PyProof.Rows.args_sorted1 _) ?_
  unfold Builtin.«sorted»
  refine wpAny_bind (m := checkCount "sorted" 1 1 _) (wpAny_pure (wpAny_bind (PySem.W.kdu_collect (A := X.A.in1) (PySem.W.kdl_dict (knd := mixKind X.prog X.w) (kvs := vs) (ep := ep) notSys) (I.ok.hd calm) at' (sz (by omega)) fun h' tk acc keep got => ?_)))
  have accN : acc.toList.length = ks.length := by rw [Array.length_toList, got.1, many]
  have are : IntsAre acc.toList ks := intsAre_of accN fun j v e => by
    obtain ⟨k, x, e1, e2⟩ := got.2 j v (by rw [← Array.getElem?_toList]; exact e)
    have e3 : (ks.map Sum.inl)[j]? = some k := by rw [← keys, List.getElem?_map, e1]; rfl
    rw [List.getElem?_map] at e3
    cases e4 : ks[j]? with
    | none => rw [e4] at e3; cases e3
    | some y =>
      rw [e4] at e3
      obtain rfl : Sum.inl y = k := Option.some.inj e3
      obtain ⟨t, ev⟩ := Value.isInt_shape (k := y) (v := v) e2
      exact ⟨y, t, rfl, ev⟩
  have I1 : Inv X pins σ H { s with heap := h', toks := tk } := I.kept keep
  have room : acc.toList.length ≤ sizeLine := by rw [accN]; exact sz (by omega)
  refine wpAny_bind (wpAny_newList ?_ room)
  have new : (h'.push (seqObj "list" acc.toList.toArray 0)).get? h'.objs.size = some (seqObj "list" acc.toList.toArray 0) := Heap.get?_push_size _ rfl
  show wpAny _ _ _ _ _ { s with heap := h'.push (seqObj "list" acc.toList.toArray 0), toks := tk }
  refine wpAny_bind (wpAny_holding (wpAny_call_entry PyProof.Rows.slot_list_sort ⟨_, new, rfl⟩ PyProof.Rows.entry_list_sort
    (SrtO.list_sort_ord (s := { s with heap := h'.push (seqObj "list" acc.toList.toArray 0), toks := tk }) SrtO.swo_int new room (fun h2 => SrtO.ints_sortable are h2) fun out h1 h2 => ⟨_, rfl, ?_⟩)
    (PyProof.Rows.args_list_sort _)))
  obtain ⟨k1, k2, k3⟩ := SrtO.ints_out are h1 h2
  obtain ⟨e', he'⟩ := PyProof.Rows.sortedHeap_at (vs := acc.toList) (out := out.toArray) new
  have len : ((out.map SrtO.iv).map V.int).length ≤ sizeLine := by
    rw [List.length_map, k2.length_eq]
    exact sz (by omega)
  refine wpAny_pure ⟨_, rfl, .ref h'.objs.size, upd H h'.objs.size (.lst ((out.map SrtO.iv).map V.int)), I1.laid (t' := tk) (fun b u e => ?_) (Nat.le_refl _) ⟨len, out, e', vals_of_ints k1, he'⟩, rfl, q _ _ k2 k3 (I1.hok.fresh (Nat.le_refl _))⟩
  have lt : b < h'.objs.size := Heap.lt_size e
  rw [PyProof.Rows.sortedHeap_old (Nat.ne_of_lt lt) (by rw [Heap.size_push]; exact Nat.lt_succ_of_lt lt)]
  exact Heap.get?_push_of_some _ e
end
/-! ### enumerate of a text -/
def ItEs (x : Str) : It :=
  ⟨fun i _ => i < x.cps.size, fun i H v H' => ∃ T c, v = .ref T ∧ H T = none ∧ H' = upd H T (.tup [.int (i : Nat), .str ⟨#[c]⟩]) ∧ x.cps[i]? = some c, fun i _ => x.cps.size ≤ i⟩
theorem turn_enumS {P : Program} {w : World} {K : PySem.W.Frag} {elts : List Expr} {kk : Nat} {tpos : Pos} (x : Str) (t : Tok) (ty : String) (e it : Addr) (hty : ty = "str_ascii_iterator" ∨ ty = "str_iterator") :
    Turn P w K (.Tuple elts kk tpos) (ItEs x) [e, it] e (fun i h => (∃ old, IsEnum h e it ((i : Nat) : Int) old) ∧ h.IsStrIter it ty x t i ∧ e ≠ it ∧ i ≤ x.cps.size) where
  mem := List.mem_cons_self ..
  obj := fun i h ⟨⟨old, he⟩, ⟨o, ho, hc, hd⟩, _⟩ b hb => by
    rcases List.mem_cons.mp hb with z | z
    · rw [z]; exact ⟨_, he, fun v q => nomatch q⟩
    · rw [List.mem_singleton.mp z]; exact ⟨o, ho, fun v q => by rw [hd] at q; cases q⟩
  keep := fun i h h' ⟨⟨old, he⟩, ⟨o, ho, hr⟩, hne, hle⟩ k => ⟨⟨old, k e (by simp) _ he⟩, ⟨o, k it (by simp) o ho, hr⟩, hne, hle⟩
  item := by
    intro X hP hw hK hc i pins s σ H E I hf ⟨⟨old, he⟩, hit, hne, hle⟩ hg
    subst hP hw hK
    have W : Draws X.prog X.w X.A.in1 it [it] x.cps.size (fun i v => ∃ c u, x.cps[i]? = some c ∧ v = .str ⟨#[c]⟩ u) (fun i h => h.IsStrIter it ty x t i) := by
      rcases hty with z | z <;> rw [z]
      · exact Draws.strAscii (A := X.A.in1) (show X.A.in1.handled = none from I.ok.hd hc) it x t
      · exact Draws.strWide (A := X.A.in1) (show X.A.in1.handled = none from I.ok.hd hc) it x t
    have hel : e < s.heap.objs.size := Heap.lt_size he
    have hil : it < s.heap.objs.size := by obtain ⟨_, q, _⟩ := hit; exact Heap.lt_size q
    refine wpAny_pyNext_enum_itemD W he hit hg hne (by simpa using hne) fun v h' tk ⟨c, u, hcx, ev⟩ out st' hT _ hk => ?_
    subst ev
    refine ⟨_, rfl, wpAny_letOwnedTupleGo_enum (s := { s with heap := h', toks := tk + 1 }) out fun h2 he2 sb => ?_⟩
    have hT2 : h2.get? s.heap.objs.size = some { cls := .type "tuple", data := .seq #[.int i tk, .str ⟨#[c]⟩ u] } := (sb.2 _ (Nat.ne_of_gt hel)).trans hT
    have new : ObjOk X.prog X.w (upd H s.heap.objs.size (.tup [.int (i : Nat), .str ⟨#[c]⟩])) h2 s.heap.objs.size (.tup [.int (i : Nat), .str ⟨#[c]⟩]) :=
      ⟨sz (by show 2 ≤ 100000; decide), [.int i tk, .str ⟨#[c]⟩ u], .cons ⟨_, rfl⟩ (.cons ⟨u, rfl⟩ .nil), ⟨_, hT2, rfl, _, rfl⟩⟩
    have I1 : Inv X pins σ (upd H s.heap.objs.size (.tup [.int (i : Nat), .str ⟨#[c]⟩])) { s with heap := h2, toks := tk + 1 } :=
      I.turnedNew (ch := [e, it]) (fun b ob hb q => (sb.2 b (fun z => hb (by simp [z]))).trans (hk b ob (fun z => hb (by simp [z])) (fun z => hb (by simp [z])) q)) hf (Nat.le_refl _) new
    obtain ⟨o2, ho2, hr2⟩ := st'
    refine ⟨.ref s.heap.objs.size, _, I1, rfl, ⟨_, c, rfl, I.hok.fresh (Nat.le_refl _), rfl, hcx⟩, ⟨⟨_, by rw [show ((i + 1 : Nat) : Int) = (i : Int) + 1 by omega]; exact he2⟩, ⟨o2, (sb.2 it (Ne.symm hne)).trans ho2, hr2⟩, hne, hg⟩, fun b hb => ?_⟩
    have lt : b < s.heap.objs.size := by
      rcases List.mem_cons.mp hb with z | z
      · rw [z]; exact hel
      · rw [List.mem_singleton.mp z]; exact hil
    rw [upd_ne (Nat.ne_of_lt lt)]
    exact (hf b hb).1
  done := by
    intro X hP hw hK hc i pins s σ H E I hf ⟨⟨old, he⟩, hit, hne, hle⟩ hg
    subst hP hw hK
    obtain ⟨f0, f1, f2, f3, f4, f5⟩ := hf it (by simp)
    have hg : x.cps.size ≤ i := hg
    obtain rfl : i = x.cps.size := Nat.le_antisymm hle hg
    have W : Draws X.prog X.w X.A.in1 it [it] x.cps.size (fun i v => ∃ c u, x.cps[i]? = some c ∧ v = .str ⟨#[c]⟩ u) (fun i h => h.IsStrIter it ty x t i) := by
      rcases hty with z | z <;> rw [z]
      · exact Draws.strAscii (A := X.A.in1) (show X.A.in1.handled = none from I.ok.hd hc) it x t
      · exact Draws.strWide (A := X.A.in1) (show X.A.in1.handled = none from I.ok.hd hc) it x t
    exact wpAny_pyNext_enum_endD W he hit fun h' eb => ⟨rfl, I.turned (t' := s.toks) (fun b o hb q => eb b o hb q) f0 f1 f3 f4 f5⟩
  self := fun A i s Q E ⟨⟨_, he⟩, _⟩ h => wpAny_pyIter_enum he h
def iEnumS (ta : TA) : TI := fun σ H R => ta σ H fun vs H1 => ∃ x, vs = [.str x] ∧ R (ItEs x) H1
theorem pi_enumS {X : Cx} {e : Expr} {ta : TA} {p pos tpos : Pos} {elts : List Expr} {kk : Nat} (hg : Gl X "enumerate") (hm : X.mg "enumerate" = none) (ha : PA X [e] ta) (hs : starEach [e] X.env = [(false, eval e X.env)] := by rfl) :
    PI X (.Tuple elts kk tpos) (.Call (.Name "enumerate" p) [e] [] pos) (iEnumS ta) := by
  refine ⟨fun pins s σ H R I h => Call_ (ld_blt I hg hm boot_enumerate (PyProof.Rows.callWith_type1 (thn (ha.run pos pins s σ H _ I h) fun us s1 ⟨vs, H1, I1, r1, x, ex, q⟩ => ?_) hs rfl))⟩
  subst ex
  obtain ⟨u, eu, t, et⟩ := vals1 r1
  subst eu et
  refine call_enumerate_str fun h' he hit hsz hk => wpAny_pyIter_enum he ?_
  have I2 : Inv X pins σ H1 { s1 with heap := h' } := I1.kept (t' := s1.toks) hk
  have ty : strIterType x = "str_ascii_iterator" ∨ strIterType x = "str_iterator" := by
    unfold strIterType
    split
    · exact .inl rfl
    · exact .inr rfl
  refine ⟨s1.heap.objs.size + 1, [s1.heap.objs.size + 1, s1.heap.objs.size], _, _, H1, rfl, I2, turn_enumS x t _ _ s1.heap.objs.size ty, ⟨⟨.none, he⟩, hit, Nat.succ_ne_self _, Nat.zero_le _⟩, fun b hb => ?_, q⟩
  have le : s1.heap.objs.size ≤ b := by
    rcases List.mem_cons.mp hb with z | z
    · rw [z]; exact Nat.le_succ _
    · rw [List.mem_singleton.mp z]; exact Nat.le_refl _
  exact I1.fpOk le (I1.hok.fresh le)
theorem walk_enumS {x : Str} : Walk (ItEs x) x.cps.size (fun _ => True) (fun i H v H' => ∃ T c, v = .ref T ∧ H T = none ∧ H' = upd H T (.tup [.int (i : Nat), .str ⟨#[c]⟩]) ∧ x.cps[i]? = some c) :=
  ⟨fun _ _ hi _ => hi, fun _ _ => Nat.le_refl _, fun _ _ _ _ _ _ y => y⟩
end K71
end

section
set_option maxHeartbeats 4000000
/-! the walk: clearing.py, plain_rows and bar_for -/
namespace K71
open PySem PySem.Spec PyProof.Rows L2 KM
/-- a dict of numbers -/
def pdk (l : List (Nat × Nat)) : List (Key × V) := l.map fun e => (Sum.inl (e.1 : Int), vn e.2)
theorem pdk_len (l : List (Nat × Nat)) : (pdk l).length = l.length := List.length_map ..
theorem pdk_none : ∀ {l : List (Nat × Nat)} {k : Nat}, k ∉ l.map (·.1) → valV (pdk l) (Sum.inl (k : Int) : Key) = none
  | [], _, _ => rfl
  | e :: l, k, h => by
    have h1 : ¬ (Sum.inl (e.1 : Int) : Key) = Sum.inl (k : Int) := fun q => h (by rw [← (inl_iff _ _).mp q]; exact List.mem_cons_self ..)
    show valV ((Sum.inl (e.1 : Int), vn e.2) :: pdk l) _ = none
    rw [valV_neg (p := (Sum.inl (e.1 : Int), vn e.2)) h1]
    exact pdk_none fun q => h (List.mem_cons_of_mem _ q)
theorem pdk_some : ∀ {l : List (Nat × Nat)} {e : Nat × Nat}, (l.map (·.1)).Nodup → e ∈ l → valV (pdk l) (Sum.inl (e.1 : Int) : Key) = some (vn e.2)
  | x :: l, e, nd, h => by
    show valV ((Sum.inl (x.1 : Int), vn x.2) :: pdk l) _ = _
    rcases List.mem_cons.mp h with q | q
    · rw [q]
      exact valV_pos (p := (Sum.inl (x.1 : Int), vn x.2)) rfl
    · have nd' := List.nodup_cons.mp nd
      have h1 : ¬ (Sum.inl (x.1 : Int) : Key) = Sum.inl (e.1 : Int) := fun z => nd'.1 (by
        have := (inl_iff _ _).mp z
        show x.1 ∈ l.map (·.1)
        rw [this]
        exact List.mem_map_of_mem q)
      rw [valV_neg (p := (Sum.inl (x.1 : Int), vn x.2)) h1]
      exact pdk_some nd'.2 q
theorem pdk_snoc {l : List (Nat × Nat)} {k r : Nat} (h : k ∉ l.map (·.1)) : putK (pdk l) (Sum.inl (k : Int) : Key) (vn r) = pdk (l ++ [(k, r)]) := by
  rw [putK_new _ (pdk_none h)]
  unfold pdk
  rw [List.map_append]; rfl
theorem pdk_keys (l : List (Nat × Nat)) : (pdk l).map (·.1) = (l.map fun e => (e.1 : Int)).map Sum.inl := by
  unfold pdk
  rw [List.map_map, List.map_map]; rfl
theorem LdAt.keys {H : Hp} {kvs : List (Key × V)} {L : Ld} (h : LdAt H kvs L) : kvs.map (·.1) = (L.map fun e => (e.1 : Int)).map Sum.inl := by
  induction h with
  | nil => rfl
  | cons _ _ ih => rw [List.map_cons, ih]; rfl
theorem keysL_perm (L : Ld) : (keysL L).Perm (L.map (·.1)) := List.mergeSort_perm ..
theorem keysL_sorted (L : Ld) : (keysL L).Pairwise (· ≤ ·) := by
  have h := List.pairwise_mergeSort (le := fun a b : Nat => decide (a ≤ b)) (fun a b c h1 h2 => by simp at *; omega) (fun a b => by simp; omega) (L.map (·.1))
  exact h.imp fun h => of_decide_eq_true h
/-- what sorted gives of such keys -/
theorem sorted_keys {L : Ld} {ys : List Int} (h : ys.Perm (L.map fun e => (e.1 : Int))) (hs : ys.Pairwise (· ≤ ·)) : ys = (keysL L).map fun k : Nat => (k : Int) := by
  refine PySem.W.ksm_same (h.trans ?_) hs ?_
  · have := (keysL_perm L).symm.map fun k : Nat => (k : Int)
    rw [List.map_map] at this
    exact this
  · exact List.pairwise_map.mpr ((keysL_sorted L).imp fun h => Int.ofNat_le.mpr h)
theorem plainGo_snoc (L : Ld) : ∀ (ks : List Nat) (f : List (Nat × Nat)) (k : Nat), plainGo L (ks ++ [k]) f = plainGo L [k] (plainGo L ks f)
  | [], _, _ => rfl
  | x :: ks, f, k => plainGo_snoc L ks _ k
theorem plainGo_keys (L : Ld) : ∀ (ks : List Nat) (f : List (Nat × Nat)), (plainGo L ks f).map (·.1) = f.map (·.1) ++ ks
  | [], f => (List.append_nil _).symm
  | k :: ks, f => by
    show (plainGo L ks (f ++ [(k, _)])).map (·.1) = _
    rw [plainGo_keys L ks, List.map_append, List.append_assoc]; rfl
/-- the row of a lead, made plain by those found -/
def mkPlain (L : Ld) (k : Nat) (f : List (Nat × Nat)) : Nat := (f.filter fun e => ((getL L k).getD (0, 0)).1.testBit e.1).foldl (fun r e => r ^^^ e.2) ((getL L k).getD (0, 0)).1
theorem plainGo_one (L : Ld) (k : Nat) (f : List (Nat × Nat)) : plainGo L [k] f = f ++ [(k, mkPlain L k f)] := rfl
theorem getL_mem {L : Ld} {k : Nat} (h : k ∈ L.map (·.1)) : ∃ e, getL L k = some e := by
  cases g : getL L k with
  | some e => exact ⟨e, rfl⟩
  | none => exact absurd h (getL_not g)
theorem filt_take {α : Type} {p : α → Bool} {l : List α} {i : Nat} {e : α} (h : l[i]? = some e) : (l.take (i + 1)).filter p = (l.take i).filter p ++ (if p e = true then [e] else []) := by
  rw [take_succ h, List.filter_append, List.filter_cons, List.filter_nil]
theorem map_at {α β : Type} {f : α → β} {l : List α} {i : Nat} {x : β} (h : (l.map f)[i]? = some x) : ∃ p, l[i]? = some p ∧ x = f p := by
  rw [List.getElem?_map] at h
  cases e : l[i]? with
  | none => rw [e] at h; cases h
  | some p => rw [e] at h; exact ⟨p, rfl, (Option.some.inj h).symm⟩
section
variable {P : Program} {w : World} {K : PySem.W.Frag} {mg : Str → Option Value} {base : Heap}
def q_sp_plain_rows (K : PySem.W.Frag) : Sp := fun vs H Q _ => ∃ (p : Addr) (S : Spn) (dx d l : Addr) (kvs : List (Key × V)), vs = [.ref p] ∧ SpIn K H p S dx d l kvs ∧ (S.leads.map (·.1)).Nodup ∧ S.leads.length ≤ 1000 ∧
  ∀ t H', Same H H' → H t = none → H' t = some (.dK (pdk (plainM S.leads))) → Q (.ref t) H'
theorem ok_sp_plain_rows (D : Ok K mg) : FnOk P w K mg base CX0 1 (He.ma K (cSpan K) "plain_rows") (fdA K (He.ma K (cSpan K) "plain_rows")) ["self"] (q_sp_plain_rows K) := by
  refine D.f_sp_plain_rows.ok sc_sp_plain_rows (fun vs H Q E h => ?_) (fun cdv A outer s H vs Q E hr h => ?_)
  · obtain ⟨_, _, _, _, _, _, rfl, _⟩ := h
    rfl
  · refine ⟨_, PSs.nox (pss_cons (ps_set (i := 1) sc_sp_plain_rows.nd rfl (.inl rfl) pe_dnewK)
  (pss_cons (ps_for PassesOwn.never rfl (pi_list (pe_callB (cr_sortedKI rfl) (by rfl) D.z_sorted (by decide +kernel) (pa_cons (pe_fld (pv 0) rfl) pa_nil))) (pg_name (i := 2) sc_sp_plain_rows.nd rfl (.inl rfl))
    (pss_cons (ps_set (i := 3) sc_sp_plain_rows.nd rfl (.inr rfl) (pe_ix ix_tup (pe_dget (hu_of hr) (pe_fld (pv 0) rfl) (pv 2) (fun _ _ => rfl)) pe_int (fun _ _ => rfl)))
  (pss_cons (ps_for PassesOwn.never rfl (pi_list (pe_lock (pe_lc (own := [("one", 5)]) (by rfl) sc_sp_plain_rows.nd (pi_keys (pv 1)) (blkOk_by (own := [("one", 5)]) (N := ["self", "found", "lead", "row", "other", "one"]) (sc := defScope s_sp_plain_rows) (by decide +kernel)) (fun _ _ _ _ _ => (pg_name (i := 5) sc_sp_plain_rows.nd rfl (.inl rfl))) (fun _ _ _ _ _ => pts_one (pt_cmpR op_eq (pe_op oa (pe_op osr (pv 3) (pv 5)) pe_int) pe_int (nomark _))) (fun _ _ _ _ _ => (pv 5))))) (pg_name (i := 4) sc_sp_plain_rows.nd rfl (.inl rfl))
    (pss_one (ps_set (i := 3) sc_sp_plain_rows.nd rfl (.inr rfl) (pe_op ox (pv 3) (pe_dget (hu_of hr) (pv 1) (pv 4) (fun _ _ => rfl))))))
  (pss_one (ps_dput (hu_of hr) (pv 1) (pv 2) (pv 3) rfl)))))
  (pss_one (ps_ret (pv 1))))), ?_⟩
    obtain ⟨p, S, dx, d, l, kvs, rfl, hI, hnd, hlen, k⟩ := h
    intro t ht
    have st : Same H (upd H t (.dK [])) := same_new ht
    obtain ⟨hp, hd, hL, hl⟩ := hI.mono st
    refine ⟨_, rfl, p, _, dx, _, _, rfl, hp, D.cl, D.no_own_leads, spf_leads _ _, d, kvs, _, rfl, .inl hd, hL.keys, by rw [List.length_map]; exact hlen, fun ys ls hperm hsort hls => ?_⟩
    rw [sorted_keys hperm hsort]
    have kn : (keysL S.leads).Nodup := (keysL_perm S.leads).nodup_iff.mpr hnd
    have km : ∀ j ∈ keysL S.leads, ∃ e, getL S.leads j = some e := fun j hj => getL_mem ((keysL_perm S.leads).mem_iff.mp hj)
    have kl : (keysL S.leads).length ≤ 1000 := by
      rw [(keysL_perm S.leads).length_eq, List.length_map]
      exact hlen
    generalize hks : keysL S.leads = ks at kn km kl ⊢
    -- the loop over the keys
    have ntl : t ≠ ls := fun e => by rw [← e, upd_same] at hls; cases hls
    have hls0 : H ls = none := by
      rw [upd_ne ntl.symm] at hls
      exact hls
    refine ⟨ls, rfl, ⟨_, SqL.of upd_same⟩, for_it (walk_list (xs := (ks.map fun k : Nat => (k : Int)).map V.int)) (fun i σ H' => ∃ y2 y3 y4, σ = [some (.ref p), some (.ref t), y2, y3, y4, none] ∧ Same H H' ∧ H' t = some (.dK (pdk (plainGo S.leads (ks.take i) []))) ∧ H' ls = some (.lst ((ks.map fun k : Nat => (k : Int)).map V.int)))
      ⟨none, none, none, rfl, snew st hls, by rw [upd_ne ntl]; exact upd_same, upd_same⟩ (fun i σ H' _ ⟨_, _, _, _, _, _, h⟩ => SqL.of h) ?_ ?_⟩
    · rintro i x σ H2 H1 hi ⟨y2, y3, y4, rfl, sm, hT, hls1⟩ ⟨eH, ex⟩
      subst eH
      obtain ⟨x2, ex2, rfl⟩ := map_at ex
      obtain ⟨lead, ek, rfl⟩ := map_at ex2
      obtain ⟨hp1, hd1, hL1, hl1⟩ := hI.mono sm
      obtain ⟨e, he⟩ := km lead (List.mem_of_getElem? ek)
      rcases hL1.get lead with ⟨g, _⟩ | ⟨e', tt, g1, g2, htt⟩
      · rw [he] at g; cases g
      obtain rfl : e = e' := Option.some.inj (he.symm.trans g1)
      -- row = self.own_leads[lead][0]
      refine ⟨_, rfl, p, _, dx, _, _, rfl, hp1, D.cl, D.no_own_leads, spf_leads _ _, _, rfl, d, .ref tt, rfl, by rw [← g2]; exact DGet.k (k := Sum.inl (lead : Int)) hd1, ?_⟩
      refine ⟨tt, _, 0, _, rfl, rfl, SqT.of htt, rfl, ?_⟩
      -- the comprehension
      generalize hf : plainGo S.leads (ks.take i) [] = f at hT
      have fk : f.map (·.1) = ks.take i := by rw [← hf, plainGo_keys]; rfl
      have fn : (f.map (·.1)).Nodup := by rw [fk]; exact kn.sublist (List.take_sublist _ _)
      have fl : f.length ≤ 1000 := by
        have := congrArg List.length fk
        rw [List.length_map, List.length_take] at this
        omega
      refine ⟨t, _, hT, trivial, fun od => ⟨_, rfl, t, od, rfl, .inl ⟨_, upd_same, fun Dn hDn => ?_⟩⟩⟩
      have ntD : t ≠ Dn := fun z => by rw [← z, upd_same] at hDn; cases hDn
      have hDn0 : H1 Dn = none := by
        rw [upd_ne ntD.symm] at hDn
        exact hDn
      refine lc_it (walk_keys (kvs := pdk f)) (fun j H' => H' = upd (upd H1 t (.frz od (.dK (pdk f)))) Dn (.lst (vns (((f.take j).filter fun x => e.1.testBit x.1).map (·.1))))) rfl (fun j H' _ h => by rw [h, upd_ne ntD]; exact upd_same) ?_ ?_
      · rintro j x H3 H4 hj rfl ⟨rfl, kk, vv, exx, rfl⟩
        obtain ⟨e2, ee2, eq2⟩ := map_at exx
        cases eq2
        refine ⟨rfl, _, rfl, _, rfl, _, _, rfl, rfl, trivial, _, 1, rfl, rfl, rfl, _, rfl, ?_⟩
        have fj := filt_take (p := fun x : Nat × Nat => e.1.testBit x.1) ee2
        refine itE (m := 1) (fun h1 => ?_) (fun h1 => ?_)
        · rw [(tb_and _ _).mp h1] at fj
          refine ⟨_, rfl, _, upd_same, szl ?_, ?_⟩
          · have := List.length_filter_le (fun x : Nat × Nat => e.1.testBit x.1) (f.take j)
            rw [List.length_take] at this
            rw [vns_len, List.length_map]
            omega
          · rw [upd_upd, fj, List.map_append, vns, vns, List.map_append]; rfl
        · have h2 : e.1.testBit e2.1 = false := by
            cases q : e.1.testBit e2.1 with
            | false => rfl
            | true => exact absurd ((tb_and _ _).mpr q) h1
          rw [fj, h2]
          show upd _ _ _ = upd _ _ (HO.lst (vns (List.map _ (_ ++ []))))
          rw [List.append_nil]
      · rintro H3 rfl
        rw [pdk_len, List.take_length]
        refine ⟨by rw [upd_ne ntD]; exact upd_same, ?_⟩
        generalize hfl : (f.filter fun x => e.1.testBit x.1) = fl'
        have flm : ∀ x ∈ fl', x ∈ f := fun x hx => by
          rw [← hfl] at hx
          exact (List.mem_filter.mp hx).1
        generalize hH5 : upd (upd (upd H1 t (.frz od (.dK (pdk f)))) Dn (.lst (vns (fl'.map (·.1))))) t (.dK (pdk f)) = H5
        have s5 : Same H1 H5 := fun b o eb => by
          rw [← hH5]
          by_cases hb : b = t
          · rw [hb] at eb ⊢
            rw [upd_same, ← eb, hT]
          · rw [upd_ne hb, upd_ne (ne_of_none eb hDn0), upd_ne hb]
            exact eb
        have hD5 : H5 Dn = some (.lst (vns (fl'.map (·.1)))) := by
          rw [← hH5, upd_ne ntD.symm]
          exact upd_same
        -- for other in ..: row = row ^ found[other]
        refine ⟨Dn, rfl, ⟨_, SqL.of hD5⟩, for_it (walk_list (xs := vns (fl'.map (·.1)))) (fun j σ H' => H' = H5 ∧ ∃ y4, σ = [some (.ref p), some (.ref t), some (.int (lead : Int)), some (vn ((fl'.take j).foldl (fun r x => r ^^^ x.2) e.1)), y4, none])
          ⟨rfl, _, rfl⟩ (fun j σ H' _ h => by rw [h.1]; exact SqL.of hD5) ?_ ?_⟩
        · rintro j x σ H6 H7 hj ⟨rfl, y4, rfl⟩ ⟨rfl, exx⟩
          obtain ⟨o1, eo1, rfl⟩ := vns_at exx
          obtain ⟨e2, ee2, rfl⟩ := map_at eo1
          have hv := pdk_some fn (flm e2 (List.mem_of_getElem? ee2))
          refine ⟨_, rfl, _, rfl, _, rfl, t, vn e2.2, rfl, by rw [← hv]; exact DGet.k (k := Sum.inl (e2.1 : Int)) (s5 _ _ hT), _, _, rfl, rfl, rfl, some (vn e2.1), ?_⟩
          rw [take_succ ee2, List.foldl_append]; rfl
        · rintro σ H6 ⟨rfl, y4, rfl⟩
          rw [vns_len, List.length_map, List.take_length]
          have nin : lead ∉ f.map (·.1) := by
            rw [fk]
            intro hm
            obtain ⟨j, hj, ej⟩ := List.mem_take_iff_getElem.mp hm
            have hi' : i < ks.length := (List.getElem?_eq_some_iff.mp ek).1
            have ei : ks[i] = lead := (List.getElem?_eq_some_iff.mp ek).2
            have hj1 : j < i := by omega
            have hj2 : j < ks.length := by omega
            have := (List.nodup_iff_pairwise_ne.mp kn)
            exact List.pairwise_iff_getElem.mp this j i hj2 hi' hj1 (by rw [ej, ei])
          refine ⟨_, rfl, _, rfl, _, rfl, t, _, rfl, DPut.k (k := Sum.inl (lead : Int)) (s5 _ _ hT) (szl (by rw [pdk_len]; omega)), ?_⟩
          rw [pdk_snoc nin]
          have ntls : ls ≠ t := ntl.symm
          refine ⟨_, _, _, rfl, smut (sm.trans s5) ht, ?_, by rw [upd_ne ntls]; exact s5 _ _ hls1⟩
          rw [upd_same, take_succ ek, plainGo_snoc, hf, plainGo_one]
          unfold mkPlain
          rw [he]
          show some (HO.dK (pdk (f ++ [(lead, fl'.foldl _ e.1)]))) = some (HO.dK (pdk (f ++ [(lead, (f.filter fun x => e.1.testBit x.1).foldl _ e.1)])))
          rw [hfl]
    · rintro σ H' ⟨y2, y3, y4, rfl, sm, hT, _⟩
      rw [List.length_map, List.length_map, List.take_length] at hT
      refine ⟨_, rfl, k t H' sm ht ?_⟩
      rw [hT]
      unfold plainM
      rw [hks]
end
end K71
end

section
set_option maxHeartbeats 4000000
/-! the walk: clearing.py, bar_for -/
namespace K71
open PySem PySem.Spec PyProof.Rows L2 KM
theorem plainM_keys (L : Ld) : (plainM L).map (·.1) = keysL L := plainGo_keys L (keysL L) []
theorem dget_frz {H : Hp} {a : Addr} {od : Obj} {kvs : List (Key × V)} {k : Nat} {v : V} (h : H a = some (.frz od (.dK kvs))) (e : valV kvs (Sum.inl (k : Int) : Key) = some v) : DGet H a (.int (k : Int)) (some v) :=
  .inl ⟨kvs, Sum.inl (k : Int), .inr ⟨od, h⟩, rfl, e.symm⟩
section
variable {P : Program} {w : World} {K : PySem.W.Frag} {mg : Str → Option Value} {base : Heap}
def q_sp_bar_for (K : PySem.W.Frag) : Sp := fun vs H Q _ => ∃ (p : Addr) (row : Nat) (S : Spn) (dx d l : Addr) (kvs : List (Key × V)), vs = [.ref p, vn row] ∧ SpIn K H p S dx d l kvs ∧ (S.leads.map (·.1)).Nodup ∧ S.leads.length ≤ 1000 ∧
  (∀ k ∈ keysL S.leads, k ≤ 1000) ∧ barRest (plainM S.leads) row ≠ 0 ∧ blen (barRest (plainM S.leads) row) ≤ 1000 ∧ ∀ H', Same H H' → Q (vn (barFor S.leads row)) H'
theorem ok_sp_bar_for (D : Ok K mg) : FnOk P w K mg base CX0 2 (He.ma K (cSpan K) "bar_for") (fdA K (He.ma K (cSpan K) "bar_for")) ["self", "row"] (q_sp_bar_for K) := by
  refine D.f_sp_bar_for.ok sc_sp_bar_for (fun vs H Q E h => ?_) (fun cdv A outer s H vs Q E hr h => ?_)
  · obtain ⟨_, _, _, _, _, _, _, rfl, _⟩ := h
    rfl
  · refine ⟨_, PSs.nox (pss_cons (ps_par (i := 2) (j := 3) (by rfl) sc_sp_bar_for.nd rfl rfl (by decide) rfl rfl (pa_cons (pe_meth0 (pv 0) D.cl D.t_sp_plain_rows (ok_sp_plain_rows D) (hr.mono (by decide)) D.b_sp_plain_rows .nil pass0) (pa_cons (pv 1) pa_nil)) (by rfl))
  (pss_cons (ps_for PassesOwn.never rfl (pi_list (pe_revL (pe_callB (cr_sortedKI rfl) (by rfl) D.z_sorted (by decide +kernel) (pa_cons (pv 2) pa_nil)))) (pg_name (i := 4) sc_sp_bar_for.nd rfl (.inl rfl))
    (pss_one (ps_if (pt_cmpR op_eq (pe_op oa (pe_op osr (pv 3) (pv 4)) pe_int) pe_int (nomark _)) (pss_one (ps_set (i := 3) sc_sp_bar_for.nd rfl (.inl rfl) (pe_op ox (pv 3) (pe_dget (hu_of hr) (pv 2) (pv 4) (fun _ _ => rfl))))) pss_nil)))
  (pss_cons (ps_set (i := 5) sc_sp_bar_for.nd rfl (.inl rfl) (pe_call (ok_degree_of D) (hr.mono (by decide)) rfl D.m_degree_of D.f_degree_of.kp D.b_degree_of .nil pass0 (pa_cons (pv 3) pa_nil)))
  (pss_cons (ps_set (i := 6) sc_sp_bar_for.nd rfl (.inl rfl) (pe_op osl pe_int (pv 5)))
  (pss_cons (ps_lock (ps_for PassesOwn.never rfl (pi_keys (pv 2)) (pg_name (i := 4) sc_sp_bar_for.nd rfl (.inl rfl))
    (pss_one (ps_if (pt_cmpR op_eq (pe_op oa (pe_op osr (pe_dget (hu_of hr) (pv 2) (pv 4) (fun _ _ => rfl)) (pv 5)) pe_int) pe_int (nomark _)) (pss_one (ps_set (i := 6) sc_sp_bar_for.nd rfl (.inl rfl) (pe_op oo (pv 6) (pe_op osl pe_int (pv 4))))) pss_nil))))
  (pss_one (ps_ret (pv 6)))))))), ?_⟩
    obtain ⟨p, row, S, dx, d, l, kvs, rfl, hI, hnd, hlen, hk, hne, hbl, k⟩ := h
    refine ⟨_, rfl, p, dx, _, rfl, hI.1, spf_no _ _ (by decide +kernel) (by decide +kernel), p, S, dx, d, l, kvs, rfl, hI, hnd, hlen, fun t H1 s1 ht hT => ?_⟩
    refine ⟨_, rfl, _, _, rfl, ?_⟩
    have pk := plainM_keys S.leads
    have pn : ((plainM S.leads).map (·.1)).Nodup := by
      rw [pk]; exact (keysL_perm S.leads).nodup_iff.mpr hnd
    have ps : ((plainM S.leads).map fun e => (e.1 : Int)).Pairwise (· ≤ ·) := by
      have q := keysL_sorted S.leads
      rw [← pk] at q
      have := List.pairwise_map.mp q
      exact List.pairwise_map.mpr (this.imp fun h => Int.ofNat_le.mpr h)
    have pl' : (plainM S.leads).length ≤ 1000 := by
      have := congrArg List.length pk
      rw [List.length_map, (keysL_perm S.leads).length_eq, List.length_map] at this
      omega
    have pkk : ∀ e ∈ plainM S.leads, e.1 ≤ 1000 := fun e he => hk e.1 (by rw [← pk]; exact List.mem_map_of_mem he)
    have kk : ∀ H', Same H H' → Q (vn (barMark (plainM S.leads) (blen (barRest (plainM S.leads) row) - 1))) H' := k
    generalize plainM S.leads = pl at hT pn ps pl' pkk hne hbl kk
    -- for lead in sorted(plain)[::-1]
    refine ⟨_, rfl, t, pdk pl, _, rfl, .inl hT, pdk_keys pl, by rw [List.length_map]; exact pl', fun ys ls hperm hsort hls => ?_⟩
    rw [PySem.W.ksm_same hperm hsort ps]
    refine ⟨ls, _, rfl, SqL.of upd_same, fun lr hlr => ?_⟩
    have erev : ((pl.map fun e => (e.1 : Int)).map V.int).reverse = pl.reverse.map fun e => vn e.1 := by
      rw [List.map_map, ← List.map_reverse]; rfl
    rw [erev]
    have s3 : Same H1 (upd (upd H1 ls (.lst ((pl.map fun e => (e.1 : Int)).map V.int))) lr (.lst (pl.reverse.map fun e => vn e.1))) := snew (same_new hls) hlr
    have hL3 : (upd (upd H1 ls (.lst ((pl.map fun e => (e.1 : Int)).map V.int))) lr (.lst (pl.reverse.map fun e => vn e.1))) lr = some (.lst (pl.reverse.map fun e => vn e.1)) := upd_same
    generalize upd (upd H1 ls (.lst ((pl.map fun e => (e.1 : Int)).map V.int))) lr (.lst (pl.reverse.map fun e => vn e.1)) = H3 at s3 hL3 ⊢
    have hT3 := s3 _ _ hT
    refine ⟨lr, rfl, ⟨_, SqL.of hL3⟩, for_it (walk_list (xs := pl.reverse.map fun e => vn e.1)) (fun i σ H' => H' = H3 ∧ ∃ y4, σ = [some (.ref p), some (vn row), some (.ref t), some (vn ((pl.reverse.take i).foldl (fun r e => if r.testBit e.1 = true then r ^^^ e.2 else r) row)), y4, none, none])
      ⟨rfl, none, rfl⟩ (fun i σ H' _ h => by rw [h.1]; exact SqL.of hL3) ?_ ?_⟩
    · rintro i x σ H4 H5 hi ⟨rfl, y4, rfl⟩ ⟨rfl, ex⟩
      obtain ⟨e, ee, rfl⟩ := map_at ex
      have hv := pdk_some pn (List.mem_reverse.mp (List.mem_of_getElem? ee))
      have ft : ∀ z, (pl.reverse.take (i + 1)).foldl (fun r e => if r.testBit e.1 = true then r ^^^ e.2 else r) z = (if ((pl.reverse.take i).foldl (fun r e => if r.testBit e.1 = true then r ^^^ e.2 else r) z).testBit e.1 = true then (pl.reverse.take i).foldl (fun r e => if r.testBit e.1 = true then r ^^^ e.2 else r) z ^^^ e.2 else (pl.reverse.take i).foldl (fun r e => if r.testBit e.1 = true then r ^^^ e.2 else r) z) := fun z => by
        rw [take_succ ee, List.foldl_append]; rfl
      rw [ft row]
      generalize (pl.reverse.take i).foldl (fun r e => if r.testBit e.1 = true then r ^^^ e.2 else r) row = r
      refine ⟨_, rfl, _, rfl, _, _, rfl, rfl, trivial, _, 1, rfl, rfl, rfl, _, rfl, ?_⟩
      refine itE (m := 1) (fun h1 => ?_) (fun h1 => ?_)
      · rw [if_pos ((tb_and _ _).mp h1)]
        exact ⟨_, rfl, _, rfl, _, rfl, t, vn e.2, rfl, by rw [← hv]; exact DGet.k (k := Sum.inl (e.1 : Int)) hT3, _, _, rfl, rfl, rfl, some (vn e.1), rfl⟩
      · rw [if_neg fun q => h1 ((tb_and _ _).mpr q)]
        exact ⟨rfl, some (vn e.1), rfl⟩
    · rintro σ H4 ⟨rfl, y4, rfl⟩
      rw [List.length_map, List.take_length]
      have er : pl.reverse.foldl (fun r e => if r.testBit e.1 = true then r ^^^ e.2 else r) row = barRest pl row := rfl
      rw [er]
      have bp := blen_pos hne
      have eb : ((blen (barRest pl row) : Int) - 1) = ((blen (barRest pl row) - 1 : Nat) : Int) := by omega
      have hbit : blen (barRest pl row) - 1 ≤ 1000 := by omega
      refine ⟨_, rfl, _, rfl, ?_⟩
      rw [eb]
      generalize blen (barRest pl row) - 1 = bit at kk hbit
      refine ⟨_, rfl, 1, bit, rfl, rfl, ⟨by decide, hbit⟩, ?_⟩
      -- for lead in plain
      refine ⟨t, _, hT3, trivial, fun od => ?_⟩
      refine ⟨_, rfl, t, od, rfl, .inl ⟨_, upd_same, for_it (walk_keys (kvs := pdk pl)) (fun i σ H' => H' = upd H4 t (.frz od (.dK (pdk pl))) ∧ ∃ y4, σ = [some (.ref p), some (vn row), some (.ref t), some (vn (barRest pl row)), y4, some (vn bit), some (vn ((pl.take i).foldl (fun m e => if e.2.testBit bit = true then m ||| (1 <<< e.1) else m) (1 <<< bit)))])
        ⟨rfl, _, rfl⟩ (fun i σ H' _ h => by rw [h.1]; exact upd_same) ?_ ?_⟩⟩
      · rintro i x σ H5 H6 hi ⟨rfl, y5, rfl⟩ ⟨rfl, kk2, vv, ex, rfl⟩
        obtain ⟨e, ee, eq2⟩ := map_at ex
        cases eq2
        have hv := pdk_some pn (List.mem_of_getElem? ee)
        have ft : (pl.take (i + 1)).foldl (fun m e => if e.2.testBit bit = true then m ||| (1 <<< e.1) else m) (1 <<< bit) = (if e.2.testBit bit = true then (pl.take i).foldl (fun m e => if e.2.testBit bit = true then m ||| (1 <<< e.1) else m) (1 <<< bit) ||| (1 <<< e.1) else (pl.take i).foldl (fun m e => if e.2.testBit bit = true then m ||| (1 <<< e.1) else m) (1 <<< bit)) := by
          rw [take_succ ee, List.foldl_append]; rfl
        rw [ft]
        generalize (pl.take i).foldl (fun m e => if e.2.testBit bit = true then m ||| (1 <<< e.1) else m) (1 <<< bit) = m
        refine ⟨_, rfl, _, rfl, t, vn e.2, rfl, dget_frz upd_same hv, _, rfl, _, _, rfl, rfl, trivial, _, 1, rfl, rfl, rfl, _, rfl, ?_⟩
        refine itE (m := 1) (fun h1 => ?_) (fun h1 => ?_)
        · rw [if_pos ((tb_and _ _).mp h1)]
          exact ⟨_, rfl, _, rfl, 1, e.1, rfl, rfl, ⟨by decide, pkk e (List.mem_of_getElem? ee)⟩, _, _, rfl, rfl, rfl, _, rfl⟩
        · rw [if_neg fun q => h1 ((tb_and _ _).mpr q)]
          exact ⟨rfl, _, rfl⟩
      · rintro σ H5 ⟨rfl, y5, rfl⟩
        rw [pdk_len, List.take_length]
        refine ⟨upd_same, _, rfl, ?_⟩
        refine kk _ ?_
        rw [upd_upd]
        intro b o eb
        by_cases hb : b = t
        · rw [hb] at eb ⊢
          rw [ht] at eb
          cases eb
        · rw [upd_ne hb]
          exact s3 _ _ (s1 _ _ eb)
end
end K71
end

section
set_option maxHeartbeats 4000000
/-! the walk: words.py, rules.py -/
namespace K71
open PySem PySem.Spec PyProof.Rows L2 KM RZ
section
variable {K : PySem.W.Frag}
theorem kii : PySem.W.kitOne K (.type "int") (.type "int") = some true := kit_ty (by decide +kernel)
theorem kib : PySem.W.kitOne K (.type "int") (.type "bool") = some false := kit_ty (by decide +kernel)
theorem kss : PySem.W.kitOne K (.type "str") (.type "str") = some true := kit_ty (by decide +kernel)
theorem ktt : PySem.W.kitOne K (.type "tuple") (.type "tuple") = some true := kit_ty (by decide +kernel)
theorem dp_ints {H : Hp} : ∀ ns : List Int, DpAll K H (ns.map V.int) (ns.map PyData.int)
  | [] => .nil
  | n :: ns => .cons (.int n) (dp_ints ns)
theorem lay_ints : ∀ ns : List Int, PyData.canLayAll0 (ns.map PyData.int) = true
  | [] => rfl
  | n :: ns => by
    show (PyData.canLay0 (.int n) && PyData.canLayAll0 (ns.map PyData.int)) = true
    rw [lay_ints ns]; rfl
theorem depth_ints : ∀ ns : List Int, PyData.depthAll (ns.map PyData.int) = 0
  | [] => rfl
  | n :: ns => by
    show max (PyData.depth (.int n)) (PyData.depthAll (ns.map PyData.int)) = 0
    rw [depth_ints ns]; rfl
theorem shaped_ints (ns : List Int) : SeqAt.shaped (.tuple (ns.map PyData.int)) = true := by
  show (PyData.canLayAll0 (ns.map PyData.int) && decide (PyData.depthAll (ns.map PyData.int) + 1 ≤ 64)) = true
  rw [lay_ints, depth_ints]; rfl
theorem shaped_nil : SeqAt.shaped (.tuple []) = true := rfl
theorem eqv_nil {ns : List Int} (h : ns ≠ []) : PyData.eqv (.tuple (ns.map PyData.int)) (.tuple []) = false := by
  cases ns with
  | nil => exact absurd rfl h
  | cons n ns => rfl
theorem eqv_ints (ns : List Int) : PyData.eqv (.tuple (ns.map PyData.int)) (.tuple (ns.map PyData.int)) = true := SeqAt.eqv_refl _ (lay_ints ns)
theorem walk_zipT {a b : Addr} {xs ys : List V} {n : Nat} (hn : n = min xs.length ys.length) : Walk (ItzT K a b) n (fun H => SqT K H a xs ∧ SqT K H b ys) (YPair (fun i => xs[i]?) (fun i => ys[i]?)) := by
  subst hn
  refine ⟨fun i _ hi q => ?_, fun _ q => ⟨xs, ys, q.1, q.2, by omega⟩, fun i H v H' _ q ⟨T, x, z, h1, h2, h3, h4, h5⟩ => ⟨T, x, z, h1, h2, h3, h4 xs q.1, h5 ys q.2⟩⟩
  have h1 : i < xs.length := by omega
  have h2 : i < ys.length := by omega
  exact ⟨xs, ys, xs[i], ys[i], q.1, q.2, List.getElem?_eq_getElem h1, List.getElem?_eq_getElem h2⟩
end
abbrev trues (n : Nat) : List V := List.replicate n (V.bl true)
theorem trues_map (n : Nat) : trues n = (List.replicate n true).map V.bl := by rw [List.map_replicate]
theorem trues_snoc (n : Nat) : trues n ++ [V.bl true] = trues (n + 1) := (List.replicate_succ' ..).symm
theorem trues_all (n : Nat) : (List.replicate n true).all id = true := by
  rw [List.all_eq_true]
  intro x hx
  rw [(List.mem_replicate.mp hx).2]; rfl
section
variable {P : Program} {w : World} {K : PySem.W.Frag} {mg : Str → Option Value} {base : Heap}
def q_is_integer (K : PySem.W.Frag) : Sp := fun vs H Q _ => ∃ v lo hi : Int, vs = [.int v, .int lo, .int hi] ∧ lo ≤ v ∧ v ≤ hi ∧ Q (.bl true) H
theorem ok_is_integer (D : Ok K mg) : FnOk P w K mg base CX0 1 (He.ga K "is_integer") (fdA K (He.ga K "is_integer")) ["value", "low", "high"] (q_is_integer K) := by
  refine D.f_is_integer.ok sc_is_integer (fun vs H Q E h => ?_) (fun cdv A outer s H vs Q E hr h => ?_)
  · obtain ⟨_, _, _, rfl, _⟩ := h
    rfl
  · refine ⟨_, PSs.nox (pss_cons (ps_if (PW.pt (pw_or (pt_not (pt_val (pe_callB call_isi (by rfl) D.z_isinstance (by decide +kernel) (pa_cons (pv 0) (pa_cons (pe_bltn (v := .ty "int") (by rfl) D.z_int (by decide +kernel) rfl) pa_nil))))) (pw_or1 (pt_val (pe_callB call_isi (by rfl) D.z_isinstance (by decide +kernel) (pa_cons (pv 0) (pa_cons (pe_bltn (v := .ty "bool") (by rfl) D.z_bool (by decide +kernel) rfl) pa_nil))))))) (pss_one (ps_ret pe_bl)) pss_nil)
  (pss_one (ps_ret (pe_and (pe_or (pe_cmpR op_isN (pv 1) pe_non (nomark _)) (pe_one (pe_cmpR op_ge (pv 0) (pv 1) (nomark _)))) (pe_one (pe_or (pe_cmpR op_isN (pv 2) pe_non (nomark _)) (pe_one (pe_cmpR op_le (pv 0) (pv 2) (nomark _))))))))), ?_⟩
    obtain ⟨v, lo, hi, rfl, h1, h2, k⟩ := h
    refine ⟨_, rfl, _, _, _, _, _, rfl, .ty _, .base (.int _), kii, _, rfl, iteF ?_⟩
    refine ⟨_, rfl, _, _, _, _, _, rfl, .ty _, .base (.int _), kib, _, rfl, iteF ?_⟩
    refine ⟨_, rfl, rfl, _, rfl, iteF ⟨_, rfl, _, rfl, _, _, rfl, rfl, _, rfl, ?_⟩⟩
    rw [decide_eq_true h1]
    refine iteT ⟨_, rfl, rfl, _, rfl, iteF ⟨_, rfl, _, rfl, _, _, rfl, rfl, ?_⟩⟩
    have e : decide (v ≤ hi) = true := decide_eq_true h2
    show Q (.bl (decide (v ≤ hi))) H
    rw [e]
    exact k
def q_is_word (K : PySem.W.Frag) : Sp := fun vs H Q _ => ∃ (z : Str) (a : Addr) (ws : List Str), vs = [.str z, .ref a] ∧ SqT K H a (ws.map V.str) ∧ z ∈ ws ∧ Q (.bl true) H
theorem in_strs {z : Str} {ws : List Str} (h : z ∈ ws) : inV (.str z) (ws.map V.str) = true :=
  List.any_eq_true.mpr ⟨.str z, List.mem_map_of_mem h, by show (z == z) = true; exact beq_self_eq_true z⟩
theorem flat_strs (ws : List Str) : (ws.map V.str).all flatV = true := by
  rw [List.all_map, List.all_eq_true]
  intro x _; rfl
theorem ok_is_word (D : Ok K mg) : FnOk P w K mg base CX0 1 (He.ga K "is_word") (fdA K (He.ga K "is_word")) ["value", "words"] (q_is_word K) := by
  refine D.f_is_word.ok sc_is_word (fun vs H Q E h => ?_) (fun cdv A outer s H vs Q E hr h => ?_)
  · obtain ⟨_, _, _, rfl, _⟩ := h
    rfl
  · refine ⟨_, PSs.nox (pss_one (ps_ret (pe_and (pe_callB call_isi (by rfl) D.z_isinstance (by decide +kernel) (pa_cons (pv 0) (pa_cons (pe_bltn (v := .ty "str") (by rfl) D.z_str (by decide +kernel) rfl) pa_nil))) (pe_one (pe_cmpR op_in_seq (pv 0) (pv 1) (by rfl)))))), ?_⟩
    obtain ⟨z, a, ws, rfl, hS, hz, k⟩ := h
    refine ⟨_, rfl, _, _, _, _, _, rfl, .ty _, .base (.str _), kss, _, rfl, iteT ⟨_, rfl, _, rfl, a, _, rfl, .inr hS, rfl, flat_strs ws, ?_⟩⟩
    show Q (.bl (inV (.str z) (ws.map V.str))) H
    rw [in_strs hz]
    exact k
def q_is_tuple (K : PySem.W.Frag) : Sp := fun vs H Q _ => ∃ (a : Addr) (xs : List V) (lo hi : Int), vs = [.ref a, .int lo, .int hi] ∧ H a = some (.tup xs) ∧ lo ≤ (xs.length : Int) ∧ (xs.length : Int) ≤ hi ∧ Q (.bl true) H
theorem ok_is_tuple (D : Ok K mg) : FnOk P w K mg base CX0 1 (He.ga K "is_tuple") (fdA K (He.ga K "is_tuple")) ["value", "low", "high"] (q_is_tuple K) := by
  refine D.f_is_tuple.ok sc_is_tuple (fun vs H Q E h => ?_) (fun cdv A outer s H vs Q E hr h => ?_)
  · obtain ⟨_, _, _, _, rfl, _⟩ := h
    rfl
  · refine ⟨_, PSs.nox (pss_one (ps_ret (pe_and (pe_callB call_isi (by rfl) D.z_isinstance (by decide +kernel) (pa_cons (pv 0) (pa_cons (pe_bltn (v := .ty "tuple") (by rfl) D.z_tuple (by decide +kernel) rfl) pa_nil))) (pe_and (pe_cmpR op_ge (pe_callB call_len_seq (by rfl) D.z_len (by decide +kernel) (pa_cons (pv 0) pa_nil)) (pv 1) (nomark _)) (pe_one (pe_or (pe_cmpR op_isN (pv 2) pe_non (nomark _)) (pe_one (pe_cmpR op_le (pe_callB call_len_seq (by rfl) D.z_len (by decide +kernel) (pa_cons (pv 0) pa_nil)) (pv 2) (nomark _))))))))), ?_⟩
    obtain ⟨a, xs, lo, hi, rfl, ha, h1, h2, k⟩ := h
    refine ⟨_, rfl, _, _, _, _, _, rfl, .ty _, .base (.tup ha), ktt, _, rfl, iteT ⟨_, rfl, a, _, rfl, .inr (SqT.of ha), _, rfl, _, _, rfl, rfl, _, rfl, ?_⟩⟩
    rw [decide_eq_true h1]
    refine iteT ⟨_, rfl, rfl, _, rfl, iteF ⟨_, rfl, a, _, rfl, .inr (SqT.of ha), _, rfl, _, _, rfl, rfl, ?_⟩⟩
    have e : decide ((xs.length : Int) ≤ hi) = true := decide_eq_true h2
    show Q (.bl (decide ((xs.length : Int) ≤ hi))) H
    rw [e]
    exact k
def q_is_lot (K : PySem.W.Frag) : Sp := fun vs H Q _ => ∃ (a : Addr) (ns : List Int) (lo hi : Int), vs = [.ref a, .int lo, .int hi] ∧ H a = some (.tup (ns.map V.int)) ∧ ns ≠ [] ∧ ns.Pairwise (· < ·) ∧ (∀ o ∈ ns, lo ≤ o ∧ o ≤ hi) ∧ ns.length ≤ 1000 ∧ ∀ H', Same H H' → Q (.bl true) H'
theorem ok_is_lot (D : Ok K mg) : FnOk P w K mg base CX0 1 (He.ga K "is_lot") (fdA K (He.ga K "is_lot")) ["value", "low", "high"] (q_is_lot K) := by
  refine D.f_is_lot.ok sc_is_lot (fun vs H Q E h => ?_) (fun cdv A outer s H vs Q E hr h => ?_)
  · obtain ⟨_, _, _, _, rfl, _⟩ := h
    rfl
  · refine ⟨_, PSs.nox (pss_cons (ps_if (pt_not (pt_val (pe_callB call_isi (by rfl) D.z_isinstance (by decide +kernel) (pa_cons (pv 0) (pa_cons (pe_bltn (v := .ty "tuple") (by rfl) D.z_tuple (by decide +kernel) rfl) pa_nil))))) (pss_one (ps_ret pe_bl)) pss_nil)
  (pss_cons (ps_if (pt_not (pt_val (pe_callB (cr_all rfl) (by rfl) D.z_all (by decide +kernel) (pa_cons (pe_lc (own := [("one", 3)]) (by rfl) sc_is_lot.nd (pi_tup (pv 0)) (blkOk_by (own := [("one", 3)]) (N := ["value", "low", "high", "one", "other"]) (sc := defScope s_is_lot) (by decide +kernel)) (fun _ _ _ _ _ => (pg_name (i := 3) sc_is_lot.nd rfl (.inl rfl))) (fun _ _ _ _ _ => pts_nil) (fun _ _ _ _ _ => (pe_and (pe_callB (r := rIsi K) call_isi (by rfl) D.z_isinstance (by decide +kernel) (pa_cons (pv 3) (pa_cons (pe_bltn (v := .ty "int") (by rfl) D.z_int (by decide +kernel) rfl) pa_nil))) (pe_one (pe_not (pe_callB (r := rIsi K) call_isi (by rfl) D.z_isinstance (by decide +kernel) (pa_cons (pv 3) (pa_cons (pe_bltn (v := .ty "bool") (by rfl) D.z_bool (by decide +kernel) rfl) pa_nil)))))))) pa_nil)))) (pss_one (ps_ret pe_bl)) pss_nil)
  (pss_cons (ps_if (pt_not (pt_val (pe_callB (cr_all rfl) (by rfl) D.z_all (by decide +kernel) (pa_cons (pe_lc (own := [("one", 3), ("other", 4)]) (g := gTup K 2 (gCons (gName 3) (gCons (gName 4) gNil))) (by rfl) sc_is_lot.nd (pi_zipA (by rfl) D.z_zip (pa_cons (pv 0) (pa_cons (pe_slice sl_tup (pv 0) (po_some pe_int) po_none) pa_nil))) (blkOk_by (own := [("one", 3), ("other", 4)]) (N := ["value", "low", "high", "one", "other"]) (sc := defScope s_is_lot) (by decide +kernel)) (fun _ _ _ _ _ => (pg_tup (by rfl) (pgs_cons (pg_name (i := 3) sc_is_lot.nd rfl (.inl rfl)) (pgs_cons (pg_name (i := 4) sc_is_lot.nd rfl (.inl rfl)) pgs_nil)))) (fun _ _ _ _ _ => pts_nil) (fun _ _ _ _ _ => (pe_cmpR op_lt (pv 3) (pv 4) (nomark _)))) pa_nil)))) (pss_one (ps_ret pe_bl)) pss_nil)
  (pss_cons (ps_if (PW.pt (pw_and (pt_cmpR (op_neD hr.units) (pv 0) (pe_tup pa_nil) (nomark _)) (pw_and (pt_cmpR op_notN (pv 1) pe_non (nomark _)) (pw_and1 (pt_cmpR op_lt (pe_ix ix_tup (pv 0) pe_int (fun _ _ => rfl)) (pv 1) (nomark _)))))) (pss_one (ps_ret pe_bl)) pss_nil)
  (pss_one (ps_ret (pe_or (pe_cmpR (op_eqD hr.units) (pv 0) (pe_tup pa_nil) (nomark _)) (pe_or (pe_cmpR op_isN (pv 2) pe_non (nomark _)) (pe_one (pe_cmpR op_le (pe_ix ix_tup (pv 0) (pe_un un_neg pe_int) (fun _ _ => rfl)) (pv 2) (nomark _))))))))))), ?_⟩
    obtain ⟨a, ns, lo, hi, rfl, ha, hne, hasc, hb, hlen, k⟩ := h
    have lenV : (ns.map V.int).length = ns.length := List.length_map ..
    refine ⟨_, rfl, _, _, _, _, _, rfl, .ty _, .base (.tup ha), ktt, _, rfl, iteF ?_⟩
    -- all ints
    refine ⟨_, rfl, a, rfl, ⟨_, SqT.of ha⟩, fun D1 hD1 => lc_it (walk_tup (xs := ns.map V.int)) (fun i H' => H' = upd H D1 (.lst (trues i))) rfl (fun i H' _ h => by rw [h]; exact (stup (same_new hD1) (SqT.of ha))) ?_ ?_⟩
    · rintro i x H1 H2 hi rfl ⟨rfl, ex⟩
      obtain ⟨o, eo, rfl⟩ := map_at ex
      rw [lenV] at hi
      refine ⟨rfl, ⟨_, rfl, _, _, _, _, _, rfl, .ty _, .base (.int _), kii, _, rfl, iteT ⟨_, rfl, _, _, _, _, _, rfl, .ty _, .base (.int _), kib, _, rfl, ?_⟩⟩⟩
      refine ⟨_, upd_same, szl (by rw [List.length_replicate]; omega), ?_⟩
      rw [upd_upd]
      exact congrArg (fun z => upd H D1 (.lst z)) (trues_snoc i)
    · rintro H1 rfl
      refine ⟨D1, List.replicate ns.length true, rfl, SqL.of (by rw [upd_same, lenV, ← trues_map]), _, rfl, ?_⟩
      rw [trues_all]
      refine iteF ?_
      -- ascending
      have s1 : Same H (upd H D1 (.lst (trues (ns.map V.int).length))) := same_new hD1
      generalize upd H D1 (.lst (trues (ns.map V.int).length)) = H1 at s1 ⊢
      have ha1 := s1 _ _ ha
      refine ⟨_, rfl, _, rfl, 1, rfl, a, _, rfl, SqT.of ha1, ?_, fun c hc => ?_⟩
      · rw [lenV]
        rintro ⟨q, _⟩
        have : HT.sIx ns.length 0 (some 1) = min 1 ns.length := HT.sIx_nat ns.length 0 1
        rw [this] at q
        have : 0 < ns.length := List.length_pos_iff.mpr hne
        omega
      have cut : cutV (ns.map V.int) (some 1) none = (ns.drop 1).map V.int := by
        unfold cutV
        rw [show HT.sIx (ns.map V.int).length 0 (some 1) = min 1 (ns.map V.int).length from HT.sIx_nat _ 0 1, HT.sIx_none, lenV, List.map_drop]
        have : min 1 ns.length = 1 := by have : 0 < ns.length := List.length_pos_iff.mpr hne; omega
        rw [this, List.take_of_length_le]
        rw [List.length_drop, lenV]
        exact Nat.le_refl _
      rw [cut]
      have s2 : Same H1 (upd H1 c (.tup ((ns.drop 1).map V.int))) := same_new hc
      have hc2 : (upd H1 c (.tup ((ns.drop 1).map V.int))) c = some (.tup ((ns.drop 1).map V.int)) := upd_same
      generalize upd H1 c (.tup ((ns.drop 1).map V.int)) = H2 at s2 hc2 ⊢
      have ha2 := s2 _ _ ha1
      refine ⟨a, c, ns.map V.int, (ns.drop 1).map V.int, rfl, .inr ⟨SqT.of ha2, SqT.of hc2, fun D2 hD2 => ?_⟩⟩
      refine lc_it (walk_zipT (n := ns.length - 1) (by rw [lenV, List.length_map, List.length_drop]; omega)) (fun i H' => Same H2 H' ∧ H' D2 = some (.lst (trues i))) ⟨same_new hD2, upd_same⟩ (fun i H' _ h => ⟨stup h.1 (SqT.of ha2), stup h.1 (SqT.of hc2)⟩) ?_ ?_
      · rintro i x H3 H4 hi ⟨s3, hD3⟩ ⟨T, x1, x2, rfl, hT, rfl, e1, e2⟩
        obtain ⟨o1, eo1, rfl⟩ := map_at e1
        obtain ⟨o2, eo2, rfl⟩ := map_at e2
        rw [List.getElem?_drop] at eo2
        have nDT : D2 ≠ T := ne_of_none hD3 hT
        refine ⟨T, _, rfl, SqT.of upd_same, rfl, _, _, rfl, _, _, rfl, rfl, rfl, ?_⟩
        have lt : o1 < o2 := by
          obtain ⟨h1, q1⟩ := List.getElem?_eq_some_iff.mp eo1
          obtain ⟨h2, q2⟩ := List.getElem?_eq_some_iff.mp eo2
          rw [← q1, ← q2]
          exact List.pairwise_iff_getElem.mp hasc i (1 + i) h1 h2 (by omega)
        refine ⟨_, rfl, _, rfl, _, _, rfl, rfl, _, Eq.trans (upd_ne nDT) hD3, szl (by rw [List.length_replicate]; omega), smut (snew s3 hT) hD2, ?_⟩
        rw [upd_same]
        have d : decide (o1 < o2) = true := decide_eq_true lt
        show some (HO.lst (trues i ++ [V.bl (decide (o1 < o2))])) = _
        rw [d, trues_snoc]
      · rintro H3 ⟨s3, hD3⟩
        refine ⟨D2, List.replicate (ns.length - 1) true, rfl, SqL.of (by rw [hD3, ← trues_map]), _, rfl, ?_⟩
        rw [trues_all]
        refine iteF ?_
        have ha3 := s3 _ _ ha2
        -- value != () and ..
        refine ⟨_, rfl, sz (by show 0 ≤ 100000; decide), fun e0 he0 => ?_⟩
        have s4 : Same H3 (upd H3 e0 (.tup [])) := same_new he0
        have he4 : (upd H3 e0 (.tup [])) e0 = some (.tup []) := upd_same
        generalize upd H3 e0 (.tup []) = H4 at s4 he4 ⊢
        have ha4 := s4 _ _ ha3
        refine ⟨_, _, .tup (SqT.of ha4) (dp_ints ns), .tup (SqT.of he4) .nil, shaped_ints ns, shaped_nil, _, rfl, ?_⟩
        rw [eqv_nil hne]
        refine iteT ⟨_, rfl, rfl, _, rfl, ?_⟩
        have dn : decide (V.int lo = V.non) = false := decide_eq_false (fun z => nomatch z)
        rw [dn]
        obtain ⟨n0, ns', ens⟩ : ∃ n0 ns', ns = n0 :: ns' := List.exists_cons_of_ne_nil hne
        refine iteT ⟨_, rfl, a, _, 0, V.int n0, rfl, rfl, SqT.of ha4, by rw [ens]; exact atI_nat (j := 0) rfl, _, rfl, _, _, rfl, rfl, _, rfl, ?_⟩
        have nlt : decide (n0 < lo) = false := decide_eq_false (by have := (hb n0 (by rw [ens]; exact List.mem_cons_self ..)).1; omega)
        rw [nlt]
        refine iteF ?_
        -- the answer
        refine ⟨_, rfl, sz (by show 0 ≤ 100000; decide), fun e1 he1 => ?_⟩
        have s5 : Same H4 (upd H4 e1 (.tup [])) := same_new he1
        have he5 : (upd H4 e1 (.tup [])) e1 = some (.tup []) := upd_same
        generalize upd H4 e1 (.tup []) = H5 at s5 he5 ⊢
        have ha5 := s5 _ _ ha4
        refine ⟨_, _, .tup (SqT.of ha5) (dp_ints ns), .tup (SqT.of he5) .nil, shaped_ints ns, shaped_nil, _, rfl, ?_⟩
        rw [eqv_nil hne]
        refine iteF ⟨_, rfl, rfl, _, rfl, ?_⟩
        have dn2 : decide (V.int hi = V.non) = false := decide_eq_false (fun z => nomatch z)
        rw [dn2]
        obtain ⟨ns2, z, ez⟩ : ∃ ns2 z, ns = ns2 ++ [z] := ⟨ns.dropLast, ns.getLast hne, (List.dropLast_concat_getLast hne).symm⟩
        refine iteF ⟨_, rfl, _, rfl, a, _, (-1), V.int z, rfl, rfl, SqT.of ha5, by rw [ez, List.map_append]; exact atI_last _ _, _, rfl, _, _, rfl, rfl, ?_⟩
        have d : decide (z ≤ hi) = true := decide_eq_true (hb z (by rw [ez]; exact List.mem_append_right _ (List.mem_singleton.mpr rfl))).2
        show Q (.bl (decide (z ≤ hi))) H5
        rw [d]
        exact k _ ((((s1.trans s2).trans s3).trans s4).trans s5)
end
end K71
end

section
set_option maxHeartbeats 4000000
/-! the walk: rules.py, the checks of rows.py -/
namespace K71
open PySem PySem.Spec PyProof.Rows L2 KM RZ
/-- a rule: its offsets, ascending -/
structure RuleOk (ring : Bool) (ru : List Int) : Prop where
  ne : ru ≠ []
  asc : ru.Pairwise (· < ·)
  bnd : ∀ o ∈ ru, -6 ≤ o ∧ o ≤ 6
  len : ru.length ≤ 1000
  even : ring = false → ru = ru.reverse.map (- ·)
/-- a kind of rows -/
def kd : Bool → Str
  | true => "ring"
  | false => "walls"
/-- signs of a row -/
def txt (b n : Nat) : Str := ⟨((List.range n).map fun p => if b.testBit p = true then 49 else 48).toArray⟩
theorem txt_len (b n : Nat) : (txt b n).length = n := by
  show ((List.range n).map fun p => if b.testBit p = true then 49 else 48).toArray.size = n
  rw [List.size_toArray, List.length_map, List.length_range]
theorem txt_at {b n i : Nat} (h : i < n) : (txt b n).cps[i]? = some (if b.testBit i = true then 49 else 48) := by
  show ((List.range n).map fun p => if b.testBit p = true then 49 else 48).toArray[i]? = _
  rw [List.getElem?_toArray, List.getElem?_map, List.getElem?_range h]; rfl
theorem neg_ints (ru : List Int) : ((ru.map V.int).reverse.map fun v => v) = ru.reverse.map V.int := by
  rw [← List.map_reverse, List.map_id']
section
variable {P : Program} {w : World} {K : PySem.W.Frag} {mg : Str → Option Value} {base : Heap}
def q_check_rule (K : PySem.W.Frag) : Sp := fun vs H Q _ => ∃ (a : Addr) (ru : List Int) (ring : Bool), vs = [.ref a] ∧ H a = some (.tup (ru.map V.int)) ∧ RuleOk ring ru ∧ ∀ H', Same H H' → Q .non H'
theorem ok_check_rule (D : Ok K mg) : FnOk P w K mg base CX0 2 (He.ga K "check_rule") (fdA K (He.ga K "check_rule")) ["value"] (q_check_rule K) := by
  refine D.f_check_rule.ok sc_check_rule (fun vs H Q E h => ?_) (fun cdv A outer s H vs Q E hr h => ?_)
  · obtain ⟨_, _, _, rfl, _⟩ := h
    rfl
  · refine ⟨_, PSs.nox (pss_one (ps_if (PW.pt (pw_or (pt_cmpR (op_eqD hr.units) (pv 0) (pe_tup pa_nil) (nomark _)) (pw_or1 (pt_not (pt_val (pe_call (ok_is_lot D) (hr.mono (by decide)) rfl D.m_is_lot D.f_is_lot.kp D.b_is_lot .nil pass0 (pa_cons (pv 0) (pa_cons (pe_un un_neg (pe_gi rfl D.i_MOST_OFFSET)) (pa_cons (pe_gi rfl D.i_MOST_OFFSET) pa_nil))))))))) (pss_one ps_never) pss_nil)), ?_⟩
    obtain ⟨a, ru, ring, rfl, ha, R, k⟩ := h
    refine ⟨_, rfl, sz (by show 0 ≤ 100000; decide), fun e0 he0 => ?_⟩
    have s1 : Same H (upd H e0 (.tup [])) := same_new he0
    refine ⟨_, _, .tup (SqT.of (s1 _ _ ha)) (dp_ints ru), .tup (SqT.of upd_same) .nil, shaped_ints ru, shaped_nil, _, rfl, ?_⟩
    rw [eqv_nil R.ne]
    refine iteF ⟨_, rfl, _, rfl, a, ru, _, _, rfl, s1 _ _ ha, R.ne, R.asc, R.bnd, R.len, fun H2 s2 => ⟨_, rfl, iteF (k _ (s1.trans s2))⟩⟩
def q_contrary (K : PySem.W.Frag) : Sp := fun vs H Q _ => ∃ (a : Addr) (ru : List Int), vs = [.ref a] ∧ H a = some (.tup (ru.map V.int)) ∧ ru.length ≤ 1000 ∧ ∀ p H', Same H H' → H p = none → H' p = some (.tup ((ru.reverse.map (- ·)).map V.int)) → Q (.ref p) H'
theorem ok_contrary (D : Ok K mg) : FnOk P w K mg base CX0 1 (He.ga K "contrary") (fdA K (He.ga K "contrary")) ["rule"] (q_contrary K) := by
  refine D.f_contrary.ok sc_contrary (fun vs H Q E h => ?_) (fun cdv A outer s H vs Q E hr h => ?_)
  · obtain ⟨_, _, rfl, _⟩ := h
    rfl
  · refine ⟨_, PSs.nox (pss_one (ps_ret (pe_callTy call_tuple_of (by rfl) D.z_tuple (by decide +kernel) (pa_cons (pe_lc (own := [("offset", 1)]) (by rfl) sc_contrary.nd (pi_tup (pe_revT (pv 0))) (blkOk_by (own := [("offset", 1)]) (N := ["rule", "offset"]) (sc := defScope s_contrary) (by decide +kernel)) (fun _ _ _ _ _ => (pg_name (i := 1) sc_contrary.nd rfl (.inl rfl))) (fun _ _ _ _ _ => pts_nil) (fun _ _ _ _ _ => (pe_un un_neg (pv 1)))) pa_nil)))), ?_⟩
    obtain ⟨a, ru, rfl, ha, hlen, k⟩ := h
    refine ⟨_, rfl, a, _, rfl, SqT.of ha, fun t ht => ?_⟩
    have er : (ru.map V.int).reverse = ru.reverse.map V.int := List.map_reverse.symm
    rw [er]
    have s1 : Same H (upd H t (.tup (ru.reverse.map V.int))) := same_new ht
    have ht1 : (upd H t (.tup (ru.reverse.map V.int))) t = some (.tup (ru.reverse.map V.int)) := upd_same
    generalize upd H t (.tup (ru.reverse.map V.int)) = H1 at s1 ht1 ⊢
    refine ⟨t, rfl, ⟨_, SqT.of ht1⟩, fun D1 hD1 => lc_it (walk_tup (xs := ru.reverse.map V.int)) (fun i H' => H' = upd H1 D1 (.lst (((ru.reverse.take i).map (- ·)).map V.int))) rfl (fun i H' _ h => by rw [h]; exact stup (same_new hD1) (SqT.of ht1)) ?_ ?_⟩
    · rintro i x H2 H3 hi rfl ⟨rfl, ex⟩
      obtain ⟨o, eo, rfl⟩ := map_at ex
      rw [List.length_map, List.length_reverse] at hi
      refine ⟨rfl, ⟨_, rfl, _, rfl, _, upd_same, szl ?_, ?_⟩⟩
      · rw [List.length_map, List.length_map, List.length_take, List.length_reverse]; omega
      · rw [upd_upd, take_succ eo, List.map_append, List.map_append]; rfl
    · rintro H2 rfl
      rw [List.length_map, List.take_length]
      refine ⟨D1, _, rfl, .inl ⟨SqL.of upd_same, fun p hp => ?_⟩⟩
      exact k p _ (snew (s1.trans (same_new hD1)) hp) ((s1.trans (same_new hD1)).free hp) upd_same
def q_is_mirrored (K : PySem.W.Frag) : Sp := fun vs H Q _ => ∃ (a : Addr) (ru : List Int), vs = [.ref a] ∧ H a = some (.tup (ru.map V.int)) ∧ ru.length ≤ 1000 ∧ ru = ru.reverse.map (- ·) ∧ ∀ H', Same H H' → Q (.bl true) H'
theorem ok_is_mirrored (D : Ok K mg) : FnOk P w K mg base CX0 2 (He.ga K "is_mirrored") (fdA K (He.ga K "is_mirrored")) ["rule"] (q_is_mirrored K) := by
  refine D.f_is_mirrored.ok sc_is_mirrored (fun vs H Q E h => ?_) (fun cdv A outer s H vs Q E hr h => ?_)
  · obtain ⟨_, _, rfl, _⟩ := h
    rfl
  · refine ⟨_, PSs.nox (pss_one (ps_ret (pe_cmpR (op_eqD hr.units) (pv 0) (pe_call (ok_contrary D) (hr.mono (by decide)) rfl D.m_contrary D.f_contrary.kp D.b_contrary .nil pass0 (pa_cons (pv 0) pa_nil)) (nomark _)))), ?_⟩
    obtain ⟨a, ru, rfl, ha, hlen, he, k⟩ := h
    refine ⟨_, rfl, _, rfl, a, ru, rfl, ha, hlen, fun p H1 s1 hp h1 => ?_⟩
    rw [← he] at h1
    refine ⟨_, _, .tup (SqT.of (s1 _ _ ha)) (dp_ints ru), .tup (SqT.of h1) (dp_ints ru), shaped_ints ru, shaped_ints ru, ?_⟩
    rw [eqv_ints]
    exact k _ s1
theorem kd_mem (ring : Bool) : kd ring ∈ (["ring", "walls"] : List Str) := by
  cases ring
  · exact List.mem_cons_of_mem _ (List.mem_cons_self ..)
  · exact List.mem_cons_self ..
theorem kd_walls (ring : Bool) : decide (V.str (kd ring) = V.str "walls") = !ring := by
  cases ring <;> decide +kernel
theorem kd_ring (ring : Bool) : decide (V.str (kd ring) = V.str "ring") = ring := by
  cases ring <;> decide +kernel
def q_check_world (K : PySem.W.Frag) : Sp := fun vs H Q _ => ∃ (ring : Bool) (a : Addr) (ru : List Int), vs = [.str (kd ring), .ref a] ∧ H a = some (.tup (ru.map V.int)) ∧ RuleOk ring ru ∧ ∀ H', Same H H' → Q .non H'
theorem ok_check_world (D : Ok K mg) : FnOk P w K mg base CX0 3 (He.ga K "check_world") (fdA K (He.ga K "check_world")) ["kind", "rule"] (q_check_world K) := by
  refine D.f_check_world.ok sc_check_world (fun vs H Q E h => ?_) (fun cdv A outer s H vs Q E hr h => ?_)
  · obtain ⟨_, _, _, rfl, _⟩ := h
    rfl
  · refine ⟨_, PSs.nox (pss_cons (ps_if (pt_not (pt_val (pe_call (ok_is_word D) (hr.mono (by decide)) rfl D.m_is_word D.f_is_word.kp D.b_is_word .nil pass0 (pa_cons (pv 0) (pa_cons (pe_glob (v := .ref (He.ga K "KINDS")) rfl D.m_KINDS rfl) pa_nil))))) (pss_one ps_never) pss_nil)
  (pss_cons (ps_expr (pe_call (ok_check_rule D) (hr.mono (by decide)) rfl D.m_check_rule D.f_check_rule.kp D.b_check_rule .nil pass0 (pa_cons (pv 1) pa_nil)))
  (pss_one (ps_if (PW.pt (pw_and (pt_cmpR op_eq (pv 0) (pe_gs rfl D.i_WALLS) (nomark _)) (pw_and1 (pt_not (pt_val (pe_call (ok_is_mirrored D) (hr.mono (by decide)) rfl D.m_is_mirrored D.f_is_mirrored.kp D.b_is_mirrored .nil pass0 (pa_cons (pv 1) pa_nil))))))) (pss_one ps_never) pss_nil)))), ?_⟩
    obtain ⟨ring, a, ru, rfl, ha, R, k⟩ := h
    refine ⟨_, rfl, _, _, ["ring", "walls"], rfl, D.kinds H, kd_mem ring, _, rfl, iteF ?_⟩
    refine ⟨_, rfl, a, ru, ring, rfl, ha, R, fun H1 s1 => ?_⟩
    refine ⟨_, rfl, rfl, _, rfl, ?_⟩
    rw [kd_walls]
    cases ring with
    | true => exact iteF (iteF (k _ s1))
    | false =>
      refine iteT ⟨_, rfl, a, ru, rfl, s1 _ _ ha, R.len, R.even rfl, fun H2 s2 => ⟨_, rfl, iteF (k _ (s1.trans s2))⟩⟩
def q_is_row (K : PySem.W.Frag) : Sp := fun vs H Q _ => ∃ b n : Nat, vs = [.str (txt b n)] ∧ 0 < n ∧ n ≤ 24 ∧ ∀ H', Same H H' → Q (.bl true) H'
theorem sign_in (b i : Nat) : inV (.str ⟨#[if b.testBit i = true then 49 else 48]⟩) [V.str "1", V.str "0"] = true := by
  by_cases h : b.testBit i = true
  · rw [if_pos h]; decide +kernel
  · rw [if_neg h]; decide +kernel
theorem ok_is_row (D : Ok K mg) : FnOk P w K mg base CX0 1 (He.ga K "is_row") (fdA K (He.ga K "is_row")) ["value"] (q_is_row K) := by
  refine D.f_is_row.ok sc_is_row (fun vs H Q E h => ?_) (fun cdv A outer s H vs Q E hr h => ?_)
  · obtain ⟨_, _, rfl, _⟩ := h
    rfl
  · refine ⟨_, PSs.nox (pss_cons (ps_if (PW.pt (pw_or (pt_not (pt_val (pe_callB call_isi (by rfl) D.z_isinstance (by decide +kernel) (pa_cons (pv 0) (pa_cons (pe_bltn (v := .ty "str") (by rfl) D.z_str (by decide +kernel) rfl) pa_nil))))) (pw_or1 (pt_not (pt_chain op_lt op_le pe_int (pe_callB call_len_str (by rfl) D.z_len (by decide +kernel) (pa_cons (pv 0) pa_nil)) (pe_gi rfl D.i_MOST_SIZE)))))) (pss_one (ps_ret pe_bl)) pss_nil)
  (pss_one (ps_ret (pe_callB (cr_all rfl) (by rfl) D.z_all (by decide +kernel) (pa_cons (pe_lc (own := [("sign", 1)]) (by rfl) sc_is_row.nd (pi_str (pv 0)) (blkOk_by (own := [("sign", 1)]) (N := ["value", "sign"]) (sc := defScope s_is_row) (by decide +kernel)) (fun _ _ _ _ _ => (pg_name (i := 1) sc_is_row.nd rfl (.inl rfl))) (fun _ _ _ _ _ => pts_nil) (fun _ _ _ _ _ => (pe_cmpR (show OpR _ (compareOp .In) (rIn K false) from op_in_seq) (pv 1) (pe_tup (pa_cons (pe_gs rfl D.i_ON) (pa_cons (pe_gs rfl D.i_OFF) pa_nil))) (by rfl)))) pa_nil))))), ?_⟩
    obtain ⟨b, n, rfl, h0, h24, k⟩ := h
    refine ⟨_, rfl, _, _, _, _, _, rfl, .ty _, .base (.str _), kss, _, rfl, iteF ?_⟩
    have len : ((txt b n).length : Int) = (n : Int) := by rw [txt_len]
    have c1 : decide ((0 : Int) < ((txt b n).length : Int)) = true := decide_eq_true (by rw [len]; omega)
    have c2 : decide (((txt b n).length : Int) ≤ 24) = true := decide_eq_true (by rw [len]; omega)
    refine ⟨_, rfl, _, rfl, sz (by rw [txt_len]; omega), _, _, rfl, rfl, _, rfl, ?_⟩
    rw [c1]
    refine iteT ⟨_, _, rfl, rfl, _, rfl, ?_⟩
    rw [c2]
    refine iteF ?_
    refine ⟨_, rfl, _, rfl, fun D1 hD1 => lc_it walk_str (fun i H' => Same H H' ∧ H' D1 = some (.lst (trues i))) ⟨same_new hD1, upd_same⟩ (fun _ _ _ _ => trivial) ?_ ?_⟩
    · rintro i x H2 H1 hi ⟨s1, h1⟩ ⟨eH, c, ec, rfl⟩
      subst eH
      have hi' : i < n := by
        have : (txt b n).cps.size = n := txt_len b n
        omega
      rw [txt_at hi'] at ec
      have ec := (Option.some.inj ec).symm
      subst ec
      refine ⟨rfl, _, rfl, sz (by show 2 ≤ 100000; decide), fun p hp => ?_⟩
      have np : D1 ≠ p := ne_of_none h1 hp
      refine ⟨p, _, rfl, .inr (SqT.of upd_same), rfl, rfl, _, Eq.trans (upd_ne np) h1, szl (by rw [List.length_replicate]; omega), smut (snew s1 hp) hD1, ?_⟩
      rw [upd_same]
      show some (HO.lst (trues i ++ [V.bl (inV _ _)])) = _
      rw [sign_in, trues_snoc]
    · rintro H1 ⟨s1, h1⟩
      refine ⟨D1, List.replicate (txt b n).cps.size true, rfl, SqL.of (by rw [h1, ← trues_map]), ?_⟩
      rw [trues_all]
      exact k _ s1
def q_check_row (K : PySem.W.Frag) : Sp := fun vs H Q _ => ∃ b n : Nat, vs = [.str (txt b n)] ∧ 0 < n ∧ n ≤ 24 ∧ ∀ H', Same H H' → Q .non H'
theorem ok_check_row (D : Ok K mg) : FnOk P w K mg base CX0 2 (He.ga K "check_row") (fdA K (He.ga K "check_row")) ["value"] (q_check_row K) := by
  refine D.f_check_row.ok sc_check_row (fun vs H Q E h => ?_) (fun cdv A outer s H vs Q E hr h => ?_)
  · obtain ⟨_, _, rfl, _⟩ := h
    rfl
  · refine ⟨_, PSs.nox (pss_one (ps_if (pt_not (pt_val (pe_call (ok_is_row D) (hr.mono (by decide)) rfl D.m_is_row D.f_is_row.kp D.b_is_row .nil pass0 (pa_cons (pv 0) pa_nil)))) (pss_one ps_never) pss_nil)), ?_⟩
    obtain ⟨b, n, rfl, h0, h24, k⟩ := h
    exact ⟨_, rfl, b, n, rfl, h0, h24, fun H1 s1 => ⟨_, rfl, iteF (k _ s1)⟩⟩
def q_check_size (K : PySem.W.Frag) : Sp := fun vs H Q _ => ∃ v m : Int, vs = [.int v, .int m] ∧ 1 ≤ v ∧ v ≤ m ∧ Q .non H
theorem ok_check_size (D : Ok K mg) : FnOk P w K mg base CX0 2 (He.ga K "check_size") (fdA K (He.ga K "check_size")) ["value", "most"] (q_check_size K) := by
  refine D.f_check_size.ok sc_check_size (fun vs H Q E h => ?_) (fun cdv A outer s H vs Q E hr h => ?_)
  · obtain ⟨_, _, rfl, _⟩ := h
    rfl
  · refine ⟨_, PSs.nox (pss_one (ps_if (pt_not (pt_val (pe_call (ok_is_integer D) (hr.mono (by decide)) rfl D.m_is_integer D.f_is_integer.kp D.b_is_integer .nil pass0 (pa_cons (pv 0) (pa_cons pe_int (pa_cons (pv 1) pa_nil)))))) (pss_one ps_never) pss_nil)), ?_⟩
    obtain ⟨v, m, rfl, h1, h2, k⟩ := h
    exact ⟨_, rfl, _, rfl, v, 1, m, rfl, h1, h2, _, rfl, iteF k⟩
def q_check_beats (K : PySem.W.Frag) : Sp := fun vs H Q _ => ∃ v l m : Int, vs = [.int v, .int l, .int m] ∧ l ≤ v ∧ v ≤ m ∧ Q .non H
theorem ok_check_beats (D : Ok K mg) : FnOk P w K mg base CX0 2 (He.ga K "check_beats") (fdA K (He.ga K "check_beats")) ["value", "least", "most"] (q_check_beats K) := by
  refine D.f_check_beats.ok sc_check_beats (fun vs H Q E h => ?_) (fun cdv A outer s H vs Q E hr h => ?_)
  · obtain ⟨_, _, _, rfl, _⟩ := h
    rfl
  · refine ⟨_, PSs.nox (pss_one (ps_if (pt_not (pt_val (pe_call (ok_is_integer D) (hr.mono (by decide)) rfl D.m_is_integer D.f_is_integer.kp D.b_is_integer .nil pass0 (pa_cons (pv 0) (pa_cons (pv 1) (pa_cons (pv 2) pa_nil)))))) (pss_one ps_never) pss_nil)), ?_⟩
    obtain ⟨v, l, m, rfl, h1, h2, k⟩ := h
    exact ⟨_, rfl, _, rfl, _, rfl, v, l, m, rfl, h1, h2, _, rfl, iteF k⟩
end
end K71
end

section
set_option maxHeartbeats 4000000
/-! plain mathematics: bits of a row, its turned rows, bounds -/
namespace KM
open K71 (xrl_snoc pw_of)
theorem range_filter_snoc (n : Nat) (p : Nat → Bool) : (List.range (n + 1)).filter p = (List.range n).filter p ++ (if p n = true then [n] else []) := by
  rw [List.range_succ, List.filter_append]
  congr 1
  by_cases h : p n = true
  · rw [if_pos h]; simp [h]
  · rw [if_neg h]; simp [h]
theorem xrl_range (b : Nat) : ∀ n, xrl ((List.range n).filter fun i => b.testBit i) = b % 2 ^ n
  | 0 => by rw [Nat.pow_zero, Nat.mod_one]; rfl
  | n + 1 => by
    rw [range_filter_snoc]
    have key : b % 2 ^ (n + 1) = b % 2 ^ n ^^^ (if b.testBit n = true then 2 ^ n else 0) := by
      apply Nat.eq_of_testBit_eq
      intro i
      rw [Nat.testBit_xor, Nat.testBit_mod_two_pow, Nat.testBit_mod_two_pow]
      rcases Nat.lt_trichotomy i n with h | h | h
      · rw [decide_eq_true (by omega : i < n + 1), decide_eq_true h]
        by_cases c : b.testBit n = true
        · rw [if_pos c, Nat.testBit_two_pow_of_ne (by omega)]; simp
        · rw [if_neg c, Nat.zero_testBit]; simp
      · subst h
        rw [decide_eq_true (by omega : i < i + 1), decide_eq_false (by omega : ¬ i < i)]
        by_cases c : b.testBit i = true
        · rw [if_pos c, Nat.testBit_two_pow_self, c]; rfl
        · rw [if_neg c, Nat.zero_testBit]
          cases e : b.testBit i with
          | true => exact absurd e c
          | false => rfl
      · rw [decide_eq_false (by omega : ¬ i < n + 1), decide_eq_false (by omega : ¬ i < n)]
        by_cases c : b.testBit n = true
        · rw [if_pos c, Nat.testBit_two_pow_of_ne (by omega)]; rfl
        · rw [if_neg c, Nat.zero_testBit]; rfl
    by_cases c : b.testBit n = true
    · rw [if_pos c, xrl_snoc, xrl_range b n, key, if_pos c, one_shl]
    · rw [if_neg c, List.append_nil, xrl_range b n, key, if_neg c, Nat.xor_zero]
theorem xrl_pw (b : Nat) : xrl (pw b) = b := by
  rw [show pw b = (List.range (blen b)).filter fun i => b.testBit i from rfl, xrl_range, Nat.mod_eq_of_lt (blen_lt b)]
theorem pw_mem {b p n : Nat} (hb : b < 2 ^ n) (h : p ∈ pw b) : p < n := by
  have := (List.mem_filter.mp h).1
  have := List.mem_range.mp this
  have := blen_le hb
  omega
theorem xrl_foldl (l : List Nat) : ∀ a, l.foldl (fun a p => a ^^^ (1 <<< p)) a = a ^^^ xrl l := by
  unfold xrl
  induction l with
  | nil => intro a; exact (Nat.xor_zero a).symm
  | cons p l ih =>
    intro a
    rw [List.foldl_cons, List.foldl_cons, ih, ih (0 ^^^ _), Nat.zero_xor, Nat.xor_assoc]
theorem xrl_cons (p : Nat) (l : List Nat) : xrl (p :: l) = (1 <<< p) ^^^ xrl l := by
  show (p :: l).foldl _ 0 = _
  rw [List.foldl_cons, xrl_foldl, Nat.zero_xor]
theorem xrl_lt {N : Nat} : ∀ {l : List Nat}, (∀ p ∈ l, p < N) → xrl l < 2 ^ N
  | [], _ => Nat.two_pow_pos N
  | p :: l, h => by
    rw [xrl_cons, one_shl]
    exact Nat.xor_lt_two_pow (Nat.pow_lt_pow_of_lt (by decide) (h p (List.mem_cons_self ..))) (xrl_lt fun q hq => h q (List.mem_cons_of_mem _ hq))
theorem unf_lt {n b : Nat} (h : b < 2 ^ n) : unf n b < 2 ^ (2 * n + 2) := by
  unfold unf
  apply Nat.or_lt_two_pow
  · rw [Nat.shiftLeft_eq]
    have : b * 2 ^ 1 < 2 ^ n * 2 ^ 1 := Nat.mul_lt_mul_of_pos_right h (by decide)
    rw [← Nat.pow_add] at this
    exact Nat.lt_of_lt_of_le this (Nat.pow_le_pow_right (by decide) (by omega))
  · apply xrl_lt
    intro p hp
    obtain ⟨q, hq, rfl⟩ := List.mem_map.mp hp
    omega
theorem onceM_lt (ru : List Int) {N : Nat} (hN : 0 < N) : onceM ru N < 2 ^ N := by
  apply xrl_lt
  intro p hp
  obtain ⟨o, _, rfl⟩ := List.mem_map.mp hp
  have := Int.emod_lt_of_pos o (show (0 : Int) < N by omega)
  have := Int.emod_nonneg o (show (N : Int) ≠ 0 by omega)
  omega
theorem ring_mod_ne (N : Nat) : (1 <<< N) ||| 1 ≠ 0 := fun e => by
  have : ((1 <<< N) ||| 1).testBit 0 = true := by rw [Nat.testBit_or]; simp
  rw [e] at this
  simp at this
theorem ring_mod_lt (N : Nat) : (1 <<< N) ||| 1 < 2 ^ (N + 1) := Nat.or_lt_two_pow (by rw [one_shl]; exact Nat.pow_lt_pow_of_lt (by decide) (by omega)) (Nat.one_lt_two_pow (by omega))
theorem powL_lt {m n : Nat} (m0 : m ≠ 0) (hm : m < 2 ^ (n + 1)) : ∀ (f fo he re : Nat), fo < 2 ^ n → powL m f fo he re < 2 ^ n
  | 0, fo, _, _, h => h
  | f + 1, fo, he, re, h => by
    show (if re = 0 then fo else _) < _
    split
    · exact h
    · apply powL_lt m0 hm
      split
      · exact md_lt _ m0 hm
      · exact h
theorem powr_lt {a t m n : Nat} (m0 : m ≠ 0) (hm : m < 2 ^ (n + 1)) : powr a t m < 2 ^ n := powL_lt m0 hm _ _ _ _ (md_lt _ m0 hm)
theorem offB_lt (o N t : Nat) : offB o N t < 2 ^ N := powr_lt (ring_mod_ne N) (ring_mod_lt N)
theorem rotX_lt {N b a o : Nat} (ha : a < 2 ^ N) (hb : b < 2 ^ N) : rotX N b a o < 2 ^ N := by
  unfold rotX
  refine Nat.xor_lt_two_pow (Nat.xor_lt_two_pow ha (Nat.lt_of_le_of_lt (Nat.shiftRight_le _ _) hb)) ?_
  exact Nat.and_lt_two_pow _ (by rw [one_shl]; exact Nat.sub_lt (Nat.two_pow_pos N) (by decide))
theorem rots_lt {N b : Nat} (hb : b < 2 ^ N) : ∀ (l : List Nat) (a : Nat), a < 2 ^ N → l.foldl (rotX N b) a < 2 ^ N
  | [], _, h => h
  | o :: l, a, h => rots_lt hb l _ (rotX_lt h hb)
theorem beatBy_lt {off N b : Nat} (hb : b < 2 ^ N) : beatBy off N b < 2 ^ N := rots_lt hb _ _ (Nat.two_pow_pos N)
theorem byOff_lt (ring : Bool) (off : Nat) {n b : Nat} (hb : b < 2 ^ n) : byOff ring off n b < 2 ^ n := by
  unfold byOff
  split
  · exact beatBy_lt hb
  · exact Nat.and_lt_two_pow _ (by rw [one_shl]; exact Nat.sub_lt (Nat.two_pow_pos n) (by decide))
theorem cols_lt (ring : Bool) (o n t : Nat) : ∀ x ∈ cols ring o n t, x < 2 ^ n := fun x hx => by
  obtain ⟨p, hp, rfl⟩ := List.mem_map.mp hx
  exact byOff_lt _ _ (by rw [one_shl]; exact Nat.pow_lt_pow_of_lt (by decide) (List.mem_range.mp hp))
theorem cols_len (ring : Bool) (o n t : Nat) : (cols ring o n t).length = n := by
  unfold cols
  rw [List.length_map, List.length_range]
end KM
end

section
set_option maxHeartbeats 4000000
/-! the walk: rows.py -/
namespace K71
open PySem PySem.Spec PyProof.Rows L2 KM RZ
/-- i mod m, i of any sign -/
theorem omz {X : Cx} : OpR X (binaryOp .Mod) (fun x y H Q => ∃ (i : Int) (m : Nat), x = .int i ∧ y = .int (m : Int) ∧ 0 < m ∧ Q (vn (i % (m : Int)).toNat) H) := by
  intro pins s σ H x y v u Q I rx ry ⟨i, m, ex, ey, c, q⟩
  refine op_modN pins s σ H x y v u Q I rx ry ⟨i, (m : Int), ex, ey, by omega, qi ?_ q⟩
  rw [Int.fmod_eq_emod_of_nonneg _ (Int.natCast_nonneg m), Int.toNat_of_nonneg (Int.emod_nonneg _ (by omega))]
theorem sign_dec (b i : Nat) : decide (V.str ⟨#[if b.testBit i = true then 49 else 48]⟩ = V.str "1") = b.testBit i := by
  cases b.testBit i <;> decide +kernel
theorem pow_mono {n m : Nat} (h : n ≤ m) : 2 ^ n ≤ 2 ^ m := Nat.pow_le_pow_right (by decide) h
section
variable {P : Program} {w : World} {K : PySem.W.Frag} {mg : Str → Option Value} {base : Heap}
def q_row_bits (K : PySem.W.Frag) : Sp := fun vs H Q _ => ∃ b n : Nat, vs = [.str (txt b n)] ∧ n ≤ 24 ∧ b < 2 ^ n ∧ ∀ H', Same H H' → Q (vn b) H'
theorem ok_row_bits (D : Ok K mg) : FnOk P w K mg base CX0 2 (He.ga K "row_bits") (fdA K (He.ga K "row_bits")) ["row"] (q_row_bits K) := by
  refine D.f_row_bits.ok sc_row_bits (fun vs H Q E h => ?_) (fun cdv A outer s H vs Q E hr h => ?_)
  · obtain ⟨_, _, rfl, _⟩ := h
    rfl
  · refine ⟨_, PSs.nox (pss_one (ps_ret (pe_call (ok_bits_of D) (hr.mono (by decide)) rfl D.m_bits_of D.f_bits_of.kp D.b_bits_of .nil pass0 (pa_cons (pe_lc (own := [("place", 1), ("sign", 2)]) (g := gTup K 2 (gCons (gName 1) (gCons (gName 2) gNil))) (by rfl) sc_row_bits.nd (pi_enumS (by rfl) D.z_enumerate (pa_cons (pv 0) pa_nil)) (blkOk_by (own := [("place", 1), ("sign", 2)]) (N := ["row", "place", "sign"]) (sc := defScope s_row_bits) (by decide +kernel)) (fun _ _ _ _ _ => (pg_tup (by rfl) (pgs_cons (pg_name (i := 1) sc_row_bits.nd rfl (.inl rfl)) (pgs_cons (pg_name (i := 2) sc_row_bits.nd rfl (.inl rfl)) pgs_nil)))) (fun _ _ _ _ _ => pts_one (pt_cmpR op_eq (pv 2) (pe_gs rfl D.i_ON) (nomark _))) (fun _ _ _ _ _ => (pv 1))) pa_nil)))), ?_⟩
    obtain ⟨b, n, rfl, h24, hb, k⟩ := h
    have sz' : (txt b n).cps.size = n := txt_len b n
    refine ⟨_, rfl, _, rfl, fun D1 hD1 => lc_it walk_enumS (fun i H' => Same H H' ∧ H' D1 = some (.lst (vns ((List.range i).filter fun j => b.testBit j)))) ⟨same_new hD1, upd_same⟩ (fun _ _ _ _ => trivial) ?_ ?_⟩
    · rintro i x H2 H1 hi ⟨s1, h1⟩ ⟨T, c, rfl, nT, rfl, ec⟩
      rw [sz'] at hi
      rw [txt_at hi] at ec
      have ec := (Option.some.inj ec).symm
      subst ec
      have nDT : D1 ≠ T := ne_of_none h1 nT
      refine ⟨T, _, rfl, SqT.of upd_same, rfl, _, _, rfl, _, _, rfl, rfl, rfl, _, rfl, rfl, _, rfl, ?_⟩
      rw [sign_dec]
      have key := range_filter_snoc i fun j => b.testBit j
      refine ite2 (fun hb => ?_) (fun hb => ?_)
      · rw [if_pos hb] at key
        refine ⟨_, rfl, _, Eq.trans (upd_ne nDT) h1, szl ?_, ?_⟩
        · have := List.length_filter_le (fun j => b.testBit j) (List.range i)
          rw [List.length_range] at this
          rw [vns_len]; omega
        · refine ⟨smut (snew s1 nT) hD1, ?_⟩
          rw [upd_same, key, vns, vns, List.map_append]; rfl
      · rw [if_neg hb, List.append_nil] at key
        exact ⟨snew s1 nT, by rw [upd_ne nDT, key]; exact h1⟩
    · rintro H1 ⟨s1, h1⟩
      rw [sz', pw_of hb] at h1
      refine ⟨D1, pw b, rfl, SqL.of h1, fun p hp => ?_, ?_⟩
      · have := pw_mem hb hp
        omega
      · rw [xrl_pw]
        exact k _ s1
def q_offset_bits (K : PySem.W.Frag) : Sp := fun vs H Q _ => ∃ (a : Addr) (ru : List Int) (N t : Nat), vs = [.ref a, vn N, vn t] ∧ H a = some (.tup (ru.map V.int)) ∧ ru.length ≤ 1000 ∧ 0 < N ∧ N ≤ 30 ∧ ∀ H', Same H H' → Q (vn (offB (onceM ru N) N t)) H'
theorem ok_offset_bits (D : Ok K mg) : FnOk P w K mg base CX0 5 (He.ga K "offset_bits") (fdA K (He.ga K "offset_bits")) ["rule", "size", "beats"] (q_offset_bits K) := by
  refine D.f_offset_bits.ok sc_offset_bits (fun vs H Q E h => ?_) (fun cdv A outer s H vs Q E hr h => ?_)
  · obtain ⟨_, _, _, _, rfl, _⟩ := h
    rfl
  · refine ⟨_, PSs.nox (pss_cons (ps_set (i := 3) sc_offset_bits.nd rfl (.inl rfl) (pe_call (ok_bits_of D) (hr.mono (by decide)) rfl D.m_bits_of D.f_bits_of.kp D.b_bits_of .nil pass0 (pa_cons (pe_lc (own := [("offset", 4)]) (by rfl) sc_offset_bits.nd (pi_tup (pv 0)) (blkOk_by (own := [("offset", 4)]) (N := ["rule", "size", "beats", "once", "offset"]) (sc := defScope s_offset_bits) (by decide +kernel)) (fun _ _ _ _ _ => (pg_name (i := 4) sc_offset_bits.nd rfl (.inl rfl))) (fun _ _ _ _ _ => pts_nil) (fun _ _ _ _ _ => (pe_op omz (pv 4) (pv 1)))) pa_nil)))
  (pss_one (ps_ret (pe_call (ok_power_of D) (hr.mono (by decide)) rfl D.m_power_of D.f_power_of.kp D.b_power_of .nil pass0 (pa_cons (pv 3) (pa_cons (pv 2) (pa_cons (pe_op oo (pe_op osl pe_int (pv 1)) pe_int) pa_nil))))))), ?_⟩
    obtain ⟨a, ru, N, t, rfl, ha, hlen, h0, h30, k⟩ := h
    refine ⟨_, rfl, _, rfl, ⟨_, SqT.of ha⟩, fun D1 hD1 => lc_it (walk_tup (xs := ru.map V.int)) (fun i H' => H' = upd H D1 (.lst (vns ((ru.take i).map fun o => (o % (N : Int)).toNat)))) rfl (fun i H' _ h => by rw [h]; exact stup (same_new hD1) (SqT.of ha)) ?_ ?_⟩
    · rintro i x H2 H3 hi rfl ⟨rfl, ex⟩
      obtain ⟨o, eo, rfl⟩ := map_at ex
      rw [List.length_map] at hi
      refine ⟨rfl, ⟨_, rfl, _, rfl, o, N, rfl, rfl, h0, _, upd_same, szl ?_, ?_⟩⟩
      · rw [vns_len, List.length_map, List.length_take]; omega
      · rw [upd_upd, take_succ eo, List.map_append, vns, vns, List.map_append]; rfl
    · rintro H2 rfl
      rw [List.length_map, List.take_length]
      have s1 : Same H (upd H D1 (.lst (vns (ru.map fun o => (o % (N : Int)).toNat)))) := same_new hD1
      have lt := onceM_lt ru h0
      have l64 : onceM ru N < 2 ^ 64 := Nat.lt_of_lt_of_le lt (pow_mono (by omega))
      have m32 : (1 <<< N) ||| 1 < 2 ^ 32 := Nat.lt_of_lt_of_le (ring_mod_lt N) (pow_mono (by omega))
      refine ⟨D1, _, rfl, SqL.of upd_same, fun p hp => ?_, ?_⟩
      · obtain ⟨o, _, rfl⟩ := List.mem_map.mp hp
        have := Int.emod_lt_of_pos o (show (0 : Int) < N by omega)
        have := Int.emod_nonneg o (show (N : Int) ≠ 0 by omega)
        omega
      · refine ⟨_, rfl, _, rfl, _, rfl, 1, N, rfl, rfl, ⟨by decide, by omega⟩, _, 1, rfl, rfl, ?_⟩
        exact ⟨_, t, _, rfl, l64, m32, ring_mod_ne N, fun H' s2 => k H' (s1.trans s2)⟩
def q_beat_by (K : PySem.W.Frag) : Sp := fun vs H Q _ => ∃ off N b : Nat, vs = [vn off, vn N, vn b] ∧ N ≤ 60 ∧ off < 2 ^ N ∧ b < 2 ^ N ∧ ∀ H', Same H H' → Q (vn (beatBy off N b)) H'
theorem ok_beat_by (D : Ok K mg) : FnOk P w K mg base CX0 2 (He.ga K "beat_by") (fdA K (He.ga K "beat_by")) ["offsets", "size", "bits"] (q_beat_by K) := by
  refine D.f_beat_by.ok sc_beat_by (fun vs H Q E h => ?_) (fun cdv A outer s H vs Q E hr h => ?_)
  · obtain ⟨_, _, _, rfl, _⟩ := h
    rfl
  · refine ⟨_, PSs.nox (pss_cons (ps_par (i := 3) (j := 4) (by rfl) sc_beat_by.nd rfl rfl (by decide) rfl rfl (pa_cons pe_int (pa_cons (pe_op osb (pe_op osl pe_int (pv 1)) pe_int) pa_nil)) (by rfl))
  (pss_cons (ps_for PassesOwn.never rfl (pi_tup (pe_call (ok_powers_of D) (hr.mono (by decide)) rfl D.m_powers_of D.f_powers_of.kp D.b_powers_of .nil pass0 (pa_cons (pv 0) pa_nil))) (pg_name (i := 5) sc_beat_by.nd rfl (.inl rfl))
    (pss_one (ps_set (i := 3) sc_beat_by.nd rfl (.inl rfl) (pe_op ox (pe_op ox (pv 3) (pe_op osr (pv 2) (pv 5))) (pe_op oa (pe_op osl (pv 2) (pe_op osb (pv 1) (pv 5))) (pv 4))))))
  (pss_one (ps_ret (pv 3))))), ?_⟩
    obtain ⟨off, N, b, rfl, h60, ho, hb, k⟩ := h
    have o64 : off < 2 ^ 64 := Nat.lt_of_lt_of_le ho (pow_mono (by omega))
    have b64 : b < 2 ^ 64 := Nat.lt_of_lt_of_le hb (pow_mono (by omega))
    have one : 1 ≤ 1 <<< N := by rw [one_shl]; exact Nat.two_pow_pos N
    refine ⟨_, rfl, 1, N, rfl, rfl, ⟨by decide, by omega⟩, _, 1, rfl, rfl, one, _, _, rfl, ?_⟩
    refine ⟨_, rfl, off, rfl, o64, fun t H1 s1 ht hT => ?_⟩
    refine ⟨t, rfl, ⟨_, SqT.of hT⟩, for_it (walk_tup (xs := vns (pw off))) (fun i σ H' => H' = H1 ∧ ∃ y, σ = [some (vn off), some (vn N), some (vn b), some (vn (((pw off).take i).foldl (rotX N b) 0)), some (vn (1 <<< N - 1)), y]) ⟨rfl, none, rfl⟩ (fun i σ H' _ h => by rw [h.1]; exact SqT.of hT) ?_ ?_⟩
    · rintro i x σ H2 H3 hi ⟨rfl, y, rfl⟩ ⟨rfl, ex⟩
      obtain ⟨p, ep, rfl⟩ := vns_at ex
      have hp := pw_mem ho (List.mem_of_getElem? ep)
      refine ⟨_, rfl, _, rfl, _, rfl, _, _, rfl, rfl, trivial, _, _, rfl, rfl, _, rfl, _, rfl, _, rfl, _, _, rfl, rfl, by omega, _, _, rfl, rfl, ⟨b64, by omega⟩, _, rfl, _, _, rfl, rfl, _, _, rfl, rfl, rfl, some (vn p), ?_⟩
      rw [take_succ ep, List.foldl_append]; rfl
    · rintro σ H2 ⟨rfl, y, rfl⟩
      rw [vns_len, List.take_length]
      exact ⟨_, rfl, k _ s1⟩
def q_unfolded_bits (K : PySem.W.Frag) : Sp := fun vs H Q _ => ∃ n b : Nat, vs = [vn n, vn b] ∧ n ≤ 24 ∧ b < 2 ^ n ∧ ∀ H', Same H H' → Q (vn (unf n b)) H'
theorem ok_unfolded_bits (D : Ok K mg) : FnOk P w K mg base CX0 2 (He.ga K "unfolded_bits") (fdA K (He.ga K "unfolded_bits")) ["size", "bits"] (q_unfolded_bits K) := by
  refine D.f_unfolded_bits.ok sc_unfolded_bits (fun vs H Q E h => ?_) (fun cdv A outer s H vs Q E hr h => ?_)
  · obtain ⟨_, _, rfl, _⟩ := h
    rfl
  · refine ⟨_, PSs.nox (pss_cons (ps_set (i := 2) sc_unfolded_bits.nd rfl (.inl rfl) (pe_call (ok_bits_of D) (hr.mono (by decide)) rfl D.m_bits_of D.f_bits_of.kp D.b_bits_of .nil pass0 (pa_cons (pe_lc (own := [("place", 3)]) (by rfl) sc_unfolded_bits.nd (pi_tup (pe_call (ok_powers_of D) (hr.mono (by decide)) rfl D.m_powers_of D.f_powers_of.kp D.b_powers_of .nil pass0 (pa_cons (pv 1) pa_nil))) (blkOk_by (own := [("place", 3)]) (N := ["size", "bits", "mirror", "place"]) (sc := defScope s_unfolded_bits) (by decide +kernel)) (fun _ _ _ _ _ => (pg_name (i := 3) sc_unfolded_bits.nd rfl (.inl rfl))) (fun _ _ _ _ _ => pts_nil) (fun _ _ _ _ _ => (pe_op osb (pe_op oad (pe_op oml pe_int (pv 0)) pe_int) (pv 3)))) pa_nil)))
  (pss_one (ps_ret (pe_op oo (pe_op osl (pv 1) pe_int) (pv 2))))), ?_⟩
    obtain ⟨n, b, rfl, h24, hb, k⟩ := h
    have b64 : b < 2 ^ 64 := Nat.lt_of_lt_of_le hb (pow_mono (by omega))
    refine ⟨_, rfl, b, rfl, b64, fun t H1 s1 ht hT => ?_⟩
    refine ⟨t, rfl, ⟨_, SqT.of hT⟩, fun D1 hD1 => lc_it (walk_tup (xs := vns (pw b))) (fun i H' => H' = upd H1 D1 (.lst (vns (((pw b).take i).map fun p => 2 * n + 1 - p)))) rfl (fun i H' _ h => by rw [h]; exact stup (same_new hD1) (SqT.of hT)) ?_ ?_⟩
    · rintro i x H2 H3 hi rfl ⟨rfl, ex⟩
      obtain ⟨p, ep, rfl⟩ := vns_at ex
      have hp := pw_mem hb (List.mem_of_getElem? ep)
      have hl := pw_len b
      have hl2 := blen_le hb
      refine ⟨rfl, _, rfl, 2, n, rfl, rfl, by show 2 < 2 ^ 64; decide, _, 1, rfl, rfl, _, rfl, _, _, rfl, rfl, by omega, _, upd_same, szl ?_, ?_⟩
      · rw [vns_len, List.length_map, List.length_take]; omega
      · rw [upd_upd, take_succ ep, List.map_append, vns, vns, List.map_append]; rfl
    · rintro H2 rfl
      rw [vns_len, List.take_length]
      refine ⟨D1, _, rfl, SqL.of upd_same, fun p hp => ?_, ?_⟩
      · obtain ⟨q, hq, rfl⟩ := List.mem_map.mp hp
        omega
      · refine ⟨_, rfl, _, 1, rfl, rfl, ⟨b64, by decide⟩, _, rfl, _, _, rfl, rfl, ?_⟩
        exact k _ (s1.trans (same_new hD1))
def q_by_offsets (K : PySem.W.Frag) : Sp := fun vs H Q _ => ∃ (ring : Bool) (off n b : Nat), vs = [.str (kd ring), vn off, vn n, vn b] ∧ n ≤ 24 ∧ off < 2 ^ wd ring n ∧ b < 2 ^ n ∧ ∀ H', Same H H' → Q (vn (byOff ring off n b)) H'
theorem ok_by_offsets (D : Ok K mg) : FnOk P w K mg base CX0 3 (He.ga K "by_offsets") (fdA K (He.ga K "by_offsets")) ["kind", "offsets", "size", "bits"] (q_by_offsets K) := by
  refine D.f_by_offsets.ok sc_by_offsets (fun vs H Q E h => ?_) (fun cdv A outer s H vs Q E hr h => ?_)
  · obtain ⟨_, _, _, _, rfl, _⟩ := h
    rfl
  · refine ⟨_, PSs.nox (pss_cons (ps_if (pt_cmpR op_eq (pv 0) (pe_gs rfl D.i_RING) (nomark _)) (pss_one (ps_ret (pe_call (ok_beat_by D) (hr.mono (by decide)) rfl D.m_beat_by D.f_beat_by.kp D.b_beat_by .nil pass0 (pa_cons (pv 1) (pa_cons (pv 2) (pa_cons (pv 3) pa_nil)))))) pss_nil)
  (pss_cons (ps_set (i := 4) sc_by_offsets.nd rfl (.inl rfl) (pe_call (ok_beat_by D) (hr.mono (by decide)) rfl D.m_beat_by D.f_beat_by.kp D.b_beat_by .nil pass0 (pa_cons (pv 1) (pa_cons (pe_op oad (pe_op oml pe_int (pv 2)) pe_int) (pa_cons (pe_call (ok_unfolded_bits D) (hr.mono (by decide)) rfl D.m_unfolded_bits D.f_unfolded_bits.kp D.b_unfolded_bits .nil pass0 (pa_cons (pv 2) (pa_cons (pv 3) pa_nil))) pa_nil)))))
  (pss_one (ps_ret (pe_op oa (pe_op osr (pv 4) pe_int) (pe_op osb (pe_op osl pe_int (pv 2)) pe_int)))))), ?_⟩
    obtain ⟨ring, off, n, b, rfl, h24, ho, hb, k⟩ := h
    refine ⟨_, rfl, rfl, _, rfl, ?_⟩
    rw [kd_ring]
    cases ring with
    | true => exact iteT ⟨_, rfl, _, rfl, _, rfl, off, n, b, rfl, by omega, ho, hb, k⟩
    | false =>
      have one : 1 ≤ 1 <<< n := by rw [one_shl]; exact Nat.two_pow_pos n
      refine iteF ⟨_, rfl, _, rfl, 2, n, rfl, rfl, by show 2 < 2 ^ 64; decide, _, 2, rfl, rfl, _, rfl, _, rfl, n, b, rfl, h24, hb, fun H1 s1 => ?_⟩
      refine ⟨off, 2 * n + 2, unf n b, rfl, by omega, ho, unf_lt hb, fun H2 s2 => ?_⟩
      refine ⟨_, rfl, _, 1, rfl, rfl, trivial, _, rfl, 1, n, rfl, rfl, ⟨by decide, by omega⟩, _, 1, rfl, rfl, one, _, _, rfl, rfl, ?_⟩
      exact k _ (s1.trans s2)
def q_world_offsets (K : PySem.W.Frag) : Sp := fun vs H Q _ => ∃ (ring : Bool) (a : Addr) (ru : List Int) (n t : Nat), vs = [.str (kd ring), .ref a, vn n, vn t] ∧ H a = some (.tup (ru.map V.int)) ∧ ru.length ≤ 1000 ∧ 0 < n ∧ n ≤ 14 ∧ ∀ H', Same H H' → Q (vn (offB (onceM ru (wd ring n)) (wd ring n) t)) H'
theorem ok_world_offsets (D : Ok K mg) : FnOk P w K mg base CX0 6 (He.ga K "world_offsets") (fdA K (He.ga K "world_offsets")) ["kind", "rule", "size", "beats"] (q_world_offsets K) := by
  refine D.f_world_offsets.ok sc_world_offsets (fun vs H Q E h => ?_) (fun cdv A outer s H vs Q E hr h => ?_)
  · obtain ⟨_, _, _, _, _, rfl, _⟩ := h
    rfl
  · refine ⟨_, PSs.nox (pss_one (ps_ret (pe_call (ok_offset_bits D) (hr.mono (by decide)) rfl D.m_offset_bits D.f_offset_bits.kp D.b_offset_bits .nil pass0 (pa_cons (pv 1) (pa_cons (pe_ifExp (pt_cmpR op_eq (pv 0) (pe_gs rfl D.i_RING) (nomark _)) (pv 2) (pe_op oad (pe_op oml pe_int (pv 2)) pe_int)) (pa_cons (pv 3) pa_nil)))))), ?_⟩
    obtain ⟨ring, a, ru, n, t, rfl, ha, hlen, h0, h14, k⟩ := h
    refine ⟨_, rfl, _, rfl, rfl, _, rfl, ?_⟩
    rw [kd_ring]
    cases ring with
    | true => exact iteT ⟨_, rfl, _, rfl, a, ru, n, t, rfl, ha, hlen, h0, by omega, k⟩
    | false => exact iteF ⟨_, rfl, 2, n, rfl, rfl, by show 2 < 2 ^ 64; decide, _, 2, rfl, rfl, _, rfl, a, ru, 2 * n + 2, t, rfl, ha, hlen, by omega, by omega, k⟩
/-- the offsets of a beat, taken t times -/
abbrev wof (ring : Bool) (ru : List Int) (n t : Nat) : Nat := offB (onceM ru (wd ring n)) (wd ring n) t
theorem wof_lt (ring : Bool) (ru : List Int) (n t : Nat) : wof ring ru n t < 2 ^ wd ring n := offB_lt _ _ _
def q_after_bits (K : PySem.W.Frag) : Sp := fun vs H Q _ => ∃ (ring : Bool) (a : Addr) (ru : List Int) (n b t : Nat), vs = [.str (kd ring), .ref a, vn n, vn b, vn t] ∧ H a = some (.tup (ru.map V.int)) ∧ ru.length ≤ 1000 ∧ 0 < n ∧ n ≤ 14 ∧ b < 2 ^ n ∧ ∀ H', Same H H' → Q (vn (byOff ring (wof ring ru n t) n b)) H'
theorem ok_after_bits (D : Ok K mg) : FnOk P w K mg base CX0 7 (He.ga K "after_bits") (fdA K (He.ga K "after_bits")) ["kind", "rule", "size", "bits", "beats"] (q_after_bits K) := by
  refine D.f_after_bits.ok sc_after_bits (fun vs H Q E h => ?_) (fun cdv A outer s H vs Q E hr h => ?_)
  · obtain ⟨_, _, _, _, _, _, rfl, _⟩ := h
    rfl
  · refine ⟨_, PSs.nox (pss_one (ps_ret (pe_call (ok_by_offsets D) (hr.mono (by decide)) rfl D.m_by_offsets D.f_by_offsets.kp D.b_by_offsets .nil pass0 (pa_cons (pv 0) (pa_cons (pe_call (ok_world_offsets D) (hr.mono (by decide)) rfl D.m_world_offsets D.f_world_offsets.kp D.b_world_offsets .nil pass0 (pa_cons (pv 0) (pa_cons (pv 1) (pa_cons (pv 2) (pa_cons (pv 4) pa_nil))))) (pa_cons (pv 2) (pa_cons (pv 3) pa_nil))))))), ?_⟩
    obtain ⟨ring, a, ru, n, b, t, rfl, ha, hlen, h0, h14, hb, k⟩ := h
    refine ⟨_, rfl, _, rfl, _, rfl, _, rfl, _, rfl, ring, a, ru, n, t, rfl, ha, hlen, h0, h14, fun H1 s1 => ?_⟩
    exact ⟨_, rfl, _, rfl, ring, _, n, b, rfl, by omega, wof_lt _ _ _ _, hb, fun H2 s2 => k _ (s1.trans s2)⟩
def q_beat_power (K : PySem.W.Frag) : Sp := fun vs H Q _ => ∃ (ring : Bool) (a : Addr) (ru : List Int) (n t : Nat), vs = [.str (kd ring), .ref a, vn n, vn t] ∧ H a = some (.tup (ru.map V.int)) ∧ ru.length ≤ 1000 ∧ 0 < n ∧ n ≤ 14 ∧
  ∀ p H', Same H H' → H p = none → H' p = some (.lst (vns (cols ring (onceM ru (wd ring n)) n t))) → Q (.ref p) H'
theorem ok_beat_power (D : Ok K mg) : FnOk P w K mg base CX0 7 (He.ga K "beat_power") (fdA K (He.ga K "beat_power")) ["kind", "rule", "size", "beats"] (q_beat_power K) := by
  refine D.f_beat_power.ok sc_beat_power (fun vs H Q E h => ?_) (fun cdv A outer s H vs Q E hr h => ?_)
  · obtain ⟨_, _, _, _, _, rfl, _⟩ := h
    rfl
  · refine ⟨_, PSs.nox (pss_cons (ps_set (i := 4) sc_beat_power.nd rfl (.inr rfl) (pe_call (ok_world_offsets D) (hr.mono (by decide)) rfl D.m_world_offsets D.f_world_offsets.kp D.b_world_offsets .nil pass0 (pa_cons (pv 0) (pa_cons (pv 1) (pa_cons (pv 2) (pa_cons (pv 3) pa_nil))))))
  (pss_one (ps_ret (pe_lc (own := [("place", 5)]) (by rfl) sc_beat_power.nd (pi_range1 (by rfl) D.z_range (pa_cons (pv 2) pa_nil)) (blkOk_by (own := [("place", 5)]) (N := ["kind", "rule", "size", "beats", "offsets", "place"]) (sc := defScope s_beat_power) (by decide +kernel)) (fun _ _ _ _ _ => (pg_name (i := 5) sc_beat_power.nd rfl (.inl rfl))) (fun _ _ _ _ _ => pts_nil) (fun _ _ _ _ _ => (pe_call (ok_by_offsets D) (hr.mono (by decide)) rfl D.m_by_offsets D.f_by_offsets.kp D.b_by_offsets .nil pass0 (pa_cons (pv 0) (pa_cons (pv 4) (pa_cons (pv 2) (pa_cons (pe_op osl pe_int (pv 5)) pa_nil)))))))))), ?_⟩
    obtain ⟨ring, a, ru, n, t, rfl, ha, hlen, h0, h14, k⟩ := h
    refine ⟨_, rfl, _, rfl, _, rfl, _, rfl, ring, a, ru, n, t, rfl, ha, hlen, h0, h14, fun H1 s1 => ?_⟩
    refine ⟨_, rfl, (n : Int), rfl, by omega, by omega, fun D1 hD1 => ?_⟩
    rw [Int.toNat_natCast]
    refine lc_it walk_range (fun i H' => Same H1 H' ∧ H' D1 = some (.lst (vns ((List.range i).map fun p => byOff ring (wof ring ru n t) n (1 <<< p))))) ⟨same_new hD1, upd_same⟩ (fun _ _ _ _ => trivial) ?_ ?_
    · rintro i x H2 H3 hi ⟨s2, h2⟩ ⟨eH, rfl⟩
      subst eH
      have ei : (0 : Int) + (i : Int) = (i : Int) := Int.zero_add _
      refine ⟨rfl, _, rfl, _, rfl, _, rfl, _, rfl, 1, i, rfl, by show V.int (0 + (i : Int)) = vn i; rw [ei], ⟨by decide, by omega⟩, ?_⟩
      refine ⟨ring, _, n, _, rfl, by omega, wof_lt _ _ _ _, by rw [one_shl]; exact Nat.pow_lt_pow_of_lt (by decide) hi, fun H4 s4 => ?_⟩
      refine ⟨_, s4 _ _ h2, szl ?_, smut (s2.trans s4) hD1, ?_⟩
      · rw [vns_len, List.length_map, List.length_range]; omega
      · rw [upd_same, List.range_succ, List.map_append, vns, vns, List.map_append]; rfl
    · rintro H2 ⟨s2, h2⟩
      exact k D1 _ (s1.trans s2) (s1.free hD1) h2
end
end K71
end

section
set_option maxHeartbeats 4000000
/-! the walk: rows.py (row_text, after), gardens.py, deeper.py -/
namespace KM
theorem combR_lt {n : Nat} : ∀ {rows : List Nat}, (∀ r ∈ rows, r < 2 ^ n) → ∀ p, combR rows p < 2 ^ n
  | [], _, _ => Nat.two_pow_pos n
  | r :: rs, h, p => by
    show (if p % 2 = 1 then r else 0) ^^^ combR rs (p / 2) < 2 ^ n
    apply Nat.xor_lt_two_pow
    · split
      · exact h r (List.mem_cons_self ..)
      · exact Nat.two_pow_pos n
    · exact combR_lt (fun q hq => h q (List.mem_cons_of_mem _ hq)) _
theorem span_pre {n : Nat} {rows : List Nat} (h : ∀ r ∈ rows, r < 2 ^ n) : SpanInv (combR rows) n rows.length (Spn.of rows) :=
  span_of (combR_lin rows) fun i r e => ⟨combR_pow rows i r e, h r (List.mem_of_getElem? e)⟩
/-- the first i from a on with p -/
def fstF (p : Nat → Bool) : Nat → Nat → Option Nat
  | 0, _ => none
  | f + 1, i => if p i = true then some i else fstF p f (i + 1)
/-- how deep a row lies: by no number up to n (none), or the greatest number of beats -/
def depM (ring : Bool) (o n b : Nat) : Option Nat := fstF (fun i => ((Spn.of (cols ring o n (i + 1))).num b).isNone) n 0
end KM
namespace K71
open PySem PySem.Spec PyProof.Rows L2 KM RZ
theorem join_glue (ys : List (List Nat)) : TL.joinL [] ys = ys.flatten := by
  induction ys with
  | nil => rfl
  | cons x ys ih =>
    cases ys with
    | nil => show x = x ++ []; rw [List.append_nil]
    | cons y r => show x ++ ([] ++ TL.joinL [] (y :: r)) = x ++ (y :: r).flatten; rw [ih]; rfl
theorem join_codes (cs : List Nat) : Txt.join "" (cs.map fun c => (⟨#[c]⟩ : Str)) = ⟨cs.toArray⟩ := by
  have e : (cs.map fun c => (⟨#[c]⟩ : Str)) = (cs.map fun c => [c]).map SX.S := by rw [List.map_map]; rfl
  have f : ("" : Str) = SX.S [] := by decide +kernel
  rw [e, f, SX.join_S, join_glue]
  have g : (cs.map fun c => [c]).flatten = cs := by
    induction cs with
    | nil => rfl
    | cons c cs ih => rw [List.map_cons, List.flatten_cons, ih (by rw [List.map_map]; rfl)]; rfl
  rw [g]
theorem join_lens (cs : List Nat) : ((cs.map fun c => (⟨#[c]⟩ : Str)).map (·.length)).sum = cs.length := by
  induction cs with
  | nil => rfl
  | cons c cs ih => rw [List.map_cons, List.map_cons, List.sum_cons, ih, List.length_cons, Nat.add_comm]; rfl
theorem sign_str (b i : Nat) : (⟨#[if b.testBit i = true then 49 else 48]⟩ : Str) = if b.testBit i = true then "1" else "0" := by
  cases b.testBit i <;> decide +kernel
section
variable {P : Program} {w : World} {K : PySem.W.Frag} {mg : Str → Option Value} {base : Heap}
theorem slist {H H' : Hp} {a : Addr} {xs : List V} (e : Same H H') (h : SqL K H a xs) : SqL K H' a xs := by
  rcases h with (h | ⟨o, h⟩) | h
  · exact .inl (.inl (e _ _ h))
  · exact .inl (.inr ⟨o, e _ _ h⟩)
  · exact .inr h
def q_row_text (K : PySem.W.Frag) : Sp := fun vs H Q _ => ∃ b n : Nat, vs = [vn b, vn n] ∧ n ≤ 24 ∧ ∀ H', Same H H' → Q (.str (txt b n)) H'
theorem ok_row_text (D : Ok K mg) : FnOk P w K mg base CX0 1 (He.ga K "row_text") (fdA K (He.ga K "row_text")) ["bits", "size"] (q_row_text K) := by
  refine D.f_row_text.ok sc_row_text (fun vs H Q E h => ?_) (fun cdv A outer s H vs Q E hr h => ?_)
  · obtain ⟨_, _, rfl, _⟩ := h
    rfl
  · refine ⟨_, PSs.nox (pss_one (ps_ret (pe_join pe_str (pe_lc (own := [("place", 2)]) (by rfl) sc_row_text.nd (pi_range1 (by rfl) D.z_range (pa_cons (pv 1) pa_nil)) (blkOk_by (own := [("place", 2)]) (N := ["bits", "size", "place"]) (sc := defScope s_row_text) (by decide +kernel)) (fun _ _ _ _ _ => (pg_name (i := 2) sc_row_text.nd rfl (.inl rfl))) (fun _ _ _ _ _ => pts_nil) (fun _ _ _ _ _ => (pe_ifExp (pt_cmpR op_eq (pe_op oa (pe_op osr (pv 0) (pv 2)) pe_int) pe_int (nomark _)) (pe_gs rfl D.i_ON) (pe_gs rfl D.i_OFF))))))), ?_⟩
    obtain ⟨b, n, rfl, h24, k⟩ := h
    refine ⟨⟨_, rfl⟩, _, rfl, (n : Int), rfl, by omega, by omega, fun D1 hD1 => ?_⟩
    rw [Int.toNat_natCast]
    refine lc_it walk_range (fun i H' => H' = upd H D1 (.lst ((((List.range i).map fun p => if b.testBit p = true then 49 else 48).map fun c => (⟨#[c]⟩ : Str)).map V.str))) rfl (fun _ _ _ _ => trivial) ?_ ?_
    · rintro i x H2 H3 hi rfl ⟨rfl, rfl⟩
      have ei : (0 : Int) + (i : Int) = (i : Int) := Int.zero_add _
      refine ⟨rfl, _, rfl, _, rfl, b, i, rfl, by show V.int (0 + (i : Int)) = vn i; rw [ei], trivial, _, 1, rfl, rfl, rfl, _, rfl, ?_⟩
      have fin : ∀ s : Str, s = ⟨#[if b.testBit i = true then 49 else 48]⟩ → ∃ acc, (upd H D1 (.lst ((((List.range i).map fun p => if b.testBit p = true then 49 else 48).map fun c => (⟨#[c]⟩ : Str)).map V.str))) D1 = some (.lst acc) ∧ acc.length < sizeLine ∧
          upd (upd H D1 (.lst ((((List.range i).map fun p => if b.testBit p = true then 49 else 48).map fun c => (⟨#[c]⟩ : Str)).map V.str))) D1 (.lst (acc ++ [V.str s])) = upd H D1 (.lst ((((List.range (i + 1)).map fun p => if b.testBit p = true then 49 else 48).map fun c => (⟨#[c]⟩ : Str)).map V.str)) := fun s hs => by
        refine ⟨_, upd_same, szl ?_, ?_⟩
        · rw [List.length_map, List.length_map, List.length_map, List.length_range]; omega
        · rw [upd_upd, List.range_succ, List.map_append, List.map_append, List.map_append, hs]; rfl
      refine itE (m := 1) (fun h1 => ?_) (fun h1 => ?_)
      · exact fin "1" (by rw [sign_str, if_pos ((tb_and _ _).mp h1)])
      · exact fin "0" (by rw [sign_str, if_neg fun q => h1 ((tb_and _ _).mpr q)])
    · rintro H2 rfl
      refine ⟨"", D1, _, rfl, rfl, .inl (SqL.of upd_same), ?_, ?_⟩
      · rw [join_lens, List.length_map, List.length_map, List.length_range]
        have : ("" : Str).length = 0 := by decide +kernel
        rw [this]; omega
      · rw [join_codes]
        exact k _ (same_new hD1)
def q_after (K : PySem.W.Frag) : Sp := fun vs H Q _ => ∃ (ring : Bool) (a : Addr) (ru : List Int) (n b t : Nat), vs = [.str (kd ring), .ref a, .str (txt b n), vn t] ∧ H a = some (.tup (ru.map V.int)) ∧ RuleOk ring ru ∧ 0 < n ∧ n ≤ 14 ∧ b < 2 ^ n ∧ t ≤ 10 ^ 30 ∧
  ∀ H', Same H H' → Q (.str (txt (byOff ring (wof ring ru n t) n b) n)) H'
theorem ok_after (D : Ok K mg) : FnOk P w K mg base CX0 8 (He.ga K "after") (fdA K (He.ga K "after")) ["kind", "rule", "row", "beats"] (q_after K) := by
  refine D.f_after.ok sc_after (fun vs H Q E h => ?_) (fun cdv A outer s H vs Q E hr h => ?_)
  · obtain ⟨_, _, _, _, _, _, rfl, _⟩ := h
    rfl
  · refine ⟨_, PSs.nox (pss_cons (ps_expr (pe_call (ok_check_world D) (hr.mono (by decide)) rfl D.m_check_world D.f_check_world.kp D.b_check_world .nil pass0 (pa_cons (pv 0) (pa_cons (pv 1) pa_nil))))
  (pss_cons (ps_expr (pe_call (ok_check_row D) (hr.mono (by decide)) rfl D.m_check_row D.f_check_row.kp D.b_check_row .nil pass0 (pa_cons (pv 2) pa_nil)))
  (pss_cons (ps_expr (pe_call (ok_check_beats D) (hr.mono (by decide)) rfl D.m_check_beats D.f_check_beats.kp D.b_check_beats .nil pass0 (pa_cons (pv 3) (pa_cons pe_int (pa_cons (pe_gi rfl D.i_MOST_BEATS) pa_nil)))))
  (pss_one (ps_ret (pe_call (ok_row_text D) (hr.mono (by decide)) rfl D.m_row_text D.f_row_text.kp D.b_row_text .nil pass0 (pa_cons (pe_call (ok_after_bits D) (hr.mono (by decide)) rfl D.m_after_bits D.f_after_bits.kp D.b_after_bits .nil pass0 (pa_cons (pv 0) (pa_cons (pv 1) (pa_cons (pe_callB call_len_str (by rfl) D.z_len (by decide +kernel) (pa_cons (pv 2) pa_nil)) (pa_cons (pe_call (ok_row_bits D) (hr.mono (by decide)) rfl D.m_row_bits D.f_row_bits.kp D.b_row_bits .nil pass0 (pa_cons (pv 2) pa_nil)) (pa_cons (pv 3) pa_nil)))))) (pa_cons (pe_callB call_len_str (by rfl) D.z_len (by decide +kernel) (pa_cons (pv 2) pa_nil)) pa_nil)))))))), ?_⟩
    obtain ⟨ring, a, ru, n, b, t, rfl, ha, R, h0, h14, hb, ht, k⟩ := h
    refine ⟨_, rfl, _, rfl, ring, a, ru, rfl, ha, R, fun H1 s1 => ?_⟩
    refine ⟨_, rfl, b, n, rfl, h0, by omega, fun H2 s2 => ?_⟩
    refine ⟨_, rfl, _, _, _, rfl, by omega, by omega, ?_⟩
    have ln : ((txt b n).length : Int) = (n : Int) := by rw [txt_len]
    refine ⟨_, rfl, _, rfl, _, rfl, _, rfl, sz (by rw [txt_len]; omega), _, rfl, b, n, rfl, by omega, hb, fun H3 s3 => ?_⟩
    refine ⟨_, rfl, ring, a, ru, n, b, t, by rw [ln]; rfl, s3 _ _ (s2 _ _ (s1 _ _ ha)), R.len, h0, h14, hb, fun H4 s4 => ?_⟩
    refine ⟨_, rfl, _, rfl, sz (by rw [txt_len]; omega), _, n, by rw [ln]; rfl, by omega, fun H5 s5 => ?_⟩
    exact k _ ((((s1.trans s2).trans s3).trans s4).trans s5)
def q_is_row_of (K : PySem.W.Frag) : Sp := fun vs H Q _ => ∃ b n : Nat, vs = [.str (txt b n), vn n] ∧ 0 < n ∧ n ≤ 24 ∧ ∀ H', Same H H' → Q (.bl true) H'
theorem ok_is_row_of (D : Ok K mg) : FnOk P w K mg base CX0 2 (He.ga K "is_row_of") (fdA K (He.ga K "is_row_of")) ["value", "size"] (q_is_row_of K) := by
  refine D.f_is_row_of.ok sc_is_row_of (fun vs H Q E h => ?_) (fun cdv A outer s H vs Q E hr h => ?_)
  · obtain ⟨_, _, rfl, _⟩ := h
    rfl
  · refine ⟨_, PSs.nox (pss_one (ps_ret (pe_and (pe_call (ok_is_row D) (hr.mono (by decide)) rfl D.m_is_row D.f_is_row.kp D.b_is_row .nil pass0 (pa_cons (pv 0) pa_nil)) (pe_one (pe_cmpR op_eq (pe_callB call_len_str (by rfl) D.z_len (by decide +kernel) (pa_cons (pv 0) pa_nil)) (pv 1) (nomark _)))))), ?_⟩
    obtain ⟨b, n, rfl, h0, h24, k⟩ := h
    refine ⟨_, rfl, b, n, rfl, h0, h24, fun H1 s1 => ⟨_, rfl, iteT ?_⟩⟩
    refine ⟨_, rfl, _, rfl, sz (by rw [txt_len]; omega), _, rfl, rfl, ?_⟩
    rw [txt_len, decide_eq_true rfl]
    exact k _ s1
def q_do_meet_evenly (K : PySem.W.Frag) : Sp := fun vs H Q _ => ∃ (m : Nat) (a : Addr) (cl : List Nat), vs = [vn m, .ref a] ∧ SqL K H a (vns cl) ∧ cl.length ≤ 100 ∧ (∀ c ∈ cl, par (m &&& c) = 0) ∧ ∀ H', Same H H' → Q (.bl true) H'
theorem ok_do_meet_evenly (D : Ok K mg) : FnOk P w K mg base CX0 2 (He.ga K "do_meet_evenly") (fdA K (He.ga K "do_meet_evenly")) ["bits", "columns"] (q_do_meet_evenly K) := by
  refine D.f_do_meet_evenly.ok sc_do_meet_evenly (fun vs H Q E h => ?_) (fun cdv A outer s H vs Q E hr h => ?_)
  · obtain ⟨_, _, _, rfl, _⟩ := h
    rfl
  · refine ⟨_, PSs.nox (pss_one (ps_ret (pe_not (pe_callB (cr_any rfl) (by rfl) D.z_any (by decide +kernel) (pa_cons (pe_lc (own := [("column", 2)]) (by rfl) sc_do_meet_evenly.nd (pi_list (pv 1)) (blkOk_by (own := [("column", 2)]) (N := ["bits", "columns", "column"]) (sc := defScope s_do_meet_evenly) (by decide +kernel)) (fun _ _ _ _ _ => (pg_name (i := 2) sc_do_meet_evenly.nd rfl (.inl rfl))) (fun _ _ _ _ _ => pts_nil) (fun _ _ _ _ _ => (pe_call (ok_is_odd D) (hr.mono (by decide)) rfl D.m_is_odd D.f_is_odd.kp D.b_is_odd .nil pass0 (pa_cons (pe_op oa (pv 0) (pv 2)) pa_nil)))) pa_nil))))), ?_⟩
    obtain ⟨m, a, cl, rfl, hS, hl, he, k⟩ := h
    refine ⟨_, rfl, a, rfl, ⟨_, hS⟩, fun D1 hD1 => lc_it (walk_list (xs := vns cl)) (fun i H' => H' = upd H D1 (.lst ((List.replicate i false).map V.bl))) rfl (fun i H' _ h => by rw [h]; exact slist (same_new hD1) hS) ?_ ?_⟩
    · rintro i x H2 H3 hi rfl ⟨rfl, ex⟩
      obtain ⟨c, ec, rfl⟩ := vns_at ex
      rw [vns_len] at hi
      have hc := he c (List.mem_of_getElem? ec)
      refine ⟨rfl, _, rfl, _, rfl, _, _, rfl, rfl, _, rfl, _, upd_same, szl ?_, ?_⟩
      · rw [List.length_map, List.length_replicate]; omega
      · rw [upd_upd, hc, List.replicate_succ', List.map_append]; rfl
    · rintro H2 rfl
      refine ⟨D1, _, rfl, SqL.of upd_same, _, rfl, ?_⟩
      have z : ∀ n : Nat, (List.replicate n false).any id = false := fun n => by
        rw [List.any_eq_false]
        intro x hx
        rw [(List.mem_replicate.mp hx).2]; decide
      rw [z]
      exact k _ (same_new hD1)
/-- what told_ahead says -/
def toldM (cl : List Nat) (b n : Nat) : List V := match (Spn.of cl).num b with
  | some s => [.str "row", .str (txt s n)]
  | none => [.str "garden", .str (txt (barFor (Spn.of cl).leads b) n)]
theorem vo_non (o : Option Nat) : decide (vo o = V.non) = o.isNone := by
  cases o with
  | none => rfl
  | some n => rfl
/-- what bar_for asks for -/
theorem bar_pre {n : Nat} {cl : List Nat} (h24 : n ≤ 24) (hc : ∀ r ∈ cl, r < 2 ^ n) {b : Nat} (hb : b < 2 ^ n) (hn : (Spn.of cl).num b = none) :
    ((Spn.of cl).leads.map (·.1)).Nodup ∧ (Spn.of cl).leads.length ≤ 1000 ∧ (∀ k ∈ keysL (Spn.of cl).leads, k ≤ 1000) ∧ barRest (plainM (Spn.of cl).leads) b ≠ 0 ∧ blen (barRest (plainM (Spn.of cl).leads) b) ≤ 1000 := by
  have I := span_pre hc
  obtain ⟨b1, b2, _⟩ := I.bar (fun p _ => combR_lt hc p) hb hn
  have := I.le
  exact ⟨I.nd, by omega, fun k hk => by have := (I.keys.1 k hk).2; omega, b1, by omega⟩
theorem l64 {n : Nat} (h24 : n ≤ 24) {cl : List Nat} (hc : ∀ r ∈ cl, r < 2 ^ n) : ∀ r ∈ cl, r < 2 ^ 64 := fun r hr => Nat.lt_of_lt_of_le (hc r hr) (pow_mono (by omega))
def q_told_ahead (K : PySem.W.Frag) : Sp := fun vs H Q _ => ∃ (a : Addr) (cl : List Nat) (b n : Nat), vs = [.ref a, .str (txt b n)] ∧ SqL K H a (vns cl) ∧ cl.length = n ∧ n ≤ 24 ∧ (∀ r ∈ cl, r < 2 ^ n) ∧ b < 2 ^ n ∧
  ∀ p H', Same H H' → H p = none → H' p = some (.tup (toldM cl b n)) → Q (.ref p) H'
theorem ok_told_ahead (D : Ok K mg) : FnOk P w K mg base CX0 6 (He.ga K "told_ahead") (fdA K (He.ga K "told_ahead")) ["columns", "row"] (q_told_ahead K) := by
  refine D.f_told_ahead.ok sc_told_ahead (fun vs H Q E h => ?_) (fun cdv A outer s H vs Q E hr h => ?_)
  · obtain ⟨_, _, _, _, rfl, _⟩ := h
    rfl
  · refine ⟨_, PSs.nox (pss_cons (ps_par (i := 2) (j := 3) (by rfl) sc_told_ahead.nd rfl rfl (by decide) rfl rfl (pa_cons (pe_make D.mkr (ok_sp_init D) (hr.mono (by decide)) rfl D.m_Span D.b_sp_init .nil pass0 (pa_cons (pv 0) pa_nil)) (pa_cons (pe_callB call_len_str (by rfl) D.z_len (by decide +kernel) (pa_cons (pv 1) pa_nil)) pa_nil)) (by rfl))
  (pss_cons (ps_set (i := 4) sc_told_ahead.nd rfl (.inl rfl) (pe_meth (pv 2) D.cl D.t_sp_numbers_for (ok_sp_numbers_for D) (hr.mono (by decide)) D.b_sp_numbers_for .nil pass0 (pa_cons (pe_call (ok_row_bits D) (hr.mono (by decide)) rfl D.m_row_bits D.f_row_bits.kp D.b_row_bits .nil pass0 (pa_cons (pv 1) pa_nil)) pa_nil)))
  (pss_cons (ps_if (pt_cmpR op_isN (pv 4) pe_non (nomark _)) (pss_one (ps_ret (pe_tup (pa_cons (pe_gs rfl D.i_GARDEN) (pa_cons (pe_call (ok_row_text D) (hr.mono (by decide)) rfl D.m_row_text D.f_row_text.kp D.b_row_text .nil pass0 (pa_cons (pe_meth (pv 2) D.cl D.t_sp_bar_for (ok_sp_bar_for D) (hr.mono (by decide)) D.b_sp_bar_for .nil pass0 (pa_cons (pe_call (ok_row_bits D) (hr.mono (by decide)) rfl D.m_row_bits D.f_row_bits.kp D.b_row_bits .nil pass0 (pa_cons (pv 1) pa_nil)) pa_nil)) (pa_cons (pv 3) pa_nil))) pa_nil))))) pss_nil)
  (pss_one (ps_ret (pe_tup (pa_cons (pe_gs rfl D.i_ROW) (pa_cons (pe_call (ok_row_text D) (hr.mono (by decide)) rfl D.m_row_text D.f_row_text.kp D.b_row_text .nil pass0 (pa_cons (pv 4) (pa_cons (pv 3) pa_nil))) pa_nil)))))))), ?_⟩
    obtain ⟨a, cl, b, n, rfl, hS, hl, h24, hc, hb, k⟩ := h
    refine ⟨_, rfl, fun p dx0 hp hdx hne => ?_⟩
    have sp : Same H (upd (upd H dx0 (.own p)) p (.ins (cSpan K) dx0 [])) := smut (same_new hdx) hp
    refine ⟨H, p, dx0, a, cl, rfl, sp, hp, upd_same, slist sp hS, by omega, l64 h24 hc, fun H1 A => ⟨rfl, ?_⟩⟩
    have ln : ((txt b n).length : Int) = (n : Int) := by rw [txt_len]
    refine ⟨_, rfl, _, rfl, sz (by rw [txt_len]; omega), _, _, rfl, ?_⟩
    obtain ⟨s1, p0, dx, d, l, kvs, hI, _, _⟩ := A
    refine ⟨_, rfl, p, dx, _, rfl, hI.1, spf_no _ _ (by decide +kernel) (by decide +kernel), _, rfl, b, n, rfl, h24, hb, fun H2 s2 => ?_⟩
    refine ⟨p, b, _, dx, d, l, kvs, rfl, hI.mono s2, fun H3 s3 => ?_⟩
    have hI3 := hI.mono (s2.trans s3)
    refine ⟨_, rfl, rfl, _, rfl, ?_⟩
    rw [vo_non, ln]
    unfold toldM at k
    cases hn : (Spn.of cl).num b with
    | none =>
      rw [hn] at k
      obtain ⟨b1, b2, b3, b4, b5⟩ := bar_pre h24 hc hb hn
      refine iteT ⟨_, rfl, p, dx, _, rfl, hI3.1, spf_no _ _ (by decide +kernel) (by decide +kernel), _, rfl, b, n, rfl, h24, hb, fun H4 s4 => ?_⟩
      refine ⟨p, b, _, dx, d, l, kvs, rfl, hI3.mono s4, b1, b2, b3, b4, b5, fun H5 s5 => ?_⟩
      refine ⟨_, rfl, _, n, rfl, h24, fun H6 s6 => ?_⟩
      have sa := ((((s1.trans s2).trans s3).trans s4).trans s5).trans s6
      refine ⟨sz (by show 2 ≤ 100000; decide), fun t ht => ?_⟩
      exact k t _ (snew sa ht) (sa.free ht) upd_same
    | some v =>
      rw [hn] at k
      refine iteF ⟨_, rfl, _, rfl, v, n, rfl, h24, fun H4 s4 => ?_⟩
      have sa := ((s1.trans s2).trans s3).trans s4
      refine ⟨sz (by show 2 ≤ 100000; decide), fun t ht => ?_⟩
      exact k t _ (snew sa ht) (sa.free ht) upd_same
theorem Ok.b_is_tuple (D : Ok K mg) : Binds K (fdA K (He.ga K "is_tuple")) ["value", "low", "high"] [] := by
  obtain ⟨ds, h1, h2⟩ := D.f_is_tuple.binds1 (ps := ["value", "low", "high"]) 3 1 (by decide) rfl fun T kV doc pm an cdv ct us its hu hi => by
    match us, hu, its, hi with
    | [_, _, _], _, [_], _ => exact ⟨_, rfl, rfl⟩
  cases h1
  exact h2
def q_shows_told (K : PySem.W.Frag) : Sp := fun vs H Q _ => ∃ (a v : Addr) (cl : List Nat) (b m n : Nat), vs = [.ref a, .str (txt b n), .ref v] ∧ SqL K H a (vns cl) ∧ cl.length ≤ 100 ∧ 0 < n ∧ n ≤ 24 ∧ b < 2 ^ n ∧ m < 2 ^ n ∧
  H v = some (.tup [.str "garden", .str (txt m n)]) ∧ (∀ c ∈ cl, par (m &&& c) = 0) ∧ par (m &&& b) = 1 ∧ ∀ H', Same H H' → Q (.bl true) H'
theorem ok_shows_told (D : Ok K mg) : FnOk P w K mg base CX0 3 (He.ga K "shows_told") (fdA K (He.ga K "shows_told")) ["columns", "row", "value"] (q_shows_told K) := by
  refine D.f_shows_told.ok sc_shows_told (fun vs H Q E h => ?_) (fun cdv A outer s H vs Q E hr h => ?_)
  · obtain ⟨_, _, _, _, _, _, rfl, _⟩ := h
    rfl
  · refine ⟨_, PSs.nox (pss_cons (ps_if (PW.pt (pw_or (pt_not (pt_val (pe_call (ok_is_tuple D) (hr.mono (by decide)) rfl D.m_is_tuple D.f_is_tuple.kp D.b_is_tuple .nil pass0 (pa_cons (pv 2) (pa_cons (pe_gi rfl D.i_PAIR) (pa_cons (pe_gi rfl D.i_PAIR) pa_nil)))))) (pw_or (pt_not (pt_val (pe_call (ok_is_word D) (hr.mono (by decide)) rfl D.m_is_word D.f_is_word.kp D.b_is_word .nil pass0 (pa_cons (pe_ix ix_tup (pv 2) pe_int (fun _ _ => rfl)) (pa_cons (pe_tup (pa_cons (pe_gs rfl D.i_ROW) (pa_cons (pe_gs rfl D.i_GARDEN) pa_nil))) pa_nil))))) (pw_or1 (pt_not (pt_val (pe_call (ok_is_row_of D) (hr.mono (by decide)) rfl D.m_is_row_of D.f_is_row_of.kp D.b_is_row_of .nil pass0 (pa_cons (pe_ix ix_tup (pv 2) pe_int (fun _ _ => rfl)) (pa_cons (pe_callB call_len_str (by rfl) D.z_len (by decide +kernel) (pa_cons (pv 1) pa_nil)) pa_nil))))))))) (pss_one (ps_ret pe_bl)) pss_nil)
  (pss_cons (ps_set (i := 3) sc_shows_told.nd rfl (.inl rfl) (pe_call (ok_row_bits D) (hr.mono (by decide)) rfl D.m_row_bits D.f_row_bits.kp D.b_row_bits .nil pass0 (pa_cons (pe_ix ix_tup (pv 2) pe_int (fun _ _ => rfl)) pa_nil)))
  (pss_cons (ps_if (pt_cmpR op_eq (pe_ix ix_tup (pv 2) pe_int (fun _ _ => rfl)) (pe_gs rfl D.i_ROW) (nomark _)) (pss_one ps_never) pss_nil)
  (pss_one (ps_ret (pe_and (pe_call (ok_do_meet_evenly D) (hr.mono (by decide)) rfl D.m_do_meet_evenly D.f_do_meet_evenly.kp D.b_do_meet_evenly .nil pass0 (pa_cons (pv 3) (pa_cons (pv 0) pa_nil))) (pe_one (pe_call (ok_is_odd D) (hr.mono (by decide)) rfl D.m_is_odd D.f_is_odd.kp D.b_is_odd .nil pass0 (pa_cons (pe_op oa (pv 3) (pe_call (ok_row_bits D) (hr.mono (by decide)) rfl D.m_row_bits D.f_row_bits.kp D.b_row_bits .nil pass0 (pa_cons (pv 1) pa_nil))) pa_nil))))))))), ?_⟩
    obtain ⟨a, v, cl, b, m, n, rfl, hS, hl, h0, h24, hb, hm, hv, he, ho, k⟩ := h
    have ln : ((txt b n).length : Int) = (n : Int) := by rw [txt_len]
    refine ⟨_, rfl, v, _, 2, 2, rfl, hv, by show (2 : Int) ≤ 2; decide, by show (2 : Int) ≤ 2; decide, _, rfl, iteF ?_⟩
    refine ⟨_, rfl, v, _, 0, _, rfl, rfl, SqT.of hv, rfl, sz (by show 2 ≤ 100000; decide), fun t ht => ?_⟩
    have s1 : Same H (upd H t (.tup [.str "row", .str "garden"])) := same_new ht
    refine ⟨"garden", t, ["row", "garden"], rfl, SqT.of upd_same, List.mem_cons_of_mem _ (List.mem_cons_self ..), _, rfl, iteF ?_⟩
    refine ⟨_, rfl, v, _, 1, _, rfl, rfl, SqT.of (s1 _ _ hv), rfl, _, rfl, _, rfl, sz (by rw [txt_len]; omega), m, n, by rw [ln]; rfl, h0, h24, fun H2 s2 => ⟨_, rfl, iteF ?_⟩⟩
    have s12 := s1.trans s2
    refine ⟨_, rfl, v, _, 1, _, rfl, rfl, SqT.of (s12 _ _ hv), rfl, m, n, rfl, h24, hm, fun H3 s3 => ?_⟩
    have s13 := s12.trans s3
    refine ⟨_, rfl, v, _, 0, _, rfl, rfl, SqT.of (s13 _ _ hv), rfl, rfl, _, rfl, ?_⟩
    have g : decide (V.str "garden" = V.str "row") = false := by decide +kernel
    rw [g]
    refine iteF ⟨_, rfl, _, rfl, m, a, cl, rfl, slist s13 hS, hl, he, fun H4 s4 => ⟨_, rfl, iteT ?_⟩⟩
    refine ⟨_, rfl, _, rfl, b, n, rfl, h24, hb, fun H5 s5 => ?_⟩
    refine ⟨_, _, rfl, rfl, _, rfl, ?_⟩
    rw [ho, decide_eq_true rfl]
    exact k _ ((s13.trans s4).trans s5)
def q_ahead (K : PySem.W.Frag) : Sp := fun vs H Q _ => ∃ (ring : Bool) (a : Addr) (ru : List Int) (n b : Nat), vs = [.str (kd ring), .ref a, .str (txt b n)] ∧ H a = some (.tup (ru.map V.int)) ∧ RuleOk ring ru ∧ 0 < n ∧ n ≤ 14 ∧ b < 2 ^ n ∧
  ∀ p H', Same H H' → H p = none → H' p = some (.tup (toldM (cols ring (onceM ru (wd ring n)) n 1) b n)) → Q (.ref p) H'
theorem ok_ahead (D : Ok K mg) : FnOk P w K mg base CX0 8 (He.ga K "ahead") (fdA K (He.ga K "ahead")) ["kind", "rule", "row"] (q_ahead K) := by
  refine D.f_ahead.ok sc_ahead (fun vs H Q E h => ?_) (fun cdv A outer s H vs Q E hr h => ?_)
  · obtain ⟨_, _, _, _, _, rfl, _⟩ := h
    rfl
  · refine ⟨_, PSs.nox (pss_cons (ps_expr (pe_call (ok_check_world D) (hr.mono (by decide)) rfl D.m_check_world D.f_check_world.kp D.b_check_world .nil pass0 (pa_cons (pv 0) (pa_cons (pv 1) pa_nil))))
  (pss_cons (ps_expr (pe_call (ok_check_row D) (hr.mono (by decide)) rfl D.m_check_row D.f_check_row.kp D.b_check_row .nil pass0 (pa_cons (pv 2) pa_nil)))
  (pss_one (ps_ret (pe_call (ok_told_ahead D) (hr.mono (by decide)) rfl D.m_told_ahead D.f_told_ahead.kp D.b_told_ahead .nil pass0 (pa_cons (pe_call (ok_beat_power D) (hr.mono (by decide)) rfl D.m_beat_power D.f_beat_power.kp D.b_beat_power .nil pass0 (pa_cons (pv 0) (pa_cons (pv 1) (pa_cons (pe_callB call_len_str (by rfl) D.z_len (by decide +kernel) (pa_cons (pv 2) pa_nil)) (pa_cons pe_int pa_nil))))) (pa_cons (pv 2) pa_nil))))))), ?_⟩
    obtain ⟨ring, a, ru, n, b, rfl, ha, R, h0, h14, hb, k⟩ := h
    have ln : ((txt b n).length : Int) = (n : Int) := by rw [txt_len]
    refine ⟨_, rfl, _, rfl, ring, a, ru, rfl, ha, R, fun H1 s1 => ?_⟩
    refine ⟨_, rfl, b, n, rfl, h0, by omega, fun H2 s2 => ?_⟩
    have s12 := s1.trans s2
    refine ⟨_, rfl, _, rfl, _, rfl, _, rfl, sz (by rw [txt_len]; omega), ring, a, ru, n, 1, by rw [ln]; rfl, s12 _ _ ha, R.len, h0, h14, fun p H3 s3 hp hP => ?_⟩
    refine ⟨_, rfl, p, _, b, n, rfl, SqL.of hP, cols_len .., by omega, cols_lt _ _ _ _, hb, fun q H4 s4 hq hQ => ?_⟩
    exact k q _ ((s12.trans s3).trans s4) ((s12.trans s3).free hq) hQ
def q_lost_of (K : PySem.W.Frag) : Sp := fun vs H Q _ => ∃ (a : Addr) (cl : List Nat) (n : Nat), vs = [.ref a] ∧ SqL K H a (vns cl) ∧ cl.length = n ∧ n ≤ 24 ∧ (∀ r ∈ cl, r < 2 ^ n) ∧ ∀ H', Same H H' → Q (vn (n - (Spn.of cl).leads.length)) H'
theorem ok_lost_of (D : Ok K mg) : FnOk P w K mg base CX0 6 (He.ga K "lost_of") (fdA K (He.ga K "lost_of")) ["columns"] (q_lost_of K) := by
  refine D.f_lost_of.ok sc_lost_of (fun vs H Q E h => ?_) (fun cdv A outer s H vs Q E hr h => ?_)
  · obtain ⟨_, _, _, rfl, _⟩ := h
    rfl
  · refine ⟨_, PSs.nox (pss_one (ps_ret (pe_op osb (pe_callB call_len_seq (by rfl) D.z_len (by decide +kernel) (pa_cons (pv 0) pa_nil)) (pe_meth0 (pe_make D.mkr (ok_sp_init D) (hr.mono (by decide)) rfl D.m_Span D.b_sp_init .nil pass0 (pa_cons (pv 0) pa_nil)) D.cl D.t_sp_amount (ok_sp_amount D) (hr.mono (by decide)) D.b_sp_amount .nil pass0)))), ?_⟩
    obtain ⟨a, cl, n, rfl, hS, hl, h24, hc, k⟩ := h
    refine ⟨_, rfl, a, _, rfl, .inl hS, _, rfl, fun p dx0 hp hdx hne => ?_⟩
    have sp : Same H (upd (upd H dx0 (.own p)) p (.ins (cSpan K) dx0 [])) := smut (same_new hdx) hp
    refine ⟨H, p, dx0, a, cl, rfl, sp, hp, upd_same, slist sp hS, by omega, l64 h24 hc, fun H1 A => ⟨rfl, ?_⟩⟩
    obtain ⟨s1, p0, dx, d, l, kvs, hI, _, _⟩ := A
    have le := (span_pre hc).le
    refine ⟨p, dx, _, rfl, hI.1, spf_no _ _ (by decide +kernel) (by decide +kernel), p, _, dx, d, l, kvs, rfl, hI, ?_⟩
    refine ⟨n, _, by rw [vns_len, hl], rfl, le, k _ s1⟩
def q_lost (K : PySem.W.Frag) : Sp := fun vs H Q _ => ∃ (ring : Bool) (a : Addr) (ru : List Int) (n : Nat), vs = [.str (kd ring), .ref a, vn n] ∧ H a = some (.tup (ru.map V.int)) ∧ RuleOk ring ru ∧ 0 < n ∧ n ≤ 14 ∧
  ∀ H', Same H H' → Q (vn (n - (Spn.of (cols ring (onceM ru (wd ring n)) n 1)).leads.length)) H'
theorem ok_lost (D : Ok K mg) : FnOk P w K mg base CX0 8 (He.ga K "lost") (fdA K (He.ga K "lost")) ["kind", "rule", "size"] (q_lost K) := by
  refine D.f_lost.ok sc_lost (fun vs H Q E h => ?_) (fun cdv A outer s H vs Q E hr h => ?_)
  · obtain ⟨_, _, _, _, rfl, _⟩ := h
    rfl
  · refine ⟨_, PSs.nox (pss_cons (ps_expr (pe_call (ok_check_world D) (hr.mono (by decide)) rfl D.m_check_world D.f_check_world.kp D.b_check_world .nil pass0 (pa_cons (pv 0) (pa_cons (pv 1) pa_nil))))
  (pss_cons (ps_expr (pe_call (ok_check_size D) (hr.mono (by decide)) rfl D.m_check_size D.f_check_size.kp D.b_check_size .nil pass0 (pa_cons (pv 2) (pa_cons (pe_gi rfl D.i_MOST_SIZE) pa_nil))))
  (pss_one (ps_ret (pe_call (ok_lost_of D) (hr.mono (by decide)) rfl D.m_lost_of D.f_lost_of.kp D.b_lost_of .nil pass0 (pa_cons (pe_call (ok_beat_power D) (hr.mono (by decide)) rfl D.m_beat_power D.f_beat_power.kp D.b_beat_power .nil pass0 (pa_cons (pv 0) (pa_cons (pv 1) (pa_cons (pv 2) (pa_cons pe_int pa_nil))))) pa_nil)))))), ?_⟩
    obtain ⟨ring, a, ru, n, rfl, ha, R, h0, h14, k⟩ := h
    refine ⟨_, rfl, _, rfl, ring, a, ru, rfl, ha, R, fun H1 s1 => ?_⟩
    refine ⟨_, rfl, _, _, rfl, by omega, by omega, ?_⟩
    refine ⟨_, rfl, _, rfl, _, rfl, ring, a, ru, n, 1, rfl, s1 _ _ ha, R.len, h0, h14, fun p H3 s3 hp hP => ?_⟩
    exact ⟨p, _, n, rfl, SqL.of hP, cols_len .., by omega, cols_lt _ _ _ _, fun H4 s4 => k _ ((s1.trans s3).trans s4)⟩
/-- what depth says -/
def depT (ring : Bool) (o n b : Nat) : List V := match depM ring o n b with
  | some t => [.str "beats", vn t, .str (txt (barFor (Spn.of (cols ring o n (t + 1))).leads b) n)]
  | none => [.str "always"]
def q_depth (K : PySem.W.Frag) : Sp := fun vs H Q _ => ∃ (ring : Bool) (a : Addr) (ru : List Int) (n b : Nat), vs = [.str (kd ring), .ref a, .str (txt b n)] ∧ H a = some (.tup (ru.map V.int)) ∧ RuleOk ring ru ∧ 0 < n ∧ n ≤ 14 ∧ b < 2 ^ n ∧
  ∀ p H', Same H H' → H p = none → H' p = some (.tup (depT ring (onceM ru (wd ring n)) n b)) → Q (.ref p) H'
theorem ok_depth (D : Ok K mg) : FnOk P w K mg base CX0 8 (He.ga K "depth") (fdA K (He.ga K "depth")) ["kind", "rule", "row"] (q_depth K) := by
  refine D.f_depth.ok sc_depth (fun vs H Q E h => ?_) (fun cdv A outer s H vs Q E hr h => ?_)
  · obtain ⟨_, _, _, _, _, rfl, _⟩ := h
    rfl
  · refine ⟨_, PSs.nox (pss_cons (ps_expr (pe_call (ok_check_world D) (hr.mono (by decide)) rfl D.m_check_world D.f_check_world.kp D.b_check_world .nil pass0 (pa_cons (pv 0) (pa_cons (pv 1) pa_nil))))
  (pss_cons (ps_expr (pe_call (ok_check_row D) (hr.mono (by decide)) rfl D.m_check_row D.f_check_row.kp D.b_check_row .nil pass0 (pa_cons (pv 2) pa_nil)))
  (pss_cons (ps_set (i := 3) sc_depth.nd rfl (.inl rfl) (pe_callB call_len_str (by rfl) D.z_len (by decide +kernel) (pa_cons (pv 2) pa_nil)))
  (pss_cons (ps_for PassesOwn.never rfl (pi_range2 (by rfl) D.z_range (pa_cons pe_int (pa_cons (pe_op oad (pv 3) pe_int) pa_nil))) (pg_name (i := 4) sc_depth.nd rfl (.inl rfl))
    (pss_cons (ps_set (i := 5) sc_depth.nd rfl (.inl rfl) (pe_make D.mkr (ok_sp_init D) (hr.mono (by decide)) rfl D.m_Span D.b_sp_init .nil pass0 (pa_cons (pe_call (ok_beat_power D) (hr.mono (by decide)) rfl D.m_beat_power D.f_beat_power.kp D.b_beat_power .nil pass0 (pa_cons (pv 0) (pa_cons (pv 1) (pa_cons (pv 3) (pa_cons (pv 4) pa_nil))))) pa_nil)))
  (pss_one (ps_if (pt_cmpR op_isN (pe_meth (pv 5) D.cl D.t_sp_numbers_for (ok_sp_numbers_for D) (hr.mono (by decide)) D.b_sp_numbers_for .nil pass0 (pa_cons (pe_call (ok_row_bits D) (hr.mono (by decide)) rfl D.m_row_bits D.f_row_bits.kp D.b_row_bits .nil pass0 (pa_cons (pv 2) pa_nil)) pa_nil)) pe_non (nomark _)) (pss_one (ps_ret (pe_tup (pa_cons (pe_gs rfl D.i_BEATS) (pa_cons (pe_op osb (pv 4) pe_int) (pa_cons (pe_call (ok_row_text D) (hr.mono (by decide)) rfl D.m_row_text D.f_row_text.kp D.b_row_text .nil pass0 (pa_cons (pe_meth (pv 5) D.cl D.t_sp_bar_for (ok_sp_bar_for D) (hr.mono (by decide)) D.b_sp_bar_for .nil pass0 (pa_cons (pe_call (ok_row_bits D) (hr.mono (by decide)) rfl D.m_row_bits D.f_row_bits.kp D.b_row_bits .nil pass0 (pa_cons (pv 2) pa_nil)) pa_nil)) (pa_cons (pv 3) pa_nil))) pa_nil)))))) pss_nil))))
  (pss_one (ps_ret (pe_tup (pa_cons (pe_gs rfl D.i_ALWAYS) pa_nil)))))))), ?_⟩
    obtain ⟨ring, a, ru, n, b, rfl, ha, R, h0, h14, hb, k⟩ := h
    have ln : ((txt b n).length : Int) = (n : Int) := by rw [txt_len]
    refine ⟨_, rfl, _, rfl, ring, a, ru, rfl, ha, R, fun H1 s1 => ?_⟩
    refine ⟨_, rfl, b, n, rfl, h0, by omega, fun H2 s2 => ?_⟩
    have s12 := s1.trans s2
    refine ⟨_, rfl, _, rfl, sz (by rw [txt_len]; omega), ?_⟩
    rw [ln]
    refine ⟨_, rfl, n, 1, rfl, rfl, 1, ((n + 1 : Nat) : Int), rfl, ⟨by decide, by decide, by omega, by omega⟩, ?_⟩
    rw [show (((n + 1 : Nat) : Int) - 1).toNat = n by omega]
    unfold depT depM at k
    generalize ho : onceM ru (wd ring n) = o at k
    refine for_it walk_range (fun i σ H' => ∃ y4 y5, σ = [some (.str (kd ring)), some (.ref a), some (.str (txt b n)), some (vn n), y4, y5] ∧ Same H H' ∧ fstF (fun i => ((Spn.of (cols ring o n (i + 1))).num b).isNone) (n - i) i = fstF (fun i => ((Spn.of (cols ring o n (i + 1))).num b).isNone) n 0) ⟨none, none, rfl, s12, rfl⟩ (fun _ _ _ _ _ => trivial) ?_ ?_
    · rintro i x σ H3 H4 hi ⟨y4, y5, rfl, s3, hf⟩ ⟨eH, rfl⟩
      subst eH
      have ei : (1 : Int) + (i : Int) = ((i + 1 : Nat) : Int) := by omega
      obtain ⟨f, ef⟩ : ∃ f, n - i = f + 1 := ⟨n - i - 1, by omega⟩
      rw [ef] at hf
      refine ⟨_, rfl, _, rfl, _, rfl, _, rfl, ring, a, ru, n, i + 1, by show _ = [V.str (kd ring), V.ref a, vn n, V.int ((i + 1 : Nat) : Int)]; rw [← ei]; rfl, s3 _ _ ha, R.len, h0, h14, fun p H5 s5 hp hP => ?_⟩
      rw [ho] at hP
      intro x dx0 hx hdx hne
      have sp : Same H5 (upd (upd H5 dx0 (.own x)) x (.ins (cSpan K) dx0 [])) := smut (same_new hdx) hx
      refine ⟨H5, x, dx0, p, _, rfl, sp, hx, upd_same, slist sp (SqL.of hP), by rw [cols_len]; omega, l64 (n := n) (by omega) (cols_lt _ _ _ _), fun H6 A => ⟨rfl, ?_⟩⟩
      obtain ⟨s6, p0, dx, d, l, kvs, hI, _, _⟩ := A
      refine ⟨_, rfl, x, dx, _, rfl, hI.1, spf_no _ _ (by decide +kernel) (by decide +kernel), _, rfl, b, n, rfl, by omega, hb, fun H7 s7 => ?_⟩
      refine ⟨x, b, _, dx, d, l, kvs, rfl, hI.mono s7, fun H8 s8 => ?_⟩
      have hI8 := hI.mono (s7.trans s8)
      have s38 := ((((s3.trans s5).trans s6).trans s7).trans s8)
      refine ⟨rfl, _, rfl, ?_⟩
      rw [vo_non]
      have hf : (if ((Spn.of (cols ring o n (i + 1))).num b).isNone = true then some i else fstF _ f (i + 1)) = _ := hf
      cases hn : (Spn.of (cols ring o n (i + 1))).num b with
      | none =>
        rw [hn] at hf
        have hf : some i = fstF _ n 0 := hf
        rw [← hf] at k
        obtain ⟨b1, b2, b3, b4, b5⟩ := bar_pre (n := n) (by omega) (cols_lt _ _ _ _) hb hn
        refine iteT ⟨_, rfl, i + 1, 1, by show V.int ((1 : Int) + (i : Int)) = _; rw [ei], rfl, by omega, ?_⟩
        refine ⟨_, rfl, x, dx, _, rfl, hI8.1, spf_no _ _ (by decide +kernel) (by decide +kernel), _, rfl, b, n, rfl, by omega, hb, fun H9 s9 => ?_⟩
        refine ⟨x, b, _, dx, d, l, kvs, rfl, hI8.mono s9, b1, b2, b3, b4, b5, fun H10 s10 => ?_⟩
        refine ⟨_, rfl, _, n, rfl, by omega, fun H11 s11 => ?_⟩
        have sa := ((s38.trans s9).trans s10).trans s11
        refine ⟨sz (by show 3 ≤ 100000; decide), fun t ht => ?_⟩
        exact k t _ (snew sa ht) (sa.free ht) upd_same
      | some v =>
        rw [hn] at hf
        have hf : fstF _ f (i + 1) = fstF _ n 0 := hf
        refine iteF ⟨_, _, rfl, s38, ?_⟩
        rw [show n - (i + 1) = f by omega]
        exact hf
    · rintro σ H3 ⟨y4, y5, rfl, s3, hf⟩
      rw [Nat.sub_self] at hf
      have hf : none = fstF _ n 0 := hf
      rw [← hf] at k
      refine ⟨sz (by show 1 ≤ 100000; decide), fun t ht => ?_⟩
      exact k t _ (snew s3 ht) (s3.free ht) upd_same
def q_before (K : PySem.W.Frag) : Sp := fun vs H Q _ => ∃ (ring : Bool) (a : Addr) (ru : List Int) (n b t : Nat), vs = [.str (kd ring), .ref a, .str (txt b n), vn t] ∧ H a = some (.tup (ru.map V.int)) ∧ RuleOk ring ru ∧ 0 < n ∧ n ≤ 14 ∧ b < 2 ^ n ∧ t ≤ 10 ^ 30 ∧
  ∀ p H', Same H H' → H p = none → H' p = some (.tup (toldM (cols ring (onceM ru (wd ring n)) n t) b n)) → Q (.ref p) H'
theorem ok_before (D : Ok K mg) : FnOk P w K mg base CX0 8 (He.ga K "before") (fdA K (He.ga K "before")) ["kind", "rule", "row", "beats"] (q_before K) := by
  refine D.f_before.ok sc_before (fun vs H Q E h => ?_) (fun cdv A outer s H vs Q E hr h => ?_)
  · obtain ⟨_, _, _, _, _, _, rfl, _⟩ := h
    rfl
  · refine ⟨_, PSs.nox (pss_cons (ps_expr (pe_call (ok_check_world D) (hr.mono (by decide)) rfl D.m_check_world D.f_check_world.kp D.b_check_world .nil pass0 (pa_cons (pv 0) (pa_cons (pv 1) pa_nil))))
  (pss_cons (ps_expr (pe_call (ok_check_row D) (hr.mono (by decide)) rfl D.m_check_row D.f_check_row.kp D.b_check_row .nil pass0 (pa_cons (pv 2) pa_nil)))
  (pss_cons (ps_expr (pe_call (ok_check_beats D) (hr.mono (by decide)) rfl D.m_check_beats D.f_check_beats.kp D.b_check_beats .nil pass0 (pa_cons (pv 3) (pa_cons pe_int (pa_cons (pe_gi rfl D.i_MOST_BEATS) pa_nil)))))
  (pss_one (ps_ret (pe_call (ok_told_ahead D) (hr.mono (by decide)) rfl D.m_told_ahead D.f_told_ahead.kp D.b_told_ahead .nil pass0 (pa_cons (pe_call (ok_beat_power D) (hr.mono (by decide)) rfl D.m_beat_power D.f_beat_power.kp D.b_beat_power .nil pass0 (pa_cons (pv 0) (pa_cons (pv 1) (pa_cons (pe_callB call_len_str (by rfl) D.z_len (by decide +kernel) (pa_cons (pv 2) pa_nil)) (pa_cons (pv 3) pa_nil))))) (pa_cons (pv 2) pa_nil)))))))), ?_⟩
    obtain ⟨ring, a, ru, n, b, t, rfl, ha, R, h0, h14, hb, ht, k⟩ := h
    have ln : ((txt b n).length : Int) = (n : Int) := by rw [txt_len]
    refine ⟨_, rfl, _, rfl, ring, a, ru, rfl, ha, R, fun H1 s1 => ?_⟩
    refine ⟨_, rfl, b, n, rfl, h0, by omega, fun H2 s2 => ?_⟩
    have s12 := s1.trans s2
    refine ⟨_, rfl, _, _, _, rfl, by omega, by omega, ?_⟩
    refine ⟨_, rfl, _, rfl, _, rfl, _, rfl, sz (by rw [txt_len]; omega), _, rfl, ring, a, ru, n, t, by rw [ln]; rfl, s12 _ _ ha, R.len, h0, h14, fun p H3 s3 hp hP => ?_⟩
    refine ⟨_, rfl, p, _, b, n, rfl, SqL.of hP, cols_len .., by omega, cols_lt _ _ _ _, hb, fun q H4 s4 hq hQ => ?_⟩
    exact k q _ ((s12.trans s3).trans s4) ((s12.trans s3).free hq) hQ
def q_shows_before (K : PySem.W.Frag) : Sp := fun vs H Q _ => ∃ (ring : Bool) (a v : Addr) (ru : List Int) (n b m t : Nat), vs = [.str (kd ring), .ref a, .str (txt b n), vn t, .ref v] ∧ H a = some (.tup (ru.map V.int)) ∧ RuleOk ring ru ∧ 0 < n ∧ n ≤ 14 ∧ b < 2 ^ n ∧ m < 2 ^ n ∧ t ≤ 10 ^ 30 ∧
  H v = some (.tup [.str "garden", .str (txt m n)]) ∧ (∀ c ∈ cols ring (onceM ru (wd ring n)) n t, par (m &&& c) = 0) ∧ par (m &&& b) = 1 ∧ ∀ H', Same H H' → Q (.bl true) H'
theorem ok_shows_before (D : Ok K mg) : FnOk P w K mg base CX0 8 (He.ga K "shows_before") (fdA K (He.ga K "shows_before")) ["kind", "rule", "row", "beats", "value"] (q_shows_before K) := by
  refine D.f_shows_before.ok sc_shows_before (fun vs H Q E h => ?_) (fun cdv A outer s H vs Q E hr h => ?_)
  · obtain ⟨_, _, _, _, _, _, _, _, rfl, _⟩ := h
    rfl
  · refine ⟨_, PSs.nox (pss_cons (ps_expr (pe_call (ok_check_world D) (hr.mono (by decide)) rfl D.m_check_world D.f_check_world.kp D.b_check_world .nil pass0 (pa_cons (pv 0) (pa_cons (pv 1) pa_nil))))
  (pss_cons (ps_expr (pe_call (ok_check_row D) (hr.mono (by decide)) rfl D.m_check_row D.f_check_row.kp D.b_check_row .nil pass0 (pa_cons (pv 2) pa_nil)))
  (pss_cons (ps_expr (pe_call (ok_check_beats D) (hr.mono (by decide)) rfl D.m_check_beats D.f_check_beats.kp D.b_check_beats .nil pass0 (pa_cons (pv 3) (pa_cons pe_int (pa_cons (pe_gi rfl D.i_MOST_BEATS) pa_nil)))))
  (pss_one (ps_ret (pe_call (ok_shows_told D) (hr.mono (by decide)) rfl D.m_shows_told D.f_shows_told.kp D.b_shows_told .nil pass0 (pa_cons (pe_call (ok_beat_power D) (hr.mono (by decide)) rfl D.m_beat_power D.f_beat_power.kp D.b_beat_power .nil pass0 (pa_cons (pv 0) (pa_cons (pv 1) (pa_cons (pe_callB call_len_str (by rfl) D.z_len (by decide +kernel) (pa_cons (pv 2) pa_nil)) (pa_cons (pv 3) pa_nil))))) (pa_cons (pv 2) (pa_cons (pv 4) pa_nil))))))))), ?_⟩
    obtain ⟨ring, a, v, ru, n, b, m, t, rfl, ha, R, h0, h14, hb, hm, ht, hv, he, ho, k⟩ := h
    have ln : ((txt b n).length : Int) = (n : Int) := by rw [txt_len]
    refine ⟨_, rfl, _, rfl, ring, a, ru, rfl, ha, R, fun H1 s1 => ?_⟩
    refine ⟨_, rfl, b, n, rfl, h0, by omega, fun H2 s2 => ?_⟩
    have s12 := s1.trans s2
    refine ⟨_, rfl, _, _, _, rfl, by omega, by omega, ?_⟩
    refine ⟨_, rfl, _, rfl, _, rfl, _, rfl, sz (by rw [txt_len]; omega), _, rfl, ring, a, ru, n, t, by rw [ln]; rfl, s12 _ _ ha, R.len, h0, h14, fun p H3 s3 hp hP => ?_⟩
    refine ⟨_, rfl, _, rfl, p, v, _, b, m, n, rfl, SqL.of hP, by rw [cols_len]; omega, h0, by omega, hb, hm, (s12.trans s3) _ _ hv, he, ho, fun H4 s4 => ?_⟩
    exact k _ ((s12.trans s3).trans s4)
end
end K71
end

section
set_option maxHeartbeats 4000000
/-! plain mathematics: parts, factors, measures: bounds -/
namespace KM
theorem pdv_small {o : Nat} (ho : o ≠ 0) {k : Nat} : ∀ (f : Nat) (s : Nat × Nat), s.1 < 2 ^ k → blen s.2 - blen o + 1 ≤ k → (pdv o f s).1 < 2 ^ k
  | 0, s, h, _ => h
  | f + 1, s, h, hk => by
    by_cases c : blen o ≤ blen s.2
    · rw [pdv_step c]
      have := shl_blen ho c
      refine pdv_small ho f _ ?_ ?_
      · show s.1 ^^^ (1 <<< (blen s.2 - blen o)) < 2 ^ k
        rw [one_shl]
        exact Nat.xor_lt_two_pow h (Nat.pow_lt_pow_of_lt (by decide) (by omega))
      · show blen (s.2 ^^^ _) - blen o + 1 ≤ k
        omega
    · rw [pdv_stop c]; exact h
theorem parted_small (a : Nat) {o : Nat} (ho : o ≠ 0) : (parted a o).1 < 2 ^ (blen a - blen o + 1) := pdv_small ho _ _ (Nat.two_pow_pos _) (Nat.le_refl _)
theorem md_self {r : Nat} (h : r ≠ 0) : md r r = 0 := by
  unfold md parted
  have p := blen_pos h
  obtain ⟨j, ej⟩ : ∃ j, blen r = j + 1 := ⟨blen r - 1, by omega⟩
  have c : blen r ≤ blen ((0, r) : Nat × Nat).2 := Nat.le_refl _
  have e : pdv r (blen r) (0, r) = pdv r (j + 1) (0, r) := by rw [← ej]
  rw [e, pdv_step c]
  have z : r ^^^ (r <<< (blen r - blen r)) = 0 := by rw [Nat.sub_self, Nat.shiftLeft_zero, Nat.xor_self]
  rw [pdv_stop]
  · exact z
  · show ¬ blen r ≤ blen (r ^^^ (r <<< (blen r - blen r)))
    rw [z, blen_zero]; omega
theorem md_small {r p : Nat} (h : ¬ blen p ≤ blen r) : md r p = r := by
  unfold md parted
  rw [pdv_stop h]
theorem div_step {r p : Nat} (hr : r ≠ 0) (hp : 2 ≤ blen p) (h : md r p = 0) : (parted r p).1 ≠ 0 ∧ blen (parted r p).1 < blen r := by
  have p0 : p ≠ 0 := fun e => by rw [e, blen_zero] at hp; omega
  have c : blen p ≤ blen r := Classical.byContradiction fun c => hr (by rw [md_small c] at h; exact h)
  refine ⟨fun e => ?_, ?_⟩
  · have := (parted_spec r p0).1
    rw [e, h, cl_zero, Nat.xor_zero] at this
    exact hr this
  · have := blen_le (parted_small r p0)
    omega
theorem two_blen {p : Nat} (h : 2 ≤ p) : 2 ≤ blen p := by
  have : ¬ blen p ≤ 1 := fun q => by
    have := Nat.lt_of_lt_of_le (blen_lt p) (Nat.pow_le_pow_right (by decide : 0 < 2) q)
    omega
  omega
theorem blen_two {p : Nat} (h : 2 ≤ blen p) : 2 ≤ p := by
  have p0 : p ≠ 0 := fun e => by rw [e, blen_zero] at h; omega
  have := blen_ge p0
  have : 2 ^ 1 ≤ 2 ^ (blen p - 1) := Nat.pow_le_pow_right (by decide) (by omega)
  omega
theorem blen_mono {a b : Nat} (h : a ≤ b) : blen a ≤ blen b := blen_le (Nat.lt_of_le_of_lt h (blen_lt b))
/-! least, factors -/
theorem leastF_ok {b : Nat} (hb : 2 ≤ b) : ∀ (f d : Nat), 2 ≤ d → 2 ≤ leastF b f d ∧ md b (leastF b f d) = 0 ∧ blen (leastF b f d) ≤ blen b
  | 0, d, _ => ⟨hb, md_self (by omega), Nat.le_refl _⟩
  | f + 1, d, hd => by
    show 2 ≤ (if _ then _ else b) ∧ _
    by_cases c : 2 * (blen d - 1) ≤ blen b - 1
    · have e : leastF b (f + 1) d = if md b d = 0 then d else leastF b f (d + 1 + (if 2 < d then 1 else 0)) := by
        show (if _ then _ else b) = _
        rw [if_pos c]
      have e' := e
      change 2 ≤ leastF b (f + 1) d ∧ _
      rw [e]
      by_cases q : md b d = 0
      · rw [if_pos q]
        have := two_blen hd
        have := two_blen hb
        exact ⟨hd, q, by omega⟩
      · rw [if_neg q]
        exact leastF_ok hb f _ (by omega)
    · have e : leastF b (f + 1) d = b := by
        show (if _ then _ else b) = _
        rw [if_neg c]
      change 2 ≤ leastF b (f + 1) d ∧ _
      rw [e]
      exact ⟨hb, md_self (by omega), Nat.le_refl _⟩
theorem least_ok {b : Nat} (hb : 2 ≤ b) : 2 ≤ least b ∧ md b (least b) = 0 ∧ blen (least b) ≤ blen b := leastF_ok hb b 2 (Nat.le_refl _)
theorem stripF_ok {p : Nat} (hp : 2 ≤ blen p) : ∀ (f : Nat) (s : Nat × Nat), s.1 ≠ 0 → (stripF p f s).1 ≠ 0 ∧ blen (stripF p f s).1 ≤ blen s.1 ∧ (stripF p f s).2 ≤ s.2 + f ∧ (md s.1 p = 0 → 0 < f → blen (stripF p f s).1 < blen s.1 ∧ s.2 < (stripF p f s).2) ∧ s.2 ≤ (stripF p f s).2
  | 0, s, h => ⟨h, Nat.le_refl _, Nat.le_refl _, fun _ q => absurd q (Nat.lt_irrefl _), Nat.le_refl _⟩
  | f + 1, s, h => by
    by_cases c : md s.1 p = 0
    · have e : stripF p (f + 1) s = stripF p f ((parted s.1 p).1, s.2 + 1) := by
        show (if _ then _ else _) = _
        rw [if_pos c]
      rw [e]
      obtain ⟨d1, d2⟩ := div_step h hp c
      obtain ⟨a1, a2, a3, a4, a5⟩ := stripF_ok hp f ((parted s.1 p).1, s.2 + 1) d1
      have a3 : _ ≤ s.2 + 1 + f := a3
      have a5 : s.2 + 1 ≤ _ := a5
      have a2 : _ ≤ blen (parted s.1 p).1 := a2
      exact ⟨a1, by omega, by omega, fun _ _ => ⟨by omega, by omega⟩, by omega⟩
    · have e : stripF p (f + 1) s = s := by
        show (if _ then _ else _) = _
        rw [if_neg c]
      rw [e]
      exact ⟨h, Nat.le_refl _, by omega, fun q => absurd q c, Nat.le_refl _⟩
theorem stripF_stop {p : Nat} {s : Nat × Nat} (h : ¬ md s.1 p = 0) : ∀ f, stripF p f s = s
  | 0 => rfl
  | f + 1 => by
    show (if _ then _ else _) = _
    rw [if_neg h]
theorem stripF_step {p f : Nat} {s : Nat × Nat} (h : md s.1 p = 0) : stripF p (f + 1) s = stripF p f ((parted s.1 p).1, s.2 + 1) := by
  show (if _ then _ else _) = _
  rw [if_pos h]
/-- one round of factors -/
theorem strip_round {r : Nat} (h : 1 < blen r) : (stripF (least r) (blen r) (r, 0)).1 ≠ 0 ∧ blen (stripF (least r) (blen r) (r, 0)).1 < blen r ∧ (stripF (least r) (blen r) (r, 0)).2 ≤ blen r ∧ 2 ≤ least r ∧ blen (least r) ≤ blen r := by
  have h2 := blen_two (p := r) (by omega)
  obtain ⟨l1, l2, l3⟩ := least_ok h2
  obtain ⟨a1, a2, a3, a4, a5⟩ := stripF_ok (two_blen l1) (blen r) (r, 0) (by show r ≠ 0; omega)
  obtain ⟨b1, b2⟩ := a4 l2 (by omega)
  exact ⟨a1, b1, by have a3 : _ ≤ 0 + blen r := a3; omega, l1, l3⟩
theorem factF_step {f r : Nat} {acc : List (Nat × Nat)} (h : 1 < blen r) : factF (f + 1) r acc = factF f (stripF (least r) (blen r) (r, 0)).1 (acc ++ [(least r, (stripF (least r) (blen r) (r, 0)).2)]) := by
  show (if _ then _ else _) = _
  rw [if_pos h]
theorem factF_stop {r : Nat} {acc : List (Nat × Nat)} (h : ¬ 1 < blen r) : ∀ f, factF f r acc = acc
  | 0 => rfl
  | f + 1 => by
    show (if _ then _ else _) = _
    rw [if_neg h]
theorem factF_ok {m : Nat} : ∀ (f r : Nat) (acc : List (Nat × Nat)), blen r ≤ m → (∀ e ∈ acc, 2 ≤ e.1 ∧ blen e.1 ≤ m ∧ e.2 ≤ m) → (∀ e ∈ factF f r acc, 2 ≤ e.1 ∧ blen e.1 ≤ m ∧ e.2 ≤ m) ∧ (factF f r acc).length ≤ acc.length + f
  | 0, r, acc, _, h => ⟨h, Nat.le_refl _⟩
  | f + 1, r, acc, hr, h => by
    by_cases c : 1 < blen r
    · rw [factF_step c]
      obtain ⟨s1, s2, s3, s4, s5⟩ := strip_round c
      obtain ⟨i1, i2⟩ := factF_ok (m := m) f (stripF (least r) (blen r) (r, 0)).1 (acc ++ [(least r, (stripF (least r) (blen r) (r, 0)).2)]) (by omega) (fun e he => by
        rcases List.mem_append.mp he with he | he
        · exact h e he
        · rw [List.mem_singleton.mp he]
          exact ⟨s4, by show blen (least r) ≤ m; omega, by show _ ≤ m; omega⟩)
      refine ⟨i1, ?_⟩
      rw [List.length_append, List.length_singleton] at i2
      omega
    · rw [factF_stop c]
      exact ⟨h, by omega⟩
theorem factors_ok (b : Nat) : (∀ e ∈ factorsM b, 2 ≤ e.1 ∧ blen e.1 ≤ blen b ∧ e.2 ≤ blen b) ∧ (factorsM b).length ≤ blen b := by
  have := factF_ok (m := blen b) (blen b) b [] (Nat.le_refl _) (fun e he => (nomatch he))
  exact ⟨this.1, by have := this.2; rw [List.length_nil] at this; exact (by unfold factorsM; omega)⟩
/-! primes -/
theorem stripP_ok {p : Nat} (hp : 2 ≤ p) : ∀ (f r : Nat), 0 < r → 0 < stripP p f r ∧ stripP p f r ≤ r
  | 0, r, h => ⟨h, Nat.le_refl _⟩
  | f + 1, r, h => by
    show 0 < (if _ then _ else _) ∧ (if _ then _ else _) ≤ r
    by_cases c : r % p = 0
    · rw [if_pos c]
      have q : 0 < r / p := Nat.div_pos (Nat.le_of_dvd h (Nat.dvd_of_mod_eq_zero c)) (by omega)
      obtain ⟨a, b⟩ := stripP_ok hp f (r / p) q
      exact ⟨a, Nat.le_trans b (Nat.div_le_self _ _)⟩
    · rw [if_neg c]
      exact ⟨h, Nat.le_refl _⟩
theorem stripP_step {p f r : Nat} (h : r % p = 0) : stripP p (f + 1) r = stripP p f (r / p) := by
  show (if _ then _ else _) = _
  rw [if_pos h]
theorem stripP_stop {p r : Nat} (h : ¬ r % p = 0) : ∀ f, stripP p f r = r
  | 0 => rfl
  | f + 1 => by
    show (if _ then _ else _) = _
    rw [if_neg h]
theorem primF_stop {fo : List Nat} {r p : Nat} (h : ¬ p * p ≤ r) : ∀ f, primF f fo r p = (fo, r)
  | 0 => rfl
  | f + 1 => by
    show (if _ then _ else _) = _
    rw [if_neg h]
theorem primF_yes {f : Nat} {fo : List Nat} {r p : Nat} (h : p * p ≤ r) (c : r % p = 0) : primF (f + 1) fo r p = primF f (fo ++ [p]) (stripP p r r) (p + 1) := by
  show (if _ then (if _ then _ else _) else _) = _
  rw [if_pos h, if_pos c]
theorem primF_no {f : Nat} {fo : List Nat} {r p : Nat} (h : p * p ≤ r) (c : ¬ r % p = 0) : primF (f + 1) fo r p = primF f fo r (p + 1) := by
  show (if _ then (if _ then _ else _) else _) = _
  rw [if_pos h, if_neg c]
theorem primF_ok {n : Nat} : ∀ (f : Nat) (fo : List Nat) (r p : Nat), 2 ≤ p → 0 < r → r ≤ n → (∀ q ∈ fo, 2 ≤ q ∧ q ≤ n) → (∀ q ∈ (primF f fo r p).1, 2 ≤ q ∧ q ≤ n) ∧ 0 < (primF f fo r p).2 ∧ (primF f fo r p).2 ≤ n
  | 0, fo, r, p, _, h1, h2, h3 => ⟨h3, h1, h2⟩
  | f + 1, fo, r, p, hp, h1, h2, h3 => by
    by_cases h : p * p ≤ r
    · by_cases c : r % p = 0
      · rw [primF_yes h c]
        obtain ⟨a, b⟩ := stripP_ok hp r r h1
        have pn : p ≤ p * p := Nat.le_mul_self p
        exact primF_ok f _ _ _ (by omega) a (by omega) fun q hq => by
          rcases List.mem_append.mp hq with hq | hq
          · exact h3 q hq
          · rw [List.mem_singleton.mp hq]; omega
      · rw [primF_no h c]
        exact primF_ok f _ _ _ (by omega) h1 h2 h3
    · rw [primF_stop h]
      exact ⟨h3, h1, h2⟩
theorem primes_ok {n : Nat} (h : 0 < n) : ∀ q ∈ primesM n, 2 ≤ q ∧ q ≤ n := by
  obtain ⟨a, b, c⟩ := primF_ok (n := n) n [] n 2 (Nat.le_refl _) h (Nat.le_refl _) (fun q hq => (nomatch hq))
  unfold primesM
  split
  · intro q hq
    rcases List.mem_append.mp hq with hq | hq
    · exact a q hq
    · rw [List.mem_singleton.mp hq]; omega
  · exact a
/-! measures -/
theorem pmF_ok {g p : Nat} (hp : 2 ≤ p) : ∀ (f n : Nat), 0 < n → 0 < pmF g p f n ∧ pmF g p f n ≤ n
  | 0, n, h => ⟨h, Nat.le_refl _⟩
  | f + 1, n, h => by
    show 0 < (if _ then _ else _) ∧ (if _ then _ else _) ≤ n
    by_cases c : n % p = 0 ∧ powr 2 (n / p) g = md 1 g
    · rw [if_pos c]
      have q : 0 < n / p := Nat.div_pos (Nat.le_of_dvd h (Nat.dvd_of_mod_eq_zero c.1)) (by omega)
      obtain ⟨a, b⟩ := pmF_ok hp f (n / p) q
      exact ⟨a, Nat.le_trans b (Nat.div_le_self _ _)⟩
    · rw [if_neg c]
      exact ⟨h, Nat.le_refl _⟩
theorem pmF_step {g p f n : Nat} (h : n % p = 0 ∧ powr 2 (n / p) g = md 1 g) : pmF g p (f + 1) n = pmF g p f (n / p) := by
  show (if _ then _ else _) = _
  rw [if_pos h]
theorem pmF_stop {g p n : Nat} (h : ¬ (n % p = 0 ∧ powr 2 (n / p) g = md 1 g)) : ∀ f, pmF g p f n = n
  | 0 => rfl
  | f + 1 => by
    show (if _ then _ else _) = _
    rw [if_neg h]
theorem pm_fold {g : Nat} : ∀ (l : List Nat) (n : Nat), (∀ q ∈ l, 2 ≤ q) → 0 < n → 0 < l.foldl (fun n p => pmF g p n n) n ∧ l.foldl (fun n p => pmF g p n n) n ≤ n
  | [], n, _, h => ⟨h, Nat.le_refl _⟩
  | p :: l, n, hl, h => by
    obtain ⟨a, b⟩ := pmF_ok (g := g) (hl p (List.mem_cons_self ..)) n n h
    obtain ⟨c, d⟩ := pm_fold (g := g) l (pmF g p n n) (fun q hq => hl q (List.mem_cons_of_mem _ hq)) a
    exact ⟨c, by rw [List.foldl_cons]; omega⟩
theorem full_pos {g : Nat} (h : 2 ≤ g) : 0 < (1 <<< (blen g - 1)) - 1 ∧ (1 <<< (blen g - 1)) - 1 < 2 ^ (blen g - 1) := by
  have := two_blen h
  have : 2 ^ 1 ≤ 2 ^ (blen g - 1) := Nat.pow_le_pow_right (by decide) (by omega)
  rw [one_shl]; omega
theorem plainMeasure_ok {g : Nat} (h : 2 ≤ g) : 0 < plainMeasure g ∧ plainMeasure g < 2 ^ (blen g - 1) := by
  obtain ⟨a, b⟩ := full_pos h
  obtain ⟨c, d⟩ := pm_fold (g := g) (primesM ((1 <<< (blen g - 1)) - 1)) _ (fun q hq => (primes_ok a q hq).1) a
  exact ⟨c, Nat.lt_of_le_of_lt d b⟩
theorem lcm_fold : ∀ (l : List Nat) (a : Nat), (∀ n ∈ l, 0 < n) → 0 < a → 0 < l.foldl (fun a n => a / Nat.gcd a n * n) a
  | [], a, _, h => h
  | n :: l, a, hl, h => by
    refine lcm_fold l _ (fun m hm => hl m (List.mem_cons_of_mem _ hm)) ?_
    have n0 := hl n (List.mem_cons_self ..)
    refine Nat.mul_pos (Nat.div_pos (Nat.gcd_le_left _ h) (Nat.gcd_pos_of_pos_left _ h)) n0
theorem lcmL_pos {l : List Nat} (h : ∀ n ∈ l, 0 < n) : 0 < lcmL l := lcm_fold l 1 h (by decide)
theorem twosF_ok {t : Nat} : ∀ (f a : Nat), 0 < a → a < 2 * t + 2 → 0 < twosF t f a ∧ twosF t f a < 2 * t + 2
  | 0, a, h, h2 => ⟨h, h2⟩
  | f + 1, a, h, h2 => by
    show 0 < (if _ then _ else _) ∧ (if _ then _ else _) < _
    by_cases c : a < t
    · rw [if_pos c]
      exact twosF_ok f _ (by omega) (by omega)
    · rw [if_neg c]
      exact ⟨h, h2⟩
theorem twos_ok (t : Nat) : 0 < twos t ∧ twos t < 2 * t + 2 := twosF_ok t 1 (by decide) (by omega)
theorem twosF_step {t f a : Nat} (h : a < t) : twosF t (f + 1) a = twosF t f (2 * a) := by
  show (if _ then _ else _) = _
  rw [if_pos h]
theorem twosF_stop {t a : Nat} (h : ¬ a < t) : ∀ f, twosF t f a = a
  | 0 => rfl
  | f + 1 => by
    show (if _ then _ else _) = _
    rw [if_neg h]
theorem coreF_step {f r : Nat} (h : r % 2 = 0) : coreF (f + 1) r = coreF f (r / 2) := by
  show (if _ then _ else _) = _
  rw [if_pos h]
theorem coreF_stop {r : Nat} (h : ¬ r % 2 = 0) : ∀ f, coreF f r = r
  | 0 => rfl
  | f + 1 => by
    show (if _ then _ else _) = _
    rw [if_neg h]
theorem blen_dbl {r : Nat} (h : r ≠ 0) : blen (2 * r) = blen r + 1 := by
  have a := blen_ge h
  have b := blen_lt r
  have c := blen_pos h
  apply blen_eq
  · rw [show blen r = (blen r - 1) + 1 by omega, Nat.pow_succ]; omega
  · rw [Nat.pow_succ]; omega
theorem coreF_ok : ∀ (f r : Nat), r ≠ 0 → blen r ≤ f → coreF f r % 2 = 1 ∧ coreF f r ≠ 0 ∧ blen (coreF f r) ≤ blen r ∧ r = 2 ^ (blen r - blen (coreF f r)) * coreF f r
  | 0, r, h, hf => by have := blen_pos h; omega
  | f + 1, r, h, hf => by
    by_cases c : r % 2 = 0
    · rw [coreF_step c]
      have e : r = 2 * (r / 2) := by omega
      have h2 : r / 2 ≠ 0 := by omega
      have bl := blen_dbl h2
      rw [← e] at bl
      obtain ⟨a1, a2, a3, a4⟩ := coreF_ok f (r / 2) h2 (by omega)
      refine ⟨a1, a2, by omega, ?_⟩
      rw [bl, show blen (r / 2) + 1 - blen (coreF f (r / 2)) = (blen (r / 2) - blen (coreF f (r / 2))) + 1 by omega, Nat.pow_succ, Nat.mul_comm _ 2, Nat.mul_assoc, ← a4]
      exact e
    · rw [coreF_stop c]
      refine ⟨by omega, h, Nat.le_refl _, ?_⟩
      rw [Nat.sub_self, Nat.pow_zero, Nat.one_mul]
/-- the odd part of a polynomial; what stands ahead of it is the tail -/
theorem core_ok {b : Nat} (h : b ≠ 0) : core b % 2 = 1 ∧ core b ≠ 0 ∧ blen (core b) ≤ blen b ∧ b = 2 ^ tailM b * core b := coreF_ok (blen b) b h (Nat.le_refl _)
theorem core_odd {b : Nat} (h : b % 2 = 1) : core b = b := coreF_stop (by omega) _
theorem measured_ok (b : Nat) : ∀ e ∈ measuredM b, 0 < e.2.2 ∧ e.2.2 < 2 ^ blen (core b) ∧ e.2.1 ≤ blen (core b) := fun e he => by
  unfold measuredM at he
  obtain ⟨x, hx, rfl⟩ := List.mem_map.mp he
  obtain ⟨a, b', c⟩ := (factors_ok (core b)).1 x hx
  obtain ⟨p, q⟩ := plainMeasure_ok a
  exact ⟨p, Nat.lt_of_lt_of_le q (Nat.pow_le_pow_right (by decide) (by omega)), c⟩
theorem maxL_le {m : Nat} (h1 : 1 ≤ m) : ∀ {l : List Nat}, (∀ n ∈ l, n ≤ m) → ∀ a, a ≤ m → l.foldl max a ≤ m
  | [], _, a, ha => ha
  | n :: l, h, a, ha => maxL_le h1 (fun q hq => h q (List.mem_cons_of_mem _ hq)) _ (by have := h n (List.mem_cons_self ..); omega)
theorem measure_pos (b : Nat) : 0 < measureM b := Nat.mul_pos (lcmL_pos fun n hn => by
  obtain ⟨e, he, rfl⟩ := List.mem_map.mp hn
  exact (measured_ok b e he).1) (twos_ok _).1
theorem period_pos (b : Nat) : 0 < periodM b := measure_pos _
end KM
end

section
set_option maxHeartbeats 4000000
/-! the walk: plain.py, measures.py -/
namespace K71
open PySem PySem.Spec PyProof.Rows L2 KM RZ
section
variable {X : Cx}
/-- n * m, m small -/
theorem omr : OpR X (binaryOp .Mult) (rN2 (fun _ m => m < 2 ^ 64) fun n m => vn (n * m)) := nat2 op_mul (fun n m c => .inr ⟨by omega, by omega⟩) fun n m _ => (Int.natCast_mul n m).symm
/-- i * j, i small, the answer told -/
theorem omlz : OpR X (binaryOp .Mult) (fun x y H Q => ∃ i j z : Int, x = .int i ∧ y = .int j ∧ (0 ≤ i ∧ i < 2 ^ 64) ∧ i * j = z ∧ Q (.int z) H) := by
  intro pins s σ H x y v u Q I rx ry ⟨i, j, z, ex, ey, c, e, q⟩
  exact op_mul pins s σ H x y v u Q I rx ry ⟨i, j, ex, ey, .inl ⟨by omega, c.2⟩, qi e q⟩
end
section
variable {P : Program} {w : World} {K : PySem.W.Frag} {mg : Str → Option Value} {base : Heap}
theorem b64 {b n : Nat} (h : blen b ≤ n) (hn : n ≤ 64) : b < 2 ^ 64 := Nat.lt_of_lt_of_le (blen_lt b) (pow_mono (by omega))
def q_least_of (K : PySem.W.Frag) : Sp := fun vs H Q _ => ∃ b : Nat, vs = [vn b] ∧ 2 ≤ b ∧ blen b ≤ 30 ∧ ∀ H', Same H H' → Q (vn (least b)) H'
theorem ok_least_of (D : Ok K mg) : FnOk P w K mg base CX0 4 (He.ga K "least_of") (fdA K (He.ga K "least_of")) ["bits"] (q_least_of K) := by
  refine D.f_least_of.ok sc_least_of (fun vs H Q E h => ?_) (fun cdv A outer s H vs Q E hr h => ?_)
  · obtain ⟨_, rfl, _⟩ := h
    rfl
  · refine ⟨_, PSs.nox (pss_cons (ps_set (i := 1) sc_least_of.nd rfl (.inl rfl) pe_int)
  (pss_cons (ps_while PassesOwn.never (pt_cmpR op_le (pe_op omlz pe_int (pe_call (ok_degree_of D) (hr.mono (by decide)) rfl D.m_degree_of D.f_degree_of.kp D.b_degree_of .nil pass0 (pa_cons (pv 1) pa_nil))) (pe_call (ok_degree_of D) (hr.mono (by decide)) rfl D.m_degree_of D.f_degree_of.kp D.b_degree_of .nil pass0 (pa_cons (pv 0) pa_nil)) (nomark _))
    (pss_cons (ps_if (pt_cmpR op_eq (pe_call (ok_rest_of D) (hr.mono (by decide)) rfl D.m_rest_of D.f_rest_of.kp D.b_rest_of .nil pass0 (pa_cons (pv 0) (pa_cons (pv 1) pa_nil))) pe_int (nomark _)) (pss_one (ps_ret (pv 1))) pss_nil)
  (pss_one (ps_set (i := 1) sc_least_of.nd rfl (.inl rfl) (pe_op oad (pe_op oad (pv 1) pe_int) (pe_callTy call_int1 (by rfl) D.z_int (by decide +kernel) (pa_cons (pe_cmpR op_gt (pv 1) pe_int (nomark _)) pa_nil)))))))
  (pss_one (ps_ret (pv 0))))), ?_⟩
    obtain ⟨b, rfl, hb, h30, k⟩ := h
    refine ⟨fun m σ H' => Same H H' ∧ ∃ d : Nat, 2 ≤ d ∧ b + 2 ≤ d + m ∧ leastF b m d = least b ∧ σ = [some (vn b), some (vn d)], ⟨b, Same.refl _, 2, by decide, by omega, rfl, rfl⟩, ?_⟩
    rintro m σ H' ⟨sm, d, h2, hm, e, rfl⟩
    have bb := two_blen hb
    have bd := two_blen h2
    refine ⟨_, rfl, d, rfl, 2, _, 2 * ((blen d : Int) - 1), rfl, rfl, ⟨by decide, by decide⟩, rfl, ?_⟩
    refine ⟨_, rfl, b, rfl, _, _, rfl, rfl, _, rfl, ?_⟩
    refine itI (fun hc => ?_) (fun hc => ?_)
    · have hc : 2 * (blen d - 1) ≤ blen b - 1 := by omega
      have hdb : d < b + 2 := by
        refine Classical.byContradiction fun q => ?_
        have := blen_mono (a := b) (b := d) (by omega)
        omega
      obtain ⟨f, rfl⟩ : ∃ f, m = f + 1 := ⟨m - 1, by omega⟩
      have e : (if 2 * (blen d - 1) ≤ blen b - 1 then (if md b d = 0 then d else leastF b f (d + 1 + (if 2 < d then 1 else 0))) else b) = least b := e
      rw [if_pos hc] at e
      refine ⟨fun σ' H2 => ∃ m', m' < f + 1 ∧ Same H H2 ∧ ∃ d : Nat, 2 ≤ d ∧ b + 2 ≤ d + m' ∧ leastF b m' d = least b ∧ σ' = [some (vn b), some (vn d)], fun _ _ h => h, ?_⟩
      refine ⟨_, rfl, _, rfl, b, d, rfl, b64 h30 (by decide), b64 (n := 30) (by omega) (by decide), by omega, fun H1 s1 => ?_⟩
      refine ⟨rfl, _, rfl, ?_⟩
      refine itE (m := 0) (fun hz => ?_) (fun hz => ?_)
      · rw [if_pos hz] at e
        rw [← e] at k
        exact ⟨_, rfl, k _ (sm.trans s1)⟩
      · rw [if_neg hz] at e
        refine ⟨_, rfl, d, 1, rfl, rfl, _, rfl, _, _, rfl, rfl, .inr ⟨_, rfl, ?_⟩⟩
        refine ⟨_, (if 2 < d then 1 else 0), rfl, ?_, ?_⟩
        · by_cases q : 2 < d
          · rw [if_pos q, decide_eq_true (by omega : (2 : Int) < (d : Int))]; rfl
          · rw [if_neg q, decide_eq_false (by omega : ¬ (2 : Int) < (d : Int))]; rfl
        · exact ⟨f, Nat.lt_succ_self _, sm.trans s1, _, by omega, by omega, e, rfl⟩
    · have hc : ¬ 2 * (blen d - 1) ≤ blen b - 1 := by omega
      have e2 : leastF b m d = b := by
        cases m with
        | zero => rfl
        | succ m =>
          show (if _ then _ else b) = b
          rw [if_neg hc]
      rw [e2] at e
      rw [← e] at k
      exact ⟨_, rfl, k _ sm⟩
/-- a list of pairs -/
def PrAt (H : Hp) : List V → List (Nat × Nat) → Prop := Paired fun v e => ∃ t, v = .ref t ∧ H t = some (.tup [vn e.1, vn e.2])
theorem prd_mono {α β : Type} {R R' : α → β → Prop} (h : ∀ a b, R a b → R' a b) : ∀ {l : List α} {m : List β}, Paired R l m → Paired R' l m
  | _, _, .nil => .nil
  | _, _, .cons r p => .cons (h _ _ r) (prd_mono h p)
theorem prd_snoc {α β : Type} {R : α → β → Prop} : ∀ {l : List α} {m : List β}, Paired R l m → ∀ {a b}, R a b → Paired R (l ++ [a]) (m ++ [b])
  | _, _, .nil, _, _, h => .cons h .nil
  | _, _, .cons r p, _, _, h => .cons r (prd_snoc p h)
theorem prd_len {α β : Type} {R : α → β → Prop} : ∀ {l : List α} {m : List β}, Paired R l m → l.length = m.length
  | _, _, .nil => rfl
  | _, _, .cons _ p => congrArg (· + 1) (prd_len p)
theorem prd_at {α β : Type} {R : α → β → Prop} : ∀ {l : List α} {m : List β}, Paired R l m → ∀ {i : Nat} {a : α}, l[i]? = some a → ∃ b, m[i]? = some b ∧ R a b
  | _, _, .nil, i, a, h => by simp at h
  | _, _, .cons (b := b) r p, 0, a, h => ⟨b, rfl, by rw [← Option.some.inj h]; exact r⟩
  | _, _, .cons r p, i + 1, a, h => prd_at p (i := i) h
def q_factors_of (K : PySem.W.Frag) : Sp := fun vs H Q _ => ∃ b : Nat, vs = [vn b] ∧ b ≠ 0 ∧ blen b ≤ 30 ∧ ∀ p H' ts, Same H H' → H p = none → H' p = some (.lst ts) → PrAt H' ts (factorsM b) → Q (.ref p) H'
theorem ok_factors_of (D : Ok K mg) : FnOk P w K mg base CX0 5 (He.ga K "factors_of") (fdA K (He.ga K "factors_of")) ["bits"] (q_factors_of K) := by
  refine D.f_factors_of.ok sc_factors_of (fun vs H Q E h => ?_) (fun cdv A outer s H vs Q E hr h => ?_)
  · obtain ⟨_, rfl, _⟩ := h
    rfl
  · refine ⟨_, PSs.nox (pss_cons (ps_par (i := 1) (j := 2) (by rfl) sc_factors_of.nd rfl rfl (by decide) rfl rfl (pa_cons (pe_lst pa_nil) (pa_cons (pv 0) pa_nil)) (by rfl))
  (pss_cons (ps_while PassesOwn.never (pt_cmpR op_gt (pe_call (ok_degree_of D) (hr.mono (by decide)) rfl D.m_degree_of D.f_degree_of.kp D.b_degree_of .nil pass0 (pa_cons (pv 2) pa_nil)) pe_int (nomark _))
    (pss_cons (ps_par (i := 3) (j := 4) (by rfl) sc_factors_of.nd rfl rfl (by decide) rfl rfl (pa_cons (pe_call (ok_least_of D) (hr.mono (by decide)) rfl D.m_least_of D.f_least_of.kp D.b_least_of .nil pass0 (pa_cons (pv 2) pa_nil)) (pa_cons pe_int pa_nil)) (by rfl))
  (pss_cons (ps_while PassesOwn.never (pt_cmpR op_eq (pe_call (ok_rest_of D) (hr.mono (by decide)) rfl D.m_rest_of D.f_rest_of.kp D.b_rest_of .nil pass0 (pa_cons (pv 2) (pa_cons (pv 3) pa_nil))) pe_int (nomark _))
    (pss_one (ps_par (i := 2) (j := 4) (by rfl) sc_factors_of.nd rfl rfl (by decide) rfl rfl (pa_cons (pe_ix ix_tup (pe_call (ok_parted_of D) (hr.mono (by decide)) rfl D.m_parted_of D.f_parted_of.kp D.b_parted_of .nil pass0 (pa_cons (pv 2) (pa_cons (pv 3) pa_nil))) pe_int (fun _ _ => rfl)) (pa_cons (pe_op oad (pv 4) pe_int) pa_nil)) (by rfl))))
  (pss_one (ps_expr (pe_bm PySem.F.plainAttrs_list PySem.F.slot_list_append PySem.F.type_list_append mt_append (pv 1) (pa_cons (pe_tup (pa_cons (pv 3) (pa_cons (pv 4) pa_nil))) pa_nil)))))))
  (pss_one (ps_ret (pv 1))))), ?_⟩
    obtain ⟨b, rfl, hb, h30, k⟩ := h
    refine ⟨Nat.zero_le _, fun L hL => ?_⟩
    refine ⟨_, rfl, _, _, rfl, ?_⟩
    refine ⟨fun m σ H' => ∃ (r : Nat) (acc : List (Nat × Nat)) (ts : List V) (y3 y4 : Option V), Same H H' ∧ H' L = some (.lst ts) ∧ PrAt H' ts acc ∧ r ≠ 0 ∧ blen r ≤ m ∧ m ≤ 30 ∧ acc.length + m ≤ 30 ∧ factF m r acc = factorsM b ∧ σ = [some (vn b), some (.ref L), some (vn r), y3, y4],
      ⟨blen b, b, [], [], none, none, same_new hL, upd_same, .nil, hb, Nat.le_refl _, h30, by show 0 + blen b ≤ 30; omega, rfl, rfl⟩, ?_⟩
    rintro m σ H' ⟨r, acc, ts, y3, y4, sm, hT, hP, r0, hm, m30, hal, e, rfl⟩
    refine ⟨_, rfl, r, rfl, _, _, rfl, rfl, _, rfl, ?_⟩
    refine itI (fun hc => ?_) (fun hc => ?_)
    · have hc : 1 < blen r := by omega
      obtain ⟨f, rfl⟩ : ∃ f, m = f + 1 := ⟨m - 1, by omega⟩
      obtain ⟨s1', s2', s3', s4', s5'⟩ := strip_round hc
      rw [factF_step hc] at e
      refine ⟨fun σ' H2 => ∃ m', m' < f + 1 ∧ ∃ (r : Nat) (acc : List (Nat × Nat)) (ts : List V) (y3 y4 : Option V), Same H H2 ∧ H2 L = some (.lst ts) ∧ PrAt H2 ts acc ∧ r ≠ 0 ∧ blen r ≤ m' ∧ m' ≤ 30 ∧ acc.length + m' ≤ 30 ∧ factF m' r acc = factorsM b ∧ σ' = [some (vn b), some (.ref L), some (vn r), y3, y4], fun _ _ h => h, ?_⟩
      refine ⟨_, rfl, r, rfl, blen_two (by omega), by omega, fun H1 s1 => ?_⟩
      refine ⟨_, _, rfl, ?_⟩
      have p64 : least r < 2 ^ 64 := b64 (n := 30) (by omega) (by decide)
      have pb := two_blen s4'
      refine ⟨fun m2 σ2 H2 => Same H1 H2 ∧ ∃ r2 t2 : Nat, r2 ≠ 0 ∧ blen r2 ≤ m2 ∧ blen r2 ≤ 30 ∧ stripF (least r) m2 (r2, t2) = stripF (least r) (blen r) (r, 0) ∧ σ2 = [some (vn b), some (.ref L), some (vn r2), some (vn (least r)), some (vn t2)],
        ⟨blen r, Same.refl _, r, 0, r0, Nat.le_refl _, by omega, rfl, rfl⟩, ?_⟩
      rintro m2 σ2 H2 ⟨s2, r2, t2, z2, hm2, h2, e2, rfl⟩
      refine ⟨_, rfl, _, rfl, r2, least r, rfl, b64 h2 (by decide), p64, by omega, fun H3 s3 => ?_⟩
      refine ⟨rfl, _, rfl, ?_⟩
      have bp2 := blen_pos z2
      refine itE (m := 0) (fun hz => ?_) (fun hz => ?_)
      · obtain ⟨g, rfl⟩ : ∃ g, m2 = g + 1 := ⟨m2 - 1, by omega⟩
        obtain ⟨d1, d2⟩ := div_step z2 pb hz
        rw [stripF_step hz] at e2
        refine ⟨fun σ' H2 => ∃ m', m' < g + 1 ∧ Same H1 H2 ∧ ∃ r2 t2 : Nat, r2 ≠ 0 ∧ blen r2 ≤ m' ∧ blen r2 ≤ 30 ∧ stripF (least r) m' (r2, t2) = stripF (least r) (blen r) (r, 0) ∧ σ' = [some (vn b), some (.ref L), some (vn r2), some (vn (least r)), some (vn t2)], fun _ _ h => h, ?_⟩
        refine ⟨_, rfl, _, rfl, r2, least r, rfl, b64 h2 (by decide), p64, by omega, fun t H4 s4 ht hT4 => ?_⟩
        refine ⟨t, _, 0, _, rfl, rfl, SqT.of hT4, rfl, _, rfl, _, 1, rfl, rfl, _, _, rfl, ?_⟩
        exact ⟨g, Nat.lt_succ_self _, (s2.trans s3).trans s4, _, _, d1, by omega, by omega, e2, rfl⟩
      · rw [stripF_stop (s := (r2, t2)) hz] at e2
        rw [← e2] at s1' s2' s3' e
        have s13 := (s1.trans s2).trans s3
        have hT3 := s13 _ _ hT
        refine ⟨_, rfl, .inl ⟨rfl, _, SqL.of hT3⟩, _, rfl, _, rfl, sz (by show 2 ≤ 100000; decide), fun t ht => ?_⟩
        have nLt : L ≠ t := ne_of_none hT3 ht
        have hlen := prd_len hP
        refine ⟨L, _, _, rfl, rfl, Eq.trans (upd_ne nLt) hT3, szl (by omega), ?_⟩
        have st : Same H3 (upd H3 t (.tup [vn (least r), vn t2])) := same_new ht
        refine ⟨f, Nat.lt_succ_self _, r2, acc ++ [(least r, t2)], ts ++ [.ref t], _, _, smut ((sm.trans s13).trans st) hL, upd_same, ?_, s1', by have s2' : blen r2 < _ := s2'; omega, by omega, ?_, e, rfl⟩
        · refine prd_snoc (prd_mono (fun v e' he' => ?_) hP) ⟨t, rfl, by rw [upd_ne nLt.symm, upd_same]⟩
          obtain ⟨t', ev, et⟩ := he'
          refine ⟨t', ev, ?_⟩
          have q := st _ _ (s13 _ _ et)
          have qL := st _ _ hT3
          rw [upd_ne (ne_of q qL (by intro z; cases z))]
          exact q
        · rw [List.length_append, List.length_singleton]; omega
    · rw [factF_stop (by omega)] at e
      rw [← e] at k
      exact ⟨_, rfl, k L H' ts sm hL hT hP⟩
def q_primes_of (K : PySem.W.Frag) : Sp := fun vs H Q _ => ∃ n : Nat, vs = [vn n] ∧ 0 < n ∧ n < 2 ^ 15 ∧ ∀ p H', Same H H' → H p = none → H' p = some (.lst (vns (primesM n))) → Q (.ref p) H'
theorem ok_primes_of (D : Ok K mg) : FnOk P w K mg base CX0 1 (He.ga K "primes_of") (fdA K (He.ga K "primes_of")) ["number"] (q_primes_of K) := by
  refine D.f_primes_of.ok sc_primes_of (fun vs H Q E h => ?_) (fun cdv A outer s H vs Q E hr h => ?_)
  · obtain ⟨_, rfl, _⟩ := h
    rfl
  · refine ⟨_, PSs.nox (pss_cons (ps_par3 (i := 1) (j := 2) (l := 3) (by rfl) sc_primes_of.nd rfl rfl rfl (by decide) (by decide) (by decide) rfl rfl rfl (pa_cons (pe_lst pa_nil) (pa_cons (pv 0) (pa_cons pe_int pa_nil))) (by rfl))
  (pss_cons (ps_while PassesOwn.never (pt_cmpR op_le (pe_op oml (pv 3) (pv 3)) (pv 2) (nomark _))
    (pss_cons (ps_if (pt_cmpR op_eq (pe_op omd (pv 2) (pv 3)) pe_int (nomark _)) (pss_cons (ps_expr (pe_bm PySem.F.plainAttrs_list PySem.F.slot_list_append PySem.F.type_list_append mt_append (pv 1) (pa_cons (pv 3) pa_nil)))
  (pss_one (ps_while PassesOwn.never (pt_cmpR op_eq (pe_op omd (pv 2) (pv 3)) pe_int (nomark _))
    (pss_one (ps_set (i := 2) sc_primes_of.nd rfl (.inl rfl) (pe_op ofd (pv 2) (pv 3))))))) pss_nil)
  (pss_one (ps_set (i := 3) sc_primes_of.nd rfl (.inl rfl) (pe_op oad (pv 3) pe_int)))))
  (pss_one (ps_ret (pe_ifExp (pt_cmpR op_gt (pv 2) pe_int (nomark _)) (pe_op op_cat (pv 1) (pe_lst (pa_cons (pv 2) pa_nil))) (pv 1)))))), ?_⟩
    obtain ⟨n, rfl, hn, h15, k⟩ := h
    refine ⟨Nat.zero_le _, fun L hL => ?_⟩
    refine ⟨_, rfl, _, _, _, rfl, ?_⟩
    refine ⟨fun m σ H' => ∃ (fo : List Nat) (r p : Nat), Same H H' ∧ H' L = some (.lst (vns fo)) ∧ 2 ≤ p ∧ 0 < r ∧ r ≤ n ∧ n + 2 ≤ p + m ∧ p ≤ n + 2 ∧ fo.length + 2 ≤ p ∧ primF m fo r p = primF n [] n 2 ∧ σ = [some (vn n), some (.ref L), some (vn r), some (vn p)],
      ⟨n, [], n, 2, same_new hL, upd_same, by decide, hn, Nat.le_refl _, by omega, by omega, Nat.le_refl _, rfl, rfl⟩, ?_⟩
    rintro m σ H' ⟨fo, r, p, sm, hT, h2, r0, hrn, hm, hpn, hfl, e, rfl⟩
    have p64 : p < 2 ^ 64 := Nat.lt_of_le_of_lt (m := 2 ^ 15 + 2) (by omega) (by decide)
    refine ⟨_, rfl, _, rfl, p, p, rfl, rfl, p64, _, rfl, _, _, rfl, rfl, _, rfl, ?_⟩
    refine itLe (fun hc => ?_) (fun hc => ?_)
    · have pp : p ≤ p * p := Nat.le_mul_self p
      obtain ⟨f, rfl⟩ : ∃ f, m = f + 1 := ⟨m - 1, by omega⟩
      refine ⟨fun σ' H2 => ∃ m', m' < f + 1 ∧ ∃ (fo : List Nat) (r p : Nat), Same H H2 ∧ H2 L = some (.lst (vns fo)) ∧ 2 ≤ p ∧ 0 < r ∧ r ≤ n ∧ n + 2 ≤ p + m' ∧ p ≤ n + 2 ∧ fo.length + 2 ≤ p ∧ primF m' fo r p = primF n [] n 2 ∧ σ' = [some (vn n), some (.ref L), some (vn r), some (vn p)], fun _ _ h => h, ?_⟩
      refine ⟨_, rfl, _, rfl, _, _, rfl, rfl, by omega, rfl, _, rfl, ?_⟩
      refine itE (m := 0) (fun hz => ?_) (fun hz => ?_)
      · rw [primF_yes hc hz] at e
        refine ⟨_, rfl, .inl ⟨rfl, _, SqL.of hT⟩, _, rfl, L, _, _, rfl, rfl, hT, szl (by rw [vns_len]; omega), ?_⟩
        have hT2 : (upd H' L (.lst (vns fo ++ [vn p]))) L = some (.lst (vns (fo ++ [p]))) := by rw [upd_same, vns, vns, List.map_append]; rfl
        have sm2 : Same H (upd H' L (.lst (vns fo ++ [vn p]))) := smut sm hL
        generalize upd H' L (.lst (vns fo ++ [vn p])) = H2 at hT2 sm2
        obtain ⟨q1, q2⟩ := stripP_ok h2 r r r0
        refine ⟨fun m2 σ2 H3 => H3 = H2 ∧ ∃ r2 : Nat, 0 < r2 ∧ r2 ≤ m2 ∧ stripP p m2 r2 = stripP p r r ∧ σ2 = [some (vn n), some (.ref L), some (vn r2), some (vn p)], ⟨r, rfl, r, r0, Nat.le_refl _, rfl, rfl⟩, ?_⟩
        rintro m2 σ2 H3 ⟨rfl, r2, z2, hm2, e2, rfl⟩
        refine ⟨_, rfl, _, rfl, _, _, rfl, rfl, by omega, rfl, _, rfl, ?_⟩
        refine itE (m := 0) (fun hy => ?_) (fun hy => ?_)
        · obtain ⟨g, rfl⟩ : ∃ g, m2 = g + 1 := ⟨m2 - 1, by omega⟩
          rw [stripP_step hy] at e2
          have d0 : 0 < r2 / p := Nat.div_pos (Nat.le_of_dvd z2 (Nat.dvd_of_mod_eq_zero hy)) (by omega)
          have d1 : r2 / p < r2 := Nat.div_lt_self z2 (by omega)
          refine ⟨fun σ' H4 => ∃ m', m' < g + 1 ∧ H4 = H3 ∧ ∃ r2 : Nat, 0 < r2 ∧ r2 ≤ m' ∧ stripP p m' r2 = stripP p r r ∧ σ' = [some (vn n), some (.ref L), some (vn r2), some (vn p)], fun _ _ h => h, ?_⟩
          refine ⟨_, rfl, _, rfl, _, _, rfl, rfl, ⟨by omega, by omega⟩, ?_⟩
          exact ⟨g, Nat.lt_succ_self _, rfl, r2 / p, d0, by omega, e2, rfl⟩
        · rw [stripP_stop hy] at e2
          rw [← e2] at q1 q2 e
          refine ⟨_, rfl, _, 1, rfl, rfl, ?_⟩
          refine ⟨f, Nat.lt_succ_self _, fo ++ [p], r2, p + 1, sm2, hT2, by omega, q1, by omega, by omega, by omega, ?_, e, rfl⟩
          rw [List.length_append, List.length_singleton]; omega
      · rw [primF_no hc hz] at e
        refine ⟨_, rfl, _, 1, rfl, rfl, ?_⟩
        exact ⟨f, Nat.lt_succ_self _, fo, r, p + 1, sm, hT, by omega, r0, hrn, by omega, by omega, by omega, e, rfl⟩
    · rw [primF_stop (by omega)] at e
      unfold primesM at k
      rw [← e] at k
      refine ⟨_, rfl, _, _, rfl, rfl, _, rfl, ?_⟩
      have k : ∀ p H', Same H H' → H p = none → H' p = some (.lst (vns (if 1 < r then fo ++ [r] else fo))) → Q (.ref p) H' := k
      refine itL (n := 1) (fun h1 => ?_) (fun h1 => ?_)
      · rw [if_pos h1] at k
        refine ⟨_, rfl, _, rfl, sz (by show 1 ≤ 100000; decide), fun t ht => ?_⟩
        have nLt : L ≠ t := ne_of_none hT ht
        refine ⟨L, t, _, _, rfl, rfl, Eq.trans (upd_ne nLt) hT, upd_same, sz (by rw [vns_len]; show fo.length + 1 ≤ 100000; omega), fun q hq => ?_⟩
        refine k q _ (snew (snew sm ht) hq) ((snew sm ht).free hq) ?_
        rw [upd_same, vns, vns, List.map_append]; rfl
      · rw [if_neg (by omega)] at k
        exact ⟨_, rfl, k L _ sm hL hT⟩
def q_plain_measure (K : PySem.W.Frag) : Sp := fun vs H Q _ => ∃ g : Nat, vs = [vn g] ∧ 2 ≤ g ∧ blen g ≤ 15 ∧ ∀ H', Same H H' → Q (vn (plainMeasure g)) H'
theorem ok_plain_measure (D : Ok K mg) : FnOk P w K mg base CX0 5 (He.ga K "plain_measure") (fdA K (He.ga K "plain_measure")) ["factor"] (q_plain_measure K) := by
  refine D.f_plain_measure.ok sc_plain_measure (fun vs H Q E h => ?_) (fun cdv A outer s H vs Q E hr h => ?_)
  · obtain ⟨_, rfl, _⟩ := h
    rfl
  · refine ⟨_, PSs.nox (pss_cons (ps_set (i := 1) sc_plain_measure.nd rfl (.inl rfl) (pe_op osb (pe_op osl pe_int (pe_call (ok_degree_of D) (hr.mono (by decide)) rfl D.m_degree_of D.f_degree_of.kp D.b_degree_of .nil pass0 (pa_cons (pv 0) pa_nil))) pe_int))
  (pss_cons (ps_for PassesOwn.never rfl (pi_list (pe_call (ok_primes_of D) (hr.mono (by decide)) rfl D.m_primes_of D.f_primes_of.kp D.b_primes_of .nil pass0 (pa_cons (pv 1) pa_nil))) (pg_name (i := 2) sc_plain_measure.nd rfl (.inl rfl))
    (pss_one (ps_while PassesOwn.never (PW.pt (pw_and (pt_cmpR op_eq (pe_op omd (pv 1) (pv 2)) pe_int (nomark _)) (pw_and1 (pt_cmpR op_eq (pe_call (ok_power_of D) (hr.mono (by decide)) rfl D.m_power_of D.f_power_of.kp D.b_power_of .nil pass0 (pa_cons pe_int (pa_cons (pe_op ofd (pv 1) (pv 2)) (pa_cons (pv 0) pa_nil)))) (pe_call (ok_rest_of D) (hr.mono (by decide)) rfl D.m_rest_of D.f_rest_of.kp D.b_rest_of .nil pass0 (pa_cons pe_int (pa_cons (pv 0) pa_nil))) (nomark _)))))
    (pss_one (ps_set (i := 1) sc_plain_measure.nd rfl (.inl rfl) (pe_op ofd (pv 1) (pv 2)))))))
  (pss_one (ps_ret (pv 1))))), ?_⟩
    obtain ⟨g, rfl, hg, h15, k⟩ := h
    obtain ⟨f1, f2⟩ := full_pos hg
    have bg := two_blen hg
    have one : 1 ≤ 1 <<< (blen g - 1) := by rw [one_shl]; exact Nat.two_pow_pos _
    have g64 : g < 2 ^ 64 := b64 h15 (by decide)
    have g32 : g < 2 ^ 32 := Nat.lt_of_lt_of_le (blen_lt g) (pow_mono (by omega))
    refine ⟨_, rfl, g, rfl, 1, blen g - 1, rfl, by show V.int ((blen g : Int) - 1) = V.int ((blen g - 1 : Nat) : Int); congr 1; omega, ⟨by decide, by omega⟩, _, 1, rfl, rfl, one, ?_⟩
    have k : ∀ H', Same H H' → Q (vn ((primesM ((1 <<< (blen g - 1)) - 1)).foldl (fun n p => pmF g p n n) ((1 <<< (blen g - 1)) - 1))) H' := k
    have n15 : (1 <<< (blen g - 1)) - 1 < 2 ^ 15 := Nat.lt_of_lt_of_le f2 (pow_mono (by omega))
    have hpr := primes_ok f1
    have hst : (1 <<< (blen g - 1)) - 1 ≤ 2 ^ 15 := by omega
    obtain ⟨n, en⟩ : ∃ n, n = (1 <<< (blen g - 1)) - 1 := ⟨_, rfl⟩
    rw [← en] at k f1 n15 hpr hst
    refine ⟨_, rfl, n, by rw [en]; rfl, f1, n15, fun L H1 s1 hL hT => ?_⟩
    generalize primesM n = ps at k hT hpr
    refine ⟨L, rfl, ⟨_, SqL.of hT⟩, for_it (walk_list (xs := vns ps)) (fun i σ H' => ∃ y2, Same H1 H' ∧ σ = [some (vn g), some (vn ((ps.take i).foldl (fun n p => pmF g p n n) n)), y2]) ⟨none, Same.refl _, by rw [en]; rfl⟩ (fun i σ H' _ ⟨_, h, _⟩ => slist h (SqL.of hT)) ?_ ?_⟩
    · rintro i x σ H2 H3 hi ⟨y2, s2, rfl⟩ ⟨eH, ex⟩
      subst eH
      obtain ⟨p, ep, rfl⟩ := vns_at ex
      obtain ⟨p2, p3⟩ := hpr p (List.mem_of_getElem? ep)
      have hf : (ps.take (i + 1)).foldl (fun n p => pmF g p n n) n = pmF g p ((ps.take i).foldl (fun n p => pmF g p n n) n) ((ps.take i).foldl (fun n p => pmF g p n n) n) := by
        rw [take_succ ep, List.foldl_append]; rfl
      obtain ⟨c0, c1⟩ := pm_fold (g := g) (ps.take i) n (fun q hq => (hpr q (List.mem_of_mem_take hq)).1) f1
      rw [hf]
      generalize (ps.take i).foldl (fun n p => pmF g p n n) n = c at c0 c1
      refine ⟨fun m σ' H' => Same H1 H' ∧ ∃ u : Nat, 0 < u ∧ u ≤ m ∧ pmF g p m u = pmF g p c c ∧ σ' = [some (vn g), some (vn u), some (vn p)], ⟨c, s2, c, c0, Nat.le_refl _, rfl, rfl⟩, ?_⟩
      rintro m σ' H' ⟨sm, u, u0, hm, e, rfl⟩
      refine ⟨_, rfl, _, rfl, _, _, rfl, rfl, by omega, rfl, _, rfl, ?_⟩
      have stop : ¬ (u % p = 0 ∧ powr 2 (u / p) g = md 1 g) → ∀ H'', Same H1 H'' → ∃ y2, Same H1 H'' ∧ [some (vn g), some (vn u), some (vn p)] = [some (vn g), some (vn (pmF g p c c)), y2] := fun hn H'' s => by
        rw [pmF_stop hn] at e
        rw [← e]
        exact ⟨_, s, rfl⟩
      refine itE (m := 0) (fun hz => ?_) (fun hz => ?_)
      · refine ⟨_, rfl, _, rfl, _, _, rfl, rfl, ⟨by omega, by omega⟩, _, rfl, 2, u / p, g, rfl, by show 2 < 2 ^ 64; decide, g32, by omega, fun H4 s4 => ?_⟩
        refine ⟨_, rfl, 1, g, rfl, by decide, g64, by omega, fun H5 s5 => ?_⟩
        refine ⟨rfl, _, rfl, ?_⟩
        have s15 := (sm.trans s4).trans s5
        refine itE (fun hy => ?_) (fun hy => ?_)
        · obtain ⟨f, rfl⟩ : ∃ f, m = f + 1 := ⟨m - 1, by omega⟩
          rw [pmF_step ⟨hz, hy⟩] at e
          have d0 : 0 < u / p := Nat.div_pos (Nat.le_of_dvd u0 (Nat.dvd_of_mod_eq_zero hz)) (by omega)
          have d1 : u / p < u := Nat.div_lt_self u0 (by omega)
          refine ⟨fun σ' H' => ∃ m', m' < f + 1 ∧ Same H1 H' ∧ ∃ u : Nat, 0 < u ∧ u ≤ m' ∧ pmF g p m' u = pmF g p c c ∧ σ' = [some (vn g), some (vn u), some (vn p)], fun _ _ h => h, ?_⟩
          refine ⟨_, rfl, _, rfl, _, _, rfl, rfl, ⟨by omega, by omega⟩, ?_⟩
          exact ⟨f, Nat.lt_succ_self _, s15, _, d0, by omega, e, rfl⟩
        · exact stop (fun q => hy q.2) _ s15
      · exact stop (fun q => hz q.1) _ sm
    · rintro σ H2 ⟨y2, s2, rfl⟩
      rw [vns_len, List.take_length]
      exact ⟨_, rfl, k _ (s1.trans s2)⟩
def q_least_common (K : PySem.W.Frag) : Sp := fun vs H Q _ => ∃ (a : Addr) (l : List Nat), vs = [.ref a] ∧ SqL K H a (vns l) ∧ (∀ n ∈ l, 0 < n ∧ n < 2 ^ 20) ∧ Q (vn (lcmL l)) H
theorem ok_least_common (D : Ok K mg) : FnOk P w K mg base CX0 1 (He.ga K "least_common") (fdA K (He.ga K "least_common")) ["numbers"] (q_least_common K) := by
  refine D.f_least_common.ok sc_least_common (fun vs H Q E h => ?_) (fun cdv A outer s H vs Q E hr h => ?_)
  · obtain ⟨_, _, rfl, _⟩ := h
    rfl
  · refine ⟨_, PSs.nox (pss_cons (ps_set (i := 1) sc_least_common.nd rfl (.inl rfl) pe_int)
  (pss_cons (ps_for PassesOwn.never rfl (pi_list (pv 0)) (pg_name (i := 2) sc_least_common.nd rfl (.inl rfl))
    (pss_cons (ps_par (i := 3) (j := 4) (by rfl) sc_least_common.nd rfl rfl (by decide) rfl rfl (pa_cons (pv 1) (pa_cons (pv 2) pa_nil)) (by rfl))
  (pss_cons (ps_while PassesOwn.never (pt_cmpR op_gt (pv 4) pe_int (nomark _))
    (pss_one (ps_par (i := 3) (j := 4) (by rfl) sc_least_common.nd rfl rfl (by decide) rfl rfl (pa_cons (pv 4) (pa_cons (pe_op omd (pv 3) (pv 4)) pa_nil)) (by rfl))))
  (pss_one (ps_set (i := 1) sc_least_common.nd rfl (.inl rfl) (pe_op omr (pe_op ofd (pv 1) (pv 3)) (pv 2)))))))
  (pss_one (ps_ret (pv 1))))), ?_⟩
    obtain ⟨a, l, rfl, hS, hl, k⟩ := h
    refine ⟨_, rfl, a, rfl, ⟨_, hS⟩, for_it (walk_list (xs := vns l)) (fun i σ H' => H' = H ∧ ∃ y2 y3 y4, σ = [some (.ref a), some (vn ((l.take i).foldl (fun a n => a / Nat.gcd a n * n) 1)), y2, y3, y4]) ⟨rfl, none, none, none, rfl⟩ (fun i σ H' _ h => by rw [h.1]; exact hS) ?_ ?_⟩
    · rintro i x σ H2 H3 hi ⟨rfl, y2, y3, y4, rfl⟩ ⟨eH, ex⟩
      subst eH
      obtain ⟨n, en, rfl⟩ := vns_at ex
      obtain ⟨n0, n20⟩ := hl n (List.mem_of_getElem? en)
      have hf : (l.take (i + 1)).foldl (fun a n => a / Nat.gcd a n * n) 1 = ((l.take i).foldl (fun a n => a / Nat.gcd a n * n) 1) / Nat.gcd ((l.take i).foldl (fun a n => a / Nat.gcd a n * n) 1) n * n := by
        rw [take_succ en, List.foldl_append]; rfl
      have c0 := lcm_fold (l.take i) 1 (fun q hq => (hl q (List.mem_of_mem_take hq)).1) (by decide)
      rw [hf]
      generalize (l.take i).foldl (fun a n => a / Nat.gcd a n * n) 1 = c at c0
      refine ⟨_, rfl, _, rfl, _, _, rfl, ?_⟩
      refine ⟨fun m σ' H' => H' = H3 ∧ ∃ u v : Nat, v ≤ m ∧ Nat.gcd u v = Nat.gcd c n ∧ σ' = [some (.ref a), some (vn c), some (vn n), some (vn u), some (vn v)], ⟨n, rfl, c, n, Nat.le_refl _, rfl, rfl⟩, ?_⟩
      rintro m σ' H' ⟨rfl, u, v, hm, e, rfl⟩
      refine ⟨_, rfl, _, _, rfl, rfl, _, rfl, ?_⟩
      refine itL (n := 0) (fun hc => ?_) (fun hc => ?_)
      · refine ⟨fun σ' H4 => ∃ m', m' < m ∧ H4 = H' ∧ ∃ u v : Nat, v ≤ m' ∧ Nat.gcd u v = Nat.gcd c n ∧ σ' = [some (.ref a), some (vn c), some (vn n), some (vn u), some (vn v)], fun _ _ h => h, ?_⟩
        refine ⟨_, rfl, _, rfl, _, rfl, _, _, rfl, rfl, hc, _, _, rfl, ?_⟩
        have ml := Nat.mod_lt u hc
        refine ⟨u % v, by omega, rfl, v, u % v, Nat.le_refl _, ?_, rfl⟩
        rw [← e, Nat.gcd_comm v, ← Nat.gcd_rec, Nat.gcd_comm]
      · have hv : v = 0 := Nat.le_zero.mp hc
        subst hv
        rw [Nat.gcd_zero_right] at e
        subst e
        have g1 := Nat.gcd_le_right c n0
        have g0 := Nat.gcd_pos_of_pos_left n c0
        refine ⟨_, rfl, _, rfl, _, _, rfl, rfl, ⟨g0, by omega⟩, _, rfl, _, n, rfl, rfl, Nat.lt_of_lt_of_le n20 (by decide), ?_⟩
        exact ⟨rfl, _, _, _, rfl⟩
    · rintro σ H2 ⟨rfl, y2, y3, y4, rfl⟩
      rw [vns_len, List.take_length]
      exact ⟨_, rfl, k⟩
def q_twos_above (K : PySem.W.Frag) : Sp := fun vs H Q _ => ∃ t : Nat, vs = [vn t] ∧ Q (vn (twos t)) H
theorem ok_twos_above (D : Ok K mg) : FnOk P w K mg base CX0 1 (He.ga K "twos_above") (fdA K (He.ga K "twos_above")) ["times"] (q_twos_above K) := by
  refine D.f_twos_above.ok sc_twos_above (fun vs H Q E h => ?_) (fun cdv A outer s H vs Q E hr h => ?_)
  · obtain ⟨_, rfl, _⟩ := h
    rfl
  · refine ⟨_, PSs.nox (pss_cons (ps_set (i := 1) sc_twos_above.nd rfl (.inl rfl) pe_int)
  (pss_cons (ps_while PassesOwn.never (pt_cmpR op_lt (pv 1) (pv 0) (nomark _))
    (pss_one (ps_set (i := 1) sc_twos_above.nd rfl (.inl rfl) (pe_op oml pe_int (pv 1)))))
  (pss_one (ps_ret (pv 1))))), ?_⟩
    obtain ⟨t, rfl, k⟩ := h
    refine ⟨fun m σ H' => H' = H ∧ ∃ a : Nat, 0 < a ∧ t ≤ a + m ∧ twosF t m a = twos t ∧ σ = [some (vn t), some (vn a)], ⟨t, rfl, 1, by decide, by omega, rfl, rfl⟩, ?_⟩
    rintro m σ H' ⟨rfl, a, h0, hm, e, rfl⟩
    refine ⟨_, rfl, _, rfl, _, _, rfl, rfl, _, rfl, ?_⟩
    refine itL (fun hc => ?_) (fun hc => ?_)
    · obtain ⟨f, rfl⟩ : ∃ f, m = f + 1 := ⟨m - 1, by omega⟩
      rw [twosF_step hc] at e
      refine ⟨fun σ' H2 => ∃ m', m' < f + 1 ∧ H2 = H' ∧ ∃ a : Nat, 0 < a ∧ t ≤ a + m' ∧ twosF t m' a = twos t ∧ σ' = [some (vn t), some (vn a)], fun _ _ h => h, ?_⟩
      refine ⟨_, rfl, 2, a, rfl, rfl, by show 2 < 2 ^ 64; decide, ?_⟩
      exact ⟨f, Nat.lt_succ_self _, rfl, _, by omega, by omega, e, rfl⟩
    · rw [twosF_stop (by omega)] at e
      rw [← e] at k
      exact ⟨_, rfl, k⟩
def q_core_bits (K : PySem.W.Frag) : Sp := fun vs H Q _ => ∃ b : Nat, vs = [vn b] ∧ b ≠ 0 ∧ Q (vn (core b)) H
theorem ok_core_bits (D : Ok K mg) : FnOk P w K mg base CX0 1 (He.ga K "core_bits") (fdA K (He.ga K "core_bits")) ["bits"] (q_core_bits K) := by
  refine D.f_core_bits.ok sc_core_bits (fun vs H Q E h => ?_) (fun cdv A outer s H vs Q E hr h => ?_)
  · obtain ⟨_, rfl, _⟩ := h
    rfl
  · refine ⟨_, PSs.nox (pss_cons (ps_set (i := 1) sc_core_bits.nd rfl (.inl rfl) (pv 0))
  (pss_cons (ps_while PassesOwn.never (pt_cmpR op_eq (pe_op omd (pv 1) pe_int) pe_int (nomark _))
    (pss_one (ps_set (i := 1) sc_core_bits.nd rfl (.inl rfl) (pe_op osr (pv 1) pe_int))))
  (pss_one (ps_ret (pv 1))))), ?_⟩
    obtain ⟨b, rfl, hb, k⟩ := h
    refine ⟨_, rfl, ?_⟩
    refine ⟨fun m σ H' => H' = H ∧ ∃ r : Nat, r ≠ 0 ∧ blen r ≤ m ∧ coreF m r = core b ∧ σ = [some (vn b), some (vn r)], ⟨blen b, rfl, b, hb, Nat.le_refl _, rfl, rfl⟩, ?_⟩
    rintro m σ H' ⟨rfl, r, h0, hm, e, rfl⟩
    refine ⟨_, rfl, _, 2, rfl, rfl, (by show 0 < 2; decide), rfl, _, rfl, ?_⟩
    have bp := blen_pos h0
    refine itE (m := 0) (fun hc => ?_) (fun hc => ?_)
    · obtain ⟨f, rfl⟩ : ∃ f, m = f + 1 := ⟨m - 1, by omega⟩
      rw [coreF_step hc] at e
      have hs := half_step (x := r) (by omega)
      refine ⟨fun σ' H2 => ∃ m', m' < f + 1 ∧ H2 = H' ∧ ∃ r : Nat, r ≠ 0 ∧ blen r ≤ m' ∧ coreF m' r = core b ∧ σ' = [some (vn b), some (vn r)], fun _ _ h => h, ?_⟩
      refine ⟨_, rfl, _, 1, rfl, rfl, trivial, ?_⟩
      exact ⟨f, Nat.lt_succ_self _, rfl, r / 2, by omega, by omega, e, rfl⟩
    · rw [coreF_stop hc] at e
      rw [← e] at k
      exact ⟨_, rfl, k⟩
end
end K71
end

section
set_option maxHeartbeats 4000000
/-! the walk: measures.py (the end), own.py -/
namespace KM
theorem foldl_max : ∀ (l : List Nat) (a : Nat), l.foldl max a ∈ a :: l ∧ ∀ y ∈ a :: l, y ≤ l.foldl max a
  | [], a => ⟨List.mem_cons_self .., fun y hy => by rw [List.mem_singleton.mp hy]; exact Nat.le_refl _⟩
  | n :: l, a => by
    obtain ⟨h1, h2⟩ := foldl_max l (max a n)
    rw [List.foldl_cons]
    refine ⟨?_, fun y hy => ?_⟩
    · rcases List.mem_cons.mp h1 with h | h
      · rw [h]
        rcases Nat.le_total a n with q | q
        · rw [Nat.max_eq_right q]; simp
        · rw [Nat.max_eq_left q]; simp
      · exact List.mem_cons_of_mem _ (List.mem_cons_of_mem _ h)
    · have hm := h2 (max a n) (List.mem_cons_self ..)
      rcases List.mem_cons.mp hy with h | h
      · rw [h]; omega
      · rcases List.mem_cons.mp h with h | h
        · rw [h]; omega
        · exact h2 y (List.mem_cons_of_mem _ h)
end KM
namespace K71
open PySem PySem.Spec PyProof.Rows L2 KM RZ
section
variable {P : Program} {w : World} {K : PySem.W.Frag} {mg : Str → Option Value} {base : Heap}
/-- a list of triples -/
def TrAt (H : Hp) : List V → List (Nat × Nat × Nat) → Prop := Paired fun v e => ∃ t, v = .ref t ∧ H t = some (.tup [vn e.1, vn e.2.1, vn e.2.2])
theorem TrAt.same {H H' : Hp} {ts : List V} {l : List (Nat × Nat × Nat)} (s : Same H H') (h : TrAt H ts l) : TrAt H' ts l := prd_mono (fun v e ⟨t, a, b⟩ => ⟨t, a, s _ _ b⟩) h
theorem PrAt.same {H H' : Hp} {ts : List V} {l : List (Nat × Nat)} (s : Same H H') (h : PrAt H ts l) : PrAt H' ts l := prd_mono (fun v e ⟨t, a, b⟩ => ⟨t, a, s _ _ b⟩) h
def q_measured_bits (K : PySem.W.Frag) : Sp := fun vs H Q _ => ∃ b : Nat, vs = [vn b] ∧ b ≠ 0 ∧ blen b ≤ 15 ∧ ∀ p H' ts, Same H H' → H p = none → H' p = some (.lst ts) → TrAt H' ts (measuredM b) → Q (.ref p) H'
theorem ok_measured_bits (D : Ok K mg) : FnOk P w K mg base CX0 6 (He.ga K "measured_bits") (fdA K (He.ga K "measured_bits")) ["bits"] (q_measured_bits K) := by
  refine D.f_measured_bits.ok sc_measured_bits (fun vs H Q E h => ?_) (fun cdv A outer s H vs Q E hr h => ?_)
  · obtain ⟨_, rfl, _⟩ := h
    rfl
  · refine ⟨_, PSs.nox (pss_one (ps_ret (pe_lc (own := [("factor", 1), ("times", 2)]) (g := gTup K 2 (gCons (gName 1) (gCons (gName 2) gNil))) (by rfl) sc_measured_bits.nd (pi_list (pe_call (ok_factors_of D) (hr.mono (by decide)) rfl D.m_factors_of D.f_factors_of.kp D.b_factors_of .nil pass0 (pa_cons (pe_call (ok_core_bits D) (hr.mono (by decide)) rfl D.m_core_bits D.f_core_bits.kp D.b_core_bits .nil pass0 (pa_cons (pv 0) pa_nil)) pa_nil))) (blkOk_by (own := [("factor", 1), ("times", 2)]) (N := ["bits", "factor", "times"]) (sc := defScope s_measured_bits) (by decide +kernel)) (fun _ _ _ _ _ => (pg_tup (by rfl) (pgs_cons (pg_name (i := 1) sc_measured_bits.nd rfl (.inl rfl)) (pgs_cons (pg_name (i := 2) sc_measured_bits.nd rfl (.inl rfl)) pgs_nil)))) (fun _ _ _ _ _ => pts_nil) (fun _ _ _ _ _ => (pe_tup (pa_cons (pv 1) (pa_cons (pv 2) (pa_cons (pe_call (ok_plain_measure D) (hr.mono (by decide)) rfl D.m_plain_measure D.f_plain_measure.kp D.b_plain_measure .nil pass0 (pa_cons (pv 1) pa_nil)) pa_nil)))))))), ?_⟩
    obtain ⟨b, rfl, hb, h15, k⟩ := h
    obtain ⟨c1, c2, c3, c4⟩ := core_ok hb
    refine ⟨_, rfl, b, rfl, hb, _, rfl, c2, by omega, fun L H1 ts s1 hL hT hP => ?_⟩
    obtain ⟨f1, f2⟩ := factors_ok (core b)
    have hlen := prd_len hP
    refine ⟨L, rfl, ⟨_, SqL.of hT⟩, fun D1 hD1 => lc_it (walk_list (xs := ts)) (fun i H' => Same H1 H' ∧ ∃ us, H' D1 = some (.lst us) ∧ TrAt H' us (((factorsM (core b)).take i).map fun e => (e.1, e.2, plainMeasure e.1))) ⟨same_new hD1, [], upd_same, .nil⟩ (fun i H' _ ⟨s, _⟩ => slist s (SqL.of hT)) ?_ ?_⟩
    · rintro i x H2 H3 hi ⟨s2, us, hU, hR⟩ ⟨eH, ex⟩
      subst eH
      obtain ⟨e, ee, t, rfl, ht⟩ := prd_at hP ex
      obtain ⟨g1, g2, g3⟩ := f1 e (List.mem_of_getElem? ee)
      refine ⟨t, _, rfl, SqT.of (s2 _ _ ht), rfl, _, _, rfl, _, _, rfl, rfl, rfl, ?_⟩
      refine ⟨_, rfl, _, rfl, _, rfl, e.1, rfl, g1, by omega, fun H4 s4 => ?_⟩
      refine ⟨sz (by show 3 ≤ 100000; decide), fun q hq => ?_⟩
      have st : Same H4 (upd H4 q (.tup [vn e.1, vn e.2, vn (plainMeasure e.1)])) := same_new hq
      have hU4 := st _ _ (s4 _ _ hU)
      have s14 := (s2.trans s4).trans st
      have hul := prd_len hR
      rw [List.length_map, List.length_take] at hul
      refine ⟨us, hU4, szl (by omega), smut s14 hD1, us ++ [.ref q], upd_same, ?_⟩
      rw [take_succ ee, List.map_append]
      refine prd_snoc (prd_mono (fun v e' he' => ?_) hR) ⟨q, rfl, by rw [upd_ne (ne_of upd_same hU4 (by intro z; cases z)), upd_same]⟩
      obtain ⟨t', ev, et⟩ := he'
      have q' := st _ _ (s4 _ _ et)
      exact ⟨t', ev, by rw [upd_ne (ne_of q' hU4 (by intro z; cases z))]; exact q'⟩
    · rintro H2 ⟨s2, us, hU, hR⟩
      rw [hlen, List.take_length] at hR
      exact k D1 _ us (s1.trans s2) (s1.free hD1) hU hR
def q_measure_bits (K : PySem.W.Frag) : Sp := fun vs H Q _ => ∃ b : Nat, vs = [vn b] ∧ b ≠ 0 ∧ blen b ≤ 15 ∧ ∀ H', Same H H' → Q (vn (measureM b)) H'
theorem ok_measure_bits (D : Ok K mg) : FnOk P w K mg base CX0 7 (He.ga K "measure_bits") (fdA K (He.ga K "measure_bits")) ["bits"] (q_measure_bits K) := by
  refine D.f_measure_bits.ok sc_measure_bits (fun vs H Q E h => ?_) (fun cdv A outer s H vs Q E hr h => ?_)
  · obtain ⟨_, rfl, _⟩ := h
    rfl
  · refine ⟨_, PSs.nox (pss_cons (ps_set (i := 1) sc_measure_bits.nd rfl (.inl rfl) (pe_call (ok_measured_bits D) (hr.mono (by decide)) rfl D.m_measured_bits D.f_measured_bits.kp D.b_measured_bits .nil pass0 (pa_cons (pv 0) pa_nil)))
  (pss_one (ps_ret (pe_op omr (pe_call (ok_least_common D) (hr.mono (by decide)) rfl D.m_least_common D.f_least_common.kp D.b_least_common .nil pass0 (pa_cons (pe_lc (own := [("row", 2)]) (by rfl) sc_measure_bits.nd (pi_list (pv 1)) (blkOk_by (own := [("row", 2)]) (N := ["bits", "rows", "row"]) (sc := defScope s_measure_bits) (by decide +kernel)) (fun _ _ _ _ _ => (pg_name (i := 2) sc_measure_bits.nd rfl (.inl rfl))) (fun _ _ _ _ _ => pts_nil) (fun _ _ _ _ _ => (pe_ix (r := rIxT K) ix_tup (pv 2) (pe_un un_neg pe_int) (fun _ _ => rfl)))) pa_nil)) (pe_call (ok_twos_above D) (hr.mono (by decide)) rfl D.m_twos_above D.f_twos_above.kp D.b_twos_above .nil pass0 (pa_cons (pe_callB (cr_max rfl) (by rfl) D.z_max (by decide +kernel) (pa_cons (pe_op op_cat (pe_lst (pa_cons pe_int pa_nil)) (pe_lc (own := [("row", 2)]) (by rfl) sc_measure_bits.nd (pi_list (pv 1)) (blkOk_by (own := [("row", 2)]) (N := ["bits", "rows", "row"]) (sc := defScope s_measure_bits) (by decide +kernel)) (fun _ _ _ _ _ => (pg_name (i := 2) sc_measure_bits.nd rfl (.inl rfl))) (fun _ _ _ _ _ => pts_nil) (fun _ _ _ _ _ => (pe_ix (r := rIxT K) ix_tup (pv 2) pe_int (fun _ _ => rfl))))) pa_nil)) pa_nil)))))), ?_⟩
    obtain ⟨b, rfl, hb, h15, k⟩ := h
    refine ⟨_, rfl, b, rfl, hb, h15, fun L H1 ts s1 hL hT hR => ?_⟩
    have hm := measured_ok b
    have hlen := prd_len hR
    obtain ⟨c1, c2, c3, c4⟩ := core_ok hb
    have hcl : (measuredM b).length ≤ 15 := by
      have := (factors_ok (core b)).2
      unfold measuredM
      rw [List.length_map]; omega
    have k : ∀ H', Same H H' → Q (vn (lcmL ((measuredM b).map fun e => e.2.2) * twos (maxL ((measuredM b).map fun e => e.2.1)))) H' := k
    generalize measuredM b = rows at hR hm hlen hcl k
    refine ⟨_, rfl, L, rfl, ⟨_, SqL.of hT⟩, fun D1 hD1 => lc_it (walk_list (xs := ts)) (fun i H' => H' = upd H1 D1 (.lst (vns ((rows.take i).map fun e => e.2.2)))) rfl (fun i H' _ h => by rw [h]; exact slist (same_new hD1) (SqL.of hT)) ?_ ?_⟩
    · rintro i x H2 H3 hi rfl ⟨rfl, ex⟩
      obtain ⟨e, ee, t, rfl, ht⟩ := prd_at hR ex
      have ht2 := same_new (o := .lst (vns ((rows.take i).map fun e => e.2.2))) hD1 _ _ ht
      refine ⟨rfl, _, rfl, 1, rfl, t, _, -1, _, rfl, rfl, SqT.of ht2, rfl, _, upd_same, szl ?_, ?_⟩
      · rw [vns_len, List.length_map, List.length_take]; omega
      · rw [upd_upd, take_succ ee, List.map_append, vns, vns, List.map_append]; rfl
    · rintro H2 rfl
      rw [hlen, List.take_length]
      have s2 : Same H1 (upd H1 D1 (.lst (vns (rows.map fun e => e.2.2)))) := same_new hD1
      have hD : (upd H1 D1 (.lst (vns (rows.map fun e => e.2.2)))) D1 = some (.lst (vns (rows.map fun e => e.2.2))) := upd_same
      generalize upd H1 D1 (.lst (vns (rows.map fun e => e.2.2))) = H2 at s2 hD
      refine ⟨D1, _, rfl, SqL.of hD, fun n hn => ?_, ?_⟩
      · obtain ⟨e, he, rfl⟩ := List.mem_map.mp hn
        obtain ⟨m1, m2, m3⟩ := hm e he
        exact ⟨m1, Nat.lt_of_lt_of_le m2 (pow_mono (by omega))⟩
      have hT2 := s2 _ _ hT
      refine ⟨sz (by show 1 ≤ 100000; decide), fun O hO => ?_⟩
      have s3 : Same H2 (upd H2 O (.lst [.int 1])) := same_new hO
      have hO3 : (upd H2 O (.lst [.int 1])) O = some (.lst [.int 1]) := upd_same
      generalize upd H2 O (.lst [.int 1]) = H3 at s3 hO3
      have s13 := s2.trans s3
      refine ⟨_, rfl, L, rfl, ⟨_, SqL.of (s3 _ _ hT2)⟩, fun D2 hD2 => lc_it (walk_list (xs := ts)) (fun i H' => H' = upd H3 D2 (.lst (vns ((rows.take i).map fun e => e.2.1)))) rfl (fun i H' _ h => by rw [h]; exact slist (same_new hD2) (SqL.of (s3 _ _ hT2))) ?_ ?_⟩
      · rintro i x H4 H5 hi rfl ⟨rfl, ex⟩
        obtain ⟨e, ee, t, rfl, ht⟩ := prd_at hR ex
        have ht2 := same_new (o := .lst (vns ((rows.take i).map fun e => e.2.1))) hD2 _ _ (s13 _ _ ht)
        refine ⟨rfl, _, rfl, t, _, 1, _, rfl, rfl, SqT.of ht2, rfl, _, upd_same, szl ?_, ?_⟩
        · rw [vns_len, List.length_map, List.length_take]; omega
        · rw [upd_upd, take_succ ee, List.map_append, vns, vns, List.map_append]; rfl
      · rintro H4 rfl
        rw [hlen, List.take_length]
        have s4 : Same H3 (upd H3 D2 (.lst (vns (rows.map fun e => e.2.1)))) := same_new hD2
        refine ⟨O, D2, _, _, rfl, rfl, s4 _ _ hO3, upd_same, sz (by rw [vns_len, List.length_map]; show 1 + rows.length ≤ 100000; omega), fun q hq => ?_⟩
        have s5 : Same (upd H3 D2 (.lst (vns (rows.map fun e => e.2.1)))) (upd (upd H3 D2 (.lst (vns (rows.map fun e => e.2.1)))) q (.lst ([V.int 1] ++ vns (rows.map fun e => e.2.1)))) := same_new hq
        refine ⟨q, (1 :: (rows.map fun e => e.2.1)).map (fun k : Nat => (k : Int)), rfl, SqL.of (by rw [upd_same, List.map_map]; rfl), by rw [List.length_map]; exact Nat.succ_pos _, fun m hmem hub => ?_⟩
        have em : m = ((maxL (rows.map fun e => e.2.1) : Nat) : Int) := by
          obtain ⟨f1, f2⟩ := foldl_max (rows.map fun e => e.2.1) 1
          obtain ⟨y, hy, rfl⟩ := List.mem_map.mp hmem
          have a := f2 y hy
          have b := hub _ (List.mem_map_of_mem (f := fun k : Nat => (k : Int)) f1)
          have b : ((maxL (rows.map fun e => e.2.1) : Nat) : Int) ≤ (y : Int) := b
          have a : y ≤ maxL (rows.map fun e => e.2.1) := a
          omega
        subst em
        have mle : maxL (rows.map fun e => e.2.1) ≤ 15 := maxL_le (by decide) (fun n hn => by
          obtain ⟨e, he, rfl⟩ := List.mem_map.mp hn
          have := (hm e he).2.2
          omega) 1 (by decide)
        have tw := (twos_ok (maxL (rows.map fun e => e.2.1))).2
        refine ⟨_, rfl, _, _, rfl, rfl, Nat.lt_of_lt_of_le (m := 100) (by omega) (by decide), ?_⟩
        exact k _ ((((s1.trans s2).trans s3).trans s4).trans s5)
theorem eqvl_nil {l : List Nat} (h : l ≠ []) : PyData.eqv (.list ((l.map fun k : Nat => (k : Int)).map PyData.int)) (.list []) = false := by
  cases l with
  | nil => exact absurd rfl h
  | cons n ns => rfl
theorem shaped_intsL (ns : List Int) : SeqAt.shaped (.list (ns.map PyData.int)) = true := by
  show (PyData.canLayAll0 (ns.map PyData.int) && decide (PyData.depthAll (ns.map PyData.int) + 1 ≤ 64)) = true
  rw [lay_ints, depth_ints]; rfl
theorem dp_vns {H : Hp} (l : List Nat) : DpAll K H (vns l) ((l.map fun k : Nat => (k : Int)).map PyData.int) := by
  have := dp_ints (K := K) (H := H) (l.map fun k : Nat => (k : Int))
  rw [List.map_map] at this
  exact this
/-- a beat -/
abbrev beat (ring : Bool) (ru : List Int) (n : Nat) : Nat → Nat := byOff ring (wof ring ru n 1) n
theorem beat_lt (ring : Bool) (ru : List Int) (n : Nat) : ∀ v, v < 2 ^ n → beat ring ru n v < 2 ^ n := fun v hv => byOff_lt ring _ hv
def q_row_own_bits (K : PySem.W.Frag) : Sp := fun vs H Q _ => ∃ (ring : Bool) (a : Addr) (ru : List Int) (n b : Nat), vs = [.str (kd ring), .ref a, vn n, vn b] ∧ H a = some (.tup (ru.map V.int)) ∧ ru.length ≤ 1000 ∧ 0 < n ∧ n ≤ 14 ∧ b < 2 ^ n ∧
  ∀ H', Same H H' → Q (vn (ownM (beat ring ru n) n b)) H'
theorem ok_row_own_bits (D : Ok K mg) : FnOk P w K mg base CX0 7 (He.ga K "row_own_bits") (fdA K (He.ga K "row_own_bits")) ["kind", "rule", "size", "bits"] (q_row_own_bits K) := by
  refine D.f_row_own_bits.ok sc_row_own_bits (fun vs H Q E h => ?_) (fun cdv A outer s H vs Q E hr h => ?_)
  · obtain ⟨_, _, _, _, _, rfl, _⟩ := h
    rfl
  · refine ⟨_, PSs.nox (pss_cons (ps_asg (pe_tup (pa_cons (pe_make D.mkr (ok_sp_init D) (hr.mono (by decide)) rfl D.m_Span D.b_sp_init .nil pass0 (pa_cons (pe_lst pa_nil) pa_nil)) (pa_cons (pv 3) (pa_cons pe_int (pa_cons (pe_call (ok_world_offsets D) (hr.mono (by decide)) rfl D.m_world_offsets D.f_world_offsets.kp D.b_world_offsets .nil pass0 (pa_cons (pv 0) (pa_cons (pv 1) (pa_cons (pv 2) (pa_cons pe_int pa_nil))))) pa_nil))))) (pg_tup (by rfl) (pgs_cons (pg_name (i := 4) sc_row_own_bits.nd rfl (.inl rfl)) (pgs_cons (pg_name (i := 5) sc_row_own_bits.nd rfl (.inl rfl)) (pgs_cons (pg_name (i := 6) sc_row_own_bits.nd rfl (.inl rfl)) (pgs_cons (pg_name (i := 7) sc_row_own_bits.nd rfl (.inl rfl)) pgs_nil))))))
  (pss_cons (ps_while PassesOwn.never (pt_cmpR (op_eqD hr.units) (pe_meth0 (pv 4) D.cl D.t_sp_idle (ok_sp_idle D) (hr.mono (by decide)) D.b_sp_idle .nil pass0) (pe_lst pa_nil) (nomark _))
    (pss_cons (ps_expr (pe_meth (pv 4) D.cl D.t_sp_put (ok_sp_put D) (hr.mono (by decide)) D.b_sp_put .nil pass0 (pa_cons (pv 5) (pa_cons (pe_op osl pe_int (pv 6)) pa_nil))))
  (pss_one (ps_par (i := 5) (j := 6) (by rfl) sc_row_own_bits.nd rfl rfl (by decide) rfl rfl (pa_cons (pe_call (ok_by_offsets D) (hr.mono (by decide)) rfl D.m_by_offsets D.f_by_offsets.kp D.b_by_offsets .nil pass0 (pa_cons (pv 0) (pa_cons (pv 7) (pa_cons (pv 2) (pa_cons (pv 5) pa_nil))))) (pa_cons (pe_op oad (pv 6) pe_int) pa_nil)) (by rfl)))))
  (pss_one (ps_ret (pe_ix ix_list (pe_meth0 (pv 4) D.cl D.t_sp_idle (ok_sp_idle D) (hr.mono (by decide)) D.b_sp_idle .nil pass0) pe_int (fun _ _ => rfl)))))), ?_⟩
    obtain ⟨ring, a, ru, n, b, rfl, ha, hlen, h0, h14, hb, k⟩ := h
    refine ⟨Nat.zero_le _, fun t0 ht0 x dx0 hx hdx hne => ?_⟩
    have s0 : Same H (upd H t0 (.lst [])) := same_new ht0
    have hS0 : (upd H t0 (.lst [])) t0 = some (.lst []) := upd_same
    generalize upd H t0 (.lst []) = H0 at s0 hS0 hx hdx
    have sp : Same H0 (upd (upd H0 dx0 (.own x)) x (.ins (cSpan K) dx0 [])) := smut (same_new hdx) hx
    refine ⟨H0, x, dx0, t0, [], rfl, sp, hx, upd_same, slist sp (SqL.of hS0), by decide, fun r hr => (nomatch hr), fun H1 A => ⟨rfl, ?_⟩⟩
    have A := spAt_low s0 A
    have s1 : Same H H1 := A.1
    refine ⟨_, rfl, _, rfl, _, rfl, _, rfl, ring, a, ru, n, 1, rfl, s1 _ _ ha, hlen, h0, h14, fun H3 s3 => ?_⟩
    refine ⟨sz (by show 4 ≤ 100000; decide), fun T hT => ?_⟩
    have s4 : Same H3 (upd H3 T (.tup [.ref x, vn b, .int 0, vn (wof ring ru n 1)])) := same_new hT
    refine ⟨T, _, rfl, SqT.of upd_same, rfl, _, _, rfl, _, _, rfl, _, _, rfl, _, _, rfl, rfl, ?_⟩
    have A4 := (A.mono s3).mono s4
    have hBT := beat_lt ring ru n
    refine ⟨fun m σ H' => ∃ (S : Spn) (here bt : Nat), SpAt K H H' x S ∧ ownF (beat ring ru n) m S here bt = ownM (beat ring ru n) n b ∧ here < 2 ^ n ∧ ((OwnInv (beat ring ru n) n b bt S ∧ here = itr (beat ring ru n) bt b ∧ n + 2 ≤ m + bt) ∨ ∃ g, S.idle = [g]) ∧
        σ = [some (.str (kd ring)), some (.ref a), some (vn n), some (vn b), some (.ref x), some (vn here), some (vn bt), some (vn (wof ring ru n 1))],
      ⟨n + 2, ⟨[], []⟩, b, 0, A4, rfl, hb, .inl ⟨own_nil _ _ _, rfl, Nat.le_refl _⟩, rfl⟩, ?_⟩
    rintro m σ H' ⟨S, here, bt, A, e, hh, hcase, rfl⟩
    obtain ⟨sS, pS, dx, d, l, kvs, hI, _, _⟩ := id A
    refine ⟨_, rfl, x, dx, _, rfl, hI.1, spf_no _ _ (by decide +kernel) (by decide +kernel), x, S, dx, d, l, kvs, rfl, hI, Nat.zero_le _, fun e0 he0 => ?_⟩
    have s5 : Same H' (upd H' e0 (.lst [])) := same_new he0
    refine ⟨_, _, .lst (SqL.of (s5 _ _ hI.2.2.2)) (dp_vns S.idle), .lst (SqL.of upd_same) .nil, shaped_intsL _, rfl, _, rfl, ?_⟩
    by_cases hi : S.idle = []
    · rw [hi]
      refine iteT ?_
      rcases hcase with ⟨O, eh, hm⟩ | ⟨g, hg⟩
      · obtain ⟨f, rfl⟩ : ∃ f, m = f + 1 := ⟨m - 1, by have := O.sp.le; rw [O.len] at this; omega⟩
        have bn : bt ≤ n := by have := O.sp.le; rw [O.len] at this; exact this
        have e : (if S.idle = [] then ownF (beat ring ru n) f (S.put here (1 <<< bt)) (beat ring ru n here) (bt + 1) else S.idle.headD 0) = _ := e
        rw [if_pos hi] at e
        refine ⟨fun σ' H' => ∃ m', m' < f + 1 ∧ ∃ (S : Spn) (here bt : Nat), SpAt K H H' x S ∧ ownF (beat ring ru n) m' S here bt = ownM (beat ring ru n) n b ∧ here < 2 ^ n ∧ ((OwnInv (beat ring ru n) n b bt S ∧ here = itr (beat ring ru n) bt b ∧ n + 2 ≤ m' + bt) ∨ ∃ g, S.idle = [g]) ∧
          σ' = [some (.str (kd ring)), some (.ref a), some (vn n), some (vn b), some (.ref x), some (vn here), some (vn bt), some (vn (wof ring ru n 1))], fun _ _ h => h, ?_⟩
        have hI5 := hI.mono s5
        refine ⟨_, rfl, x, dx, _, rfl, hI5.1, spf_no _ _ (by decide +kernel) (by decide +kernel), _, rfl, _, rfl, 1, bt, rfl, rfl, ⟨by decide, by omega⟩, ?_⟩
        refine ⟨H, x, here, 1 <<< bt, S, rfl, A.mono s5, O.sp.new hh, by rw [hi]; decide, by rw [O.len]; omega, fun H6 A6 => ?_⟩
        refine ⟨_, rfl, _, rfl, _, rfl, _, rfl, ring, _, n, here, rfl, by omega, wof_lt _ _ _ _, hh, fun H7 s7 => ?_⟩
        refine ⟨_, rfl, _, 1, rfl, rfl, _, _, rfl, ?_⟩
        refine ⟨f, Nat.lt_succ_self _, _, _, bt + 1, A6.mono s7, e, hBT _ hh, ?_, rfl⟩
        rcases own_put hBT hb O with O' | ⟨g, hg, _⟩
        · rw [← eh] at O'
          exact .inl ⟨O', by rw [itr_succ, ← eh], by omega⟩
        · rw [← eh] at hg
          exact .inr ⟨g, hg⟩
      · rw [hi] at hg; cases hg
    · rw [eqvl_nil hi]
      refine iteF ?_
      rcases hcase with ⟨O, _, _⟩ | ⟨g, hg⟩
      · exact absurd O.idle hi
      · rw [ownF_stop hg] at e
        have hI5 := hI.mono s5
        refine ⟨_, rfl, x, dx, _, rfl, hI5.1, spf_no _ _ (by decide +kernel) (by decide +kernel), x, S, dx, d, l, kvs, rfl, hI5, l, _, 0, vn g, rfl, rfl, SqL.of hI5.2.2.2, by rw [hg]; rfl, ?_⟩
        rw [← e] at k
        exact k _ (sS.trans s5)
def q_own_bits (K : PySem.W.Frag) : Sp := fun vs H Q _ => ∃ (ring : Bool) (a : Addr) (ru : List Int) (n : Nat), vs = [.str (kd ring), .ref a, vn n] ∧ H a = some (.tup (ru.map V.int)) ∧ ru.length ≤ 1000 ∧ 0 < n ∧ n ≤ 14 ∧
  ∀ H', Same H H' → Q (vn (ownM (beat ring ru n) n 1)) H'
theorem ok_own_bits (D : Ok K mg) : FnOk P w K mg base CX0 8 (He.ga K "own_bits") (fdA K (He.ga K "own_bits")) ["kind", "rule", "size"] (q_own_bits K) := by
  refine D.f_own_bits.ok sc_own_bits (fun vs H Q E h => ?_) (fun cdv A outer s H vs Q E hr h => ?_)
  · obtain ⟨_, _, _, _, rfl, _⟩ := h
    rfl
  · refine ⟨_, PSs.nox (pss_one (ps_ret (pe_call (ok_row_own_bits D) (hr.mono (by decide)) rfl D.m_row_own_bits D.f_row_own_bits.kp D.b_row_own_bits .nil pass0 (pa_cons (pv 0) (pa_cons (pv 1) (pa_cons (pv 2) (pa_cons pe_int pa_nil))))))), ?_⟩
    obtain ⟨ring, a, ru, n, rfl, ha, hlen, h0, h14, k⟩ := h
    exact ⟨_, rfl, _, rfl, _, rfl, ring, a, ru, n, 1, rfl, ha, hlen, h0, h14, Nat.one_lt_two_pow (by omega), k⟩
theorem own_lt {T : Nat → Nat} {n v : Nat} (hT : ∀ v, v < 2 ^ n → T v < 2 ^ n) (hv : v < 2 ^ n) : ownM T n v ≠ 0 ∧ blen (ownM T n v) ≤ n + 1 := by
  obtain ⟨d, hd, m⟩ := own_mn hT hv
  exact ⟨m.ne, blen_le (Nat.lt_of_lt_of_le m.hi (Nat.pow_le_pow_right (by decide) (by omega)))⟩
def q_own (K : PySem.W.Frag) : Sp := fun vs H Q _ => ∃ (ring : Bool) (a : Addr) (ru : List Int) (n : Nat), vs = [.str (kd ring), .ref a, vn n] ∧ H a = some (.tup (ru.map V.int)) ∧ RuleOk ring ru ∧ 0 < n ∧ n ≤ 14 ∧
  ∀ p H', Same H H' → H p = none → H' p = some (.tup (vns (pw (ownM (beat ring ru n) n 1)))) → Q (.ref p) H'
theorem ok_own (D : Ok K mg) : FnOk P w K mg base CX0 9 (He.ga K "own") (fdA K (He.ga K "own")) ["kind", "rule", "size"] (q_own K) := by
  refine D.f_own.ok sc_own (fun vs H Q E h => ?_) (fun cdv A outer s H vs Q E hr h => ?_)
  · obtain ⟨_, _, _, _, rfl, _⟩ := h
    rfl
  · refine ⟨_, PSs.nox (pss_cons (ps_expr (pe_call (ok_check_world D) (hr.mono (by decide)) rfl D.m_check_world D.f_check_world.kp D.b_check_world .nil pass0 (pa_cons (pv 0) (pa_cons (pv 1) pa_nil))))
  (pss_cons (ps_expr (pe_call (ok_check_size D) (hr.mono (by decide)) rfl D.m_check_size D.f_check_size.kp D.b_check_size .nil pass0 (pa_cons (pv 2) (pa_cons (pe_gi rfl D.i_MOST_SIZE) pa_nil))))
  (pss_one (ps_ret (pe_call (ok_powers_of D) (hr.mono (by decide)) rfl D.m_powers_of D.f_powers_of.kp D.b_powers_of .nil pass0 (pa_cons (pe_call (ok_own_bits D) (hr.mono (by decide)) rfl D.m_own_bits D.f_own_bits.kp D.b_own_bits .nil pass0 (pa_cons (pv 0) (pa_cons (pv 1) (pa_cons (pv 2) pa_nil)))) pa_nil)))))), ?_⟩
    obtain ⟨ring, a, ru, n, rfl, ha, R, h0, h14, k⟩ := h
    refine ⟨_, rfl, _, rfl, ring, a, ru, rfl, ha, R, fun H1 s1 => ?_⟩
    refine ⟨_, rfl, _, _, rfl, by omega, by omega, ?_⟩
    refine ⟨_, rfl, _, rfl, _, rfl, ring, a, ru, n, rfl, s1 _ _ ha, R.len, h0, h14, fun H2 s2 => ?_⟩
    obtain ⟨o1, o2⟩ := own_lt (beat_lt ring ru n) (Nat.one_lt_two_pow (by omega : n ≠ 0))
    exact ⟨_, rfl, b64 o2 (by omega), fun p H3 s3 hp hP => k p _ ((s1.trans s2).trans s3) ((s1.trans s2).free hp) hP⟩
end
end K71
end

section
set_option maxHeartbeats 4000000
/-! the walk: loops.py, all but loops -/
namespace K71
open PySem PySem.Spec PyProof.Rows L2 KM RZ
section
variable {P : Program} {w : World} {K : PySem.W.Frag} {mg : Str → Option Value} {base : Heap}
def q_tail_in (K : PySem.W.Frag) : Sp := fun vs H Q _ => ∃ b : Nat, vs = [vn b] ∧ b ≠ 0 ∧ Q (vn (tailM b)) H
theorem ok_tail_in (D : Ok K mg) : FnOk P w K mg base CX0 2 (He.ga K "tail_in") (fdA K (He.ga K "tail_in")) ["bits"] (q_tail_in K) := by
  refine D.f_tail_in.ok sc_tail_in (fun vs H Q E h => ?_) (fun cdv A outer s H vs Q E hr h => ?_)
  · obtain ⟨_, rfl, _⟩ := h
    rfl
  · refine ⟨_, PSs.nox (pss_one (ps_ret (pe_op osz (pe_call (ok_degree_of D) (hr.mono (by decide)) rfl D.m_degree_of D.f_degree_of.kp D.b_degree_of .nil pass0 (pa_cons (pv 0) pa_nil)) (pe_call (ok_degree_of D) (hr.mono (by decide)) rfl D.m_degree_of D.f_degree_of.kp D.b_degree_of .nil pass0 (pa_cons (pe_call (ok_core_bits D) (hr.mono (by decide)) rfl D.m_core_bits D.f_core_bits.kp D.b_core_bits .nil pass0 (pa_cons (pv 0) pa_nil)) pa_nil))))), ?_⟩
    obtain ⟨b, rfl, hb, k⟩ := h
    obtain ⟨c1, c2, c3, c4⟩ := core_ok hb
    refine ⟨_, rfl, b, rfl, _, rfl, b, rfl, hb, _, rfl, _, _, _, rfl, rfl, ?_, k⟩
    show ((blen b : Int) - 1) - ((blen (core b) : Int) - 1) = ((blen b - blen (core b) : Nat) : Int)
    omega
def q_period_in (K : PySem.W.Frag) : Sp := fun vs H Q _ => ∃ b : Nat, vs = [vn b] ∧ b ≠ 0 ∧ blen b ≤ 15 ∧ ∀ H', Same H H' → Q (vn (periodM b)) H'
theorem ok_period_in (D : Ok K mg) : FnOk P w K mg base CX0 8 (He.ga K "period_in") (fdA K (He.ga K "period_in")) ["bits"] (q_period_in K) := by
  refine D.f_period_in.ok sc_period_in (fun vs H Q E h => ?_) (fun cdv A outer s H vs Q E hr h => ?_)
  · obtain ⟨_, rfl, _⟩ := h
    rfl
  · refine ⟨_, PSs.nox (pss_one (ps_ret (pe_call (ok_measure_bits D) (hr.mono (by decide)) rfl D.m_measure_bits D.f_measure_bits.kp D.b_measure_bits .nil pass0 (pa_cons (pe_call (ok_core_bits D) (hr.mono (by decide)) rfl D.m_core_bits D.f_core_bits.kp D.b_core_bits .nil pass0 (pa_cons (pv 0) pa_nil)) pa_nil)))), ?_⟩
    obtain ⟨b, rfl, hb, h15, k⟩ := h
    obtain ⟨c1, c2, c3, c4⟩ := core_ok hb
    exact ⟨_, rfl, b, rfl, hb, _, rfl, c2, by omega, k⟩
def q_row_own (K : PySem.W.Frag) : Sp := fun vs H Q _ => ∃ (ring : Bool) (a : Addr) (ru : List Int) (n b : Nat), vs = [.str (kd ring), .ref a, .str (txt b n)] ∧ H a = some (.tup (ru.map V.int)) ∧ RuleOk ring ru ∧ 0 < n ∧ n ≤ 14 ∧ b < 2 ^ n ∧
  ∀ H', Same H H' → Q (vn (ownM (beat ring ru n) n b)) H'
theorem ok_row_own (D : Ok K mg) : FnOk P w K mg base CX0 8 (He.ga K "row_own") (fdA K (He.ga K "row_own")) ["kind", "rule", "row"] (q_row_own K) := by
  refine D.f_row_own.ok sc_row_own (fun vs H Q E h => ?_) (fun cdv A outer s H vs Q E hr h => ?_)
  · obtain ⟨_, _, _, _, _, rfl, _⟩ := h
    rfl
  · refine ⟨_, PSs.nox (pss_cons (ps_expr (pe_call (ok_check_world D) (hr.mono (by decide)) rfl D.m_check_world D.f_check_world.kp D.b_check_world .nil pass0 (pa_cons (pv 0) (pa_cons (pv 1) pa_nil))))
  (pss_cons (ps_expr (pe_call (ok_check_row D) (hr.mono (by decide)) rfl D.m_check_row D.f_check_row.kp D.b_check_row .nil pass0 (pa_cons (pv 2) pa_nil)))
  (pss_one (ps_ret (pe_call (ok_row_own_bits D) (hr.mono (by decide)) rfl D.m_row_own_bits D.f_row_own_bits.kp D.b_row_own_bits .nil pass0 (pa_cons (pv 0) (pa_cons (pv 1) (pa_cons (pe_callB call_len_str (by rfl) D.z_len (by decide +kernel) (pa_cons (pv 2) pa_nil)) (pa_cons (pe_call (ok_row_bits D) (hr.mono (by decide)) rfl D.m_row_bits D.f_row_bits.kp D.b_row_bits .nil pass0 (pa_cons (pv 2) pa_nil)) pa_nil))))))))), ?_⟩
    obtain ⟨ring, a, ru, n, b, rfl, ha, R, h0, h14, hb, k⟩ := h
    have ln : ((txt b n).length : Int) = (n : Int) := by rw [txt_len]
    refine ⟨_, rfl, _, rfl, ring, a, ru, rfl, ha, R, fun H1 s1 => ?_⟩
    refine ⟨_, rfl, b, n, rfl, h0, by omega, fun H2 s2 => ?_⟩
    have s12 := s1.trans s2
    refine ⟨_, rfl, _, rfl, _, rfl, _, rfl, sz (by rw [txt_len]; omega), _, rfl, b, n, rfl, by omega, hb, fun H3 s3 => ?_⟩
    exact ⟨ring, a, ru, n, b, by rw [ln]; rfl, (s12.trans s3) _ _ ha, R.len, h0, h14, hb, fun H4 s4 => k _ ((s12.trans s3).trans s4)⟩
def q_size_own (K : PySem.W.Frag) : Sp := fun vs H Q _ => ∃ (ring : Bool) (a : Addr) (ru : List Int) (n : Nat), vs = [.str (kd ring), .ref a, vn n] ∧ H a = some (.tup (ru.map V.int)) ∧ RuleOk ring ru ∧ 0 < n ∧ n ≤ 14 ∧
  ∀ H', Same H H' → Q (vn (ownM (beat ring ru n) n 1)) H'
theorem ok_size_own (D : Ok K mg) : FnOk P w K mg base CX0 9 (He.ga K "size_own") (fdA K (He.ga K "size_own")) ["kind", "rule", "size"] (q_size_own K) := by
  refine D.f_size_own.ok sc_size_own (fun vs H Q E h => ?_) (fun cdv A outer s H vs Q E hr h => ?_)
  · obtain ⟨_, _, _, _, rfl, _⟩ := h
    rfl
  · refine ⟨_, PSs.nox (pss_cons (ps_expr (pe_call (ok_check_world D) (hr.mono (by decide)) rfl D.m_check_world D.f_check_world.kp D.b_check_world .nil pass0 (pa_cons (pv 0) (pa_cons (pv 1) pa_nil))))
  (pss_cons (ps_expr (pe_call (ok_check_size D) (hr.mono (by decide)) rfl D.m_check_size D.f_check_size.kp D.b_check_size .nil pass0 (pa_cons (pv 2) (pa_cons (pe_gi rfl D.i_MOST_SIZE) pa_nil))))
  (pss_one (ps_ret (pe_call (ok_own_bits D) (hr.mono (by decide)) rfl D.m_own_bits D.f_own_bits.kp D.b_own_bits .nil pass0 (pa_cons (pv 0) (pa_cons (pv 1) (pa_cons (pv 2) pa_nil)))))))), ?_⟩
    obtain ⟨ring, a, ru, n, rfl, ha, R, h0, h14, k⟩ := h
    refine ⟨_, rfl, _, rfl, ring, a, ru, rfl, ha, R, fun H1 s1 => ?_⟩
    refine ⟨_, rfl, _, _, rfl, by omega, by omega, ?_⟩
    exact ⟨_, rfl, _, rfl, _, rfl, ring, a, ru, n, rfl, s1 _ _ ha, R.len, h0, h14, fun H2 s2 => k _ (s1.trans s2)⟩
def q_tail (K : PySem.W.Frag) : Sp := fun vs H Q _ => ∃ (ring : Bool) (a : Addr) (ru : List Int) (n b : Nat), vs = [.str (kd ring), .ref a, .str (txt b n)] ∧ H a = some (.tup (ru.map V.int)) ∧ RuleOk ring ru ∧ 0 < n ∧ n ≤ 14 ∧ b < 2 ^ n ∧
  ∀ H', Same H H' → Q (vn (tailM (ownM (beat ring ru n) n b))) H'
theorem ok_tail (D : Ok K mg) : FnOk P w K mg base CX0 9 (He.ga K "tail") (fdA K (He.ga K "tail")) ["kind", "rule", "row"] (q_tail K) := by
  refine D.f_tail.ok sc_tail (fun vs H Q E h => ?_) (fun cdv A outer s H vs Q E hr h => ?_)
  · obtain ⟨_, _, _, _, _, rfl, _⟩ := h
    rfl
  · refine ⟨_, PSs.nox (pss_one (ps_ret (pe_call (ok_tail_in D) (hr.mono (by decide)) rfl D.m_tail_in D.f_tail_in.kp D.b_tail_in .nil pass0 (pa_cons (pe_call (ok_row_own D) (hr.mono (by decide)) rfl D.m_row_own D.f_row_own.kp D.b_row_own .nil pass0 (pa_cons (pv 0) (pa_cons (pv 1) (pa_cons (pv 2) pa_nil)))) pa_nil)))), ?_⟩
    obtain ⟨ring, a, ru, n, b, rfl, ha, R, h0, h14, hb, k⟩ := h
    refine ⟨_, rfl, _, rfl, _, rfl, ring, a, ru, n, b, rfl, ha, R, h0, h14, hb, fun H1 s1 => ?_⟩
    exact ⟨_, rfl, (own_lt (beat_lt ring ru n) hb).1, k _ s1⟩
def q_period (K : PySem.W.Frag) : Sp := fun vs H Q _ => ∃ (ring : Bool) (a : Addr) (ru : List Int) (n b : Nat), vs = [.str (kd ring), .ref a, .str (txt b n)] ∧ H a = some (.tup (ru.map V.int)) ∧ RuleOk ring ru ∧ 0 < n ∧ n ≤ 14 ∧ b < 2 ^ n ∧
  ∀ H', Same H H' → Q (vn (periodM (ownM (beat ring ru n) n b))) H'
theorem ok_period (D : Ok K mg) : FnOk P w K mg base CX0 9 (He.ga K "period") (fdA K (He.ga K "period")) ["kind", "rule", "row"] (q_period K) := by
  refine D.f_period.ok sc_period (fun vs H Q E h => ?_) (fun cdv A outer s H vs Q E hr h => ?_)
  · obtain ⟨_, _, _, _, _, rfl, _⟩ := h
    rfl
  · refine ⟨_, PSs.nox (pss_one (ps_ret (pe_call (ok_period_in D) (hr.mono (by decide)) rfl D.m_period_in D.f_period_in.kp D.b_period_in .nil pass0 (pa_cons (pe_call (ok_row_own D) (hr.mono (by decide)) rfl D.m_row_own D.f_row_own.kp D.b_row_own .nil pass0 (pa_cons (pv 0) (pa_cons (pv 1) (pa_cons (pv 2) pa_nil)))) pa_nil)))), ?_⟩
    obtain ⟨ring, a, ru, n, b, rfl, ha, R, h0, h14, hb, k⟩ := h
    refine ⟨_, rfl, _, rfl, _, rfl, ring, a, ru, n, b, rfl, ha, R, h0, h14, hb, fun H1 s1 => ?_⟩
    obtain ⟨o1, o2⟩ := own_lt (beat_lt ring ru n) hb
    exact ⟨_, rfl, o1, by omega, fun H2 s2 => k _ (s1.trans s2)⟩
def q_tails (K : PySem.W.Frag) : Sp := fun vs H Q _ => ∃ (ring : Bool) (a : Addr) (ru : List Int) (n : Nat), vs = [.str (kd ring), .ref a, vn n] ∧ H a = some (.tup (ru.map V.int)) ∧ RuleOk ring ru ∧ 0 < n ∧ n ≤ 14 ∧
  ∀ H', Same H H' → Q (vn (tailM (ownM (beat ring ru n) n 1))) H'
theorem ok_tails (D : Ok K mg) : FnOk P w K mg base CX0 10 (He.ga K "tails") (fdA K (He.ga K "tails")) ["kind", "rule", "size"] (q_tails K) := by
  refine D.f_tails.ok sc_tails (fun vs H Q E h => ?_) (fun cdv A outer s H vs Q E hr h => ?_)
  · obtain ⟨_, _, _, _, rfl, _⟩ := h
    rfl
  · refine ⟨_, PSs.nox (pss_one (ps_ret (pe_call (ok_tail_in D) (hr.mono (by decide)) rfl D.m_tail_in D.f_tail_in.kp D.b_tail_in .nil pass0 (pa_cons (pe_call (ok_size_own D) (hr.mono (by decide)) rfl D.m_size_own D.f_size_own.kp D.b_size_own .nil pass0 (pa_cons (pv 0) (pa_cons (pv 1) (pa_cons (pv 2) pa_nil)))) pa_nil)))), ?_⟩
    obtain ⟨ring, a, ru, n, rfl, ha, R, h0, h14, k⟩ := h
    refine ⟨_, rfl, _, rfl, _, rfl, ring, a, ru, n, rfl, ha, R, h0, h14, fun H1 s1 => ?_⟩
    exact ⟨_, rfl, (own_lt (beat_lt ring ru n) (Nat.one_lt_two_pow (by omega : n ≠ 0))).1, k _ s1⟩
theorem zip_at {l : List Nat} {i r : Nat} (h : l[i]? = some r) : l.zipIdx[i]? = some (r, i) := by
  rw [List.getElem?_zipIdx, h]; simp
theorem turned_lt {n : Nat} {cl : List Nat} (hl : cl.length = n) (hc : ∀ r ∈ cl, r < 2 ^ n) : ∀ r ∈ cl.zipIdx.map (fun e => e.1 ^^^ (1 <<< e.2)), r < 2 ^ n := fun r hr => by
  obtain ⟨e, he, rfl⟩ := List.mem_map.mp hr
  obtain ⟨h1, h2, h3⟩ := List.mem_zipIdx he
  refine Nat.xor_lt_two_pow (hc _ ?_) (by rw [one_shl]; exact Nat.pow_lt_pow_of_lt (by decide) (by omega))
  rw [h3]
  exact List.getElem_mem _
def q_same_again (K : PySem.W.Frag) : Sp := fun vs H Q _ => ∃ (ring : Bool) (a : Addr) (ru : List Int) (n t : Nat), vs = [.str (kd ring), .ref a, vn n, vn t] ∧ H a = some (.tup (ru.map V.int)) ∧ ru.length ≤ 1000 ∧ 0 < n ∧ n ≤ 14 ∧
  ∀ H', Same H H' → Q (vn (sameM ring (onceM ru (wd ring n)) n t)) H'
theorem ok_same_again (D : Ok K mg) : FnOk P w K mg base CX0 8 (He.ga K "same_again") (fdA K (He.ga K "same_again")) ["kind", "rule", "size", "beats"] (q_same_again K) := by
  refine D.f_same_again.ok sc_same_again (fun vs H Q E h => ?_) (fun cdv A outer s H vs Q E hr h => ?_)
  · obtain ⟨_, _, _, _, _, rfl, _⟩ := h
    rfl
  · refine ⟨_, PSs.nox (pss_cons (ps_set (i := 4) sc_same_again.nd rfl (.inl rfl) (pe_call (ok_beat_power D) (hr.mono (by decide)) rfl D.m_beat_power D.f_beat_power.kp D.b_beat_power .nil pass0 (pa_cons (pv 0) (pa_cons (pv 1) (pa_cons (pv 2) (pa_cons (pv 3) pa_nil))))))
  (pss_cons (ps_setLc (i := 5) (own := [("column", 6), ("place", 7)]) (g := gTup K 2 (gCons (gName 7) (gCons (gName 6) gNil))) (by rfl) sc_same_again.nd rfl rfl (sw_true rfl rfl rfl (by decide +kernel)) (pi_enum (by rfl) D.z_enumerate (pa_cons (pv 4) pa_nil)) (blkOk_by (own := [("column", 6), ("place", 7)]) (N := ["kind", "rule", "size", "beats", "columns", "turned", "column", "place"]) (sc := defScope s_same_again) (by decide +kernel)) (fun _ _ _ _ _ => (pg_tup (by rfl) (pgs_cons (pg_name (i := 7) sc_same_again.nd rfl (.inl rfl)) (pgs_cons (pg_name (i := 6) sc_same_again.nd rfl (.inl rfl)) pgs_nil)))) (fun _ _ _ _ _ => pts_nil) (fun _ _ _ _ _ => (pe_op ox (pv 6) (pe_op osl pe_int (pv 7)))))
  (pss_one (ps_ret (pe_op osl pe_int (pe_op osb (pv 2) (pe_meth0 (pe_make D.mkr (ok_sp_init D) (hr.mono (by decide)) rfl D.m_Span D.b_sp_init .nil pass0 (pa_cons (pv 5) pa_nil)) D.cl D.t_sp_amount (ok_sp_amount D) (hr.mono (by decide)) D.b_sp_amount .nil pass0))))))), ?_⟩
    obtain ⟨ring, a, ru, n, t, rfl, ha, hlen, h0, h14, k⟩ := h
    refine ⟨_, rfl, _, rfl, _, rfl, _, rfl, ring, a, ru, n, t, rfl, ha, hlen, h0, h14, fun L H1 s1 hL hT => ?_⟩
    have hcl := cols_len ring (onceM ru (wd ring n)) n t
    have hct := cols_lt ring (onceM ru (wd ring n)) n t
    unfold sameM at k
    generalize cols ring (onceM ru (wd ring n)) n t = cl at hT hcl hct k
    refine ⟨_, rfl, L, _, rfl, SqL.of hT, fun D1 hD1 => lc_it (walk_enum (xs := vns cl)) (fun i H' => Same H1 H' ∧ H' D1 = some (.lst (vns ((cl.zipIdx.take i).map fun e => e.1 ^^^ (1 <<< e.2))))) ⟨same_new hD1, upd_same⟩ (fun i H' _ h => slist h.1 (SqL.of hT)) ?_ ?_⟩
    · rintro i x H2 H3 hi ⟨s2, h2⟩ ⟨T, x2, x3, rfl, nT, rfl, e2, e3⟩
      cases e2
      obtain ⟨r, er, rfl⟩ := vns_at e3
      rw [vns_len, hcl] at hi
      have nDT : D1 ≠ T := ne_of_none h2 nT
      refine ⟨T, _, rfl, SqT.of upd_same, rfl, _, _, rfl, _, _, rfl, rfl, rfl, ?_⟩
      refine ⟨_, rfl, _, rfl, 1, i, rfl, rfl, ⟨by decide, by omega⟩, _, _, rfl, rfl, ?_⟩
      refine ⟨_, Eq.trans (upd_ne nDT) h2, szl ?_, smut (snew s2 nT) hD1, ?_⟩
      · rw [vns_len, List.length_map, List.length_take, List.length_zipIdx]; omega
      · rw [upd_same, take_succ (zip_at er), List.map_append, vns, vns, List.map_append]; rfl
    · rintro H2 ⟨s2, h2⟩
      have hf : cl.zipIdx.take (vns cl).length = cl.zipIdx := List.take_of_length_le (by rw [List.length_zipIdx, vns_len]; exact Nat.le_refl _)
      rw [hf] at h2
      have hlt := turned_lt hcl hct
      have hln : (cl.zipIdx.map fun e => e.1 ^^^ (1 <<< e.2)).length = n := by rw [List.length_map, List.length_zipIdx, hcl]
      generalize (cl.zipIdx.map fun e => e.1 ^^^ (1 <<< e.2)) = rows at h2 hlt hln k
      refine ⟨_, rfl, _, rfl, fun p dx0 hp hdx hne => ?_⟩
      have sp : Same H2 (upd (upd H2 dx0 (.own p)) p (.ins (cSpan K) dx0 [])) := smut (same_new hdx) hp
      refine ⟨H2, p, dx0, D1, rows, rfl, sp, hp, upd_same, slist sp (SqL.of h2), by omega, l64 (n := n) (by omega) hlt, fun H3 A => ⟨rfl, ?_⟩⟩
      obtain ⟨s3, p0, dx, d, l, kvs, hI, _, _⟩ := A
      have le := (span_pre hlt).le
      refine ⟨p, dx, _, rfl, hI.1, spf_no _ _ (by decide +kernel) (by decide +kernel), p, _, dx, d, l, kvs, rfl, hI, ?_⟩
      refine ⟨n, _, rfl, rfl, le, 1, _, rfl, rfl, ⟨by decide, by omega⟩, ?_⟩
      exact k _ ((s1.trans s2).trans s3)
def q_comes_to (K : PySem.W.Frag) : Sp := fun vs H Q _ => ∃ (ring : Bool) (a : Addr) (ru : List Int) (n b c t : Nat), vs = [.str (kd ring), .ref a, .str (txt b n), .str (txt c n)] ∧ H a = some (.tup (ru.map V.int)) ∧ RuleOk ring ru ∧ 0 < n ∧ n ≤ 14 ∧ b < 2 ^ n ∧ c < 2 ^ n ∧
  tailM (ownM (beat ring ru n) n b) + periodM (ownM (beat ring ru n) n b) ≤ 4096 ∧ t < tailM (ownM (beat ring ru n) n b) + periodM (ownM (beat ring ru n) n b) ∧ itr (beat ring ru n) t b = c ∧ (∀ j, j < t → itr (beat ring ru n) j b ≠ c) ∧
  ∀ H', Same H H' → Q (vn t) H'
theorem ok_comes_to (D : Ok K mg) : FnOk P w K mg base CX0 9 (He.ga K "comes_to") (fdA K (He.ga K "comes_to")) ["kind", "rule", "one", "other"] (q_comes_to K) := by
  refine D.f_comes_to.ok sc_comes_to (fun vs H Q E h => ?_) (fun cdv A outer s H vs Q E hr h => ?_)
  · obtain ⟨_, _, _, _, _, _, _, rfl, _⟩ := h
    rfl
  · refine ⟨_, PSs.nox (pss_cons (ps_set (i := 4) sc_comes_to.nd rfl (.inl rfl) (pe_call (ok_row_own D) (hr.mono (by decide)) rfl D.m_row_own D.f_row_own.kp D.b_row_own .nil pass0 (pa_cons (pv 0) (pa_cons (pv 1) (pa_cons (pv 2) pa_nil)))))
  (pss_cons (ps_expr (pe_call (ok_check_row D) (hr.mono (by decide)) rfl D.m_check_row D.f_check_row.kp D.b_check_row .nil pass0 (pa_cons (pv 3) pa_nil)))
  (pss_cons (ps_if (pt_cmpR op_ne (pe_callB call_len_str (by rfl) D.z_len (by decide +kernel) (pa_cons (pv 3) pa_nil)) (pe_callB call_len_str (by rfl) D.z_len (by decide +kernel) (pa_cons (pv 2) pa_nil)) (nomark _)) (pss_one ps_never) pss_nil)
  (pss_cons (ps_set (i := 5) sc_comes_to.nd rfl (.inl rfl) (pe_op oad (pe_call (ok_tail_in D) (hr.mono (by decide)) rfl D.m_tail_in D.f_tail_in.kp D.b_tail_in .nil pass0 (pa_cons (pv 4) pa_nil)) (pe_call (ok_period_in D) (hr.mono (by decide)) rfl D.m_period_in D.f_period_in.kp D.b_period_in .nil pass0 (pa_cons (pv 4) pa_nil))))
  (pss_cons (ps_if (pt_cmpR op_gt (pv 5) (pe_gi rfl D.i_MOST_TURNS) (nomark _)) (pss_one ps_never) pss_nil)
  (pss_cons (ps_par3 (i := 6) (j := 7) (l := 8) (by rfl) sc_comes_to.nd rfl rfl rfl (by decide) (by decide) (by decide) rfl rfl rfl (pa_cons (pe_call (ok_row_bits D) (hr.mono (by decide)) rfl D.m_row_bits D.f_row_bits.kp D.b_row_bits .nil pass0 (pa_cons (pv 2) pa_nil)) (pa_cons (pe_call (ok_row_bits D) (hr.mono (by decide)) rfl D.m_row_bits D.f_row_bits.kp D.b_row_bits .nil pass0 (pa_cons (pv 3) pa_nil)) (pa_cons (pe_call (ok_world_offsets D) (hr.mono (by decide)) rfl D.m_world_offsets D.f_world_offsets.kp D.b_world_offsets .nil pass0 (pa_cons (pv 0) (pa_cons (pv 1) (pa_cons (pe_callB call_len_str (by rfl) D.z_len (by decide +kernel) (pa_cons (pv 2) pa_nil)) (pa_cons pe_int pa_nil))))) pa_nil))) (by rfl))
  (pss_cons (ps_for PassesOwn.never rfl (pi_range1 (by rfl) D.z_range (pa_cons (pv 5) pa_nil)) (pg_name (i := 9) sc_comes_to.nd rfl (.inl rfl))
    (pss_cons (ps_if (pt_cmpR op_eq (pv 6) (pv 7) (nomark _)) (pss_one (ps_ret (pv 9))) pss_nil)
  (pss_one (ps_set (i := 6) sc_comes_to.nd rfl (.inl rfl) (pe_call (ok_by_offsets D) (hr.mono (by decide)) rfl D.m_by_offsets D.f_by_offsets.kp D.b_by_offsets .nil pass0 (pa_cons (pv 0) (pa_cons (pv 8) (pa_cons (pe_callB call_len_str (by rfl) D.z_len (by decide +kernel) (pa_cons (pv 2) pa_nil)) (pa_cons (pv 6) pa_nil)))))))))
  (pss_one (ps_ret pe_non))))))))), ?_⟩
    obtain ⟨ring, a, ru, n, b, c, t, rfl, ha, R, h0, h14, hb, hc, h4k, ht, e1, e2, k⟩ := h
    have ln : ((txt b n).length : Int) = (n : Int) := by rw [txt_len]
    have lc : ((txt c n).length : Int) = (n : Int) := by rw [txt_len]
    obtain ⟨o1, o2⟩ := own_lt (beat_lt ring ru n) hb
    refine ⟨_, rfl, _, rfl, _, rfl, ring, a, ru, n, b, rfl, ha, R, h0, h14, hb, fun H1 s1 => ?_⟩
    generalize ownM (beat ring ru n) n b = o at h4k ht o1 o2
    refine ⟨_, rfl, c, n, rfl, h0, by omega, fun H2 s2 => ?_⟩
    have s12 := s1.trans s2
    refine ⟨_, rfl, _, rfl, sz (by rw [txt_len]; omega), _, rfl, _, rfl, sz (by rw [txt_len]; omega), rfl, _, rfl, ?_⟩
    rw [ln, lc]
    refine itNe (fun q => absurd rfl q) (fun _ => ?_)
    refine ⟨_, rfl, o, rfl, o1, _, rfl, o, rfl, o1, by omega, fun H3 s3 => ?_⟩
    have s13 := s12.trans s3
    refine ⟨_, _, rfl, rfl, _, rfl, _, _, rfl, rfl, _, rfl, ?_⟩
    refine itI (fun q => by omega) (fun _ => ?_)
    refine ⟨_, rfl, b, n, rfl, by omega, hb, fun H4 s4 => ?_⟩
    refine ⟨_, rfl, c, n, rfl, by omega, hc, fun H5 s5 => ?_⟩
    have s15 := (s13.trans s4).trans s5
    refine ⟨_, rfl, _, rfl, _, rfl, _, rfl, sz (by rw [txt_len]; omega), ring, a, ru, n, 1, by rw [ln]; rfl, s15 _ _ ha, R.len, h0, h14, fun H6 s6 => ?_⟩
    have s16 := s15.trans s6
    refine ⟨_, _, _, rfl, ?_⟩
    refine ⟨_, rfl, _, rfl, by omega, by omega, ?_⟩
    rw [Int.toNat_natCast]
    have hB := beat_lt ring ru n
    refine for_it walk_range (fun i σ H' => ∃ y9, Same H H' ∧ i ≤ t ∧ itr (beat ring ru n) i b < 2 ^ n ∧ σ = [some (.str (kd ring)), some (.ref a), some (.str (txt b n)), some (.str (txt c n)), some (vn o), some (vn (tailM o + periodM o)), some (vn (itr (beat ring ru n) i b)), some (vn c), some (vn (wof ring ru n 1)), y9])
      ⟨none, s16, Nat.zero_le _, hb, rfl⟩ (fun _ _ _ _ _ => trivial) ?_ ?_
    · rintro i x σ H7 H8 hi ⟨y9, s7, hit, hlt, rfl⟩ ⟨eH, rfl⟩
      subst eH
      refine ⟨_, rfl, _, rfl, rfl, _, rfl, ?_⟩
      refine itE (fun q => ?_) (fun q => ?_)
      · have et : i = t := by
          rcases Nat.lt_or_ge i t with z | z
          · exact absurd q (e2 i z)
          · omega
        subst et
        refine ⟨_, rfl, ?_⟩
        have ei : (0 : Int) + (i : Int) = (i : Int) := Int.zero_add _
        show Q (V.int (0 + (i : Int))) _
        rw [ei]
        exact k _ s7
      · have it' : i < t := by
          rcases Nat.lt_or_ge i t with z | z
          · exact z
          · exact absurd e1 (by rw [show t = i by omega]; exact q)
        refine ⟨_, rfl, _, rfl, _, rfl, _, rfl, sz (by rw [txt_len]; omega), _, rfl, ring, _, n, _, by rw [ln]; rfl, by omega, wof_lt _ _ _ _, hlt, fun H9 s9 => ?_⟩
        exact ⟨some (.int (0 + (i : Int))), s7.trans s9, it', by rw [itr_succ]; exact hB _ hlt, by rw [itr_succ]; rfl⟩
    · rintro σ H7 ⟨y9, s7, hit, _, _⟩
      omega
end
end K71
end

section
set_option maxHeartbeats 4000000
/-! a rule that the layer lacks: set(list of ints) -/
namespace K71
open PySem PySem.Spec PyProof.Rows L2
/-- the empty set's object, as a call of set makes it -/
abbrev voidSet (w : World) : Obj := { cls := .type "set", dict := none, data := .set #[] 0 (.fresh 0 0 (!w.params.followText "set-order")) }
section
variable {P : Program} {w : World} {A : Around} {E : Value → Shared → Prop} {s : Shared}
theorem set_of_list {l : Addr} {its : Array Value} (ns : List Int) {Q : Value → Shared → Prop} (calm : A.handled = none) (hl : s.heap.IsList l its) (hit : IntsAre its.toList ns) (room : ns.length + 1 < scanBound)
    (fin : ∀ (h' : Heap) (tk c : Nat), SetR w h' s.heap.objs.size (fun j => decide (j ∈ ns)) c → c ≤ ns.length → (∀ b o, s.heap.get? b = some o → h'.get? b = some o) → Q (.ref s.heap.objs.size) { s with heap := h', toks := tk }) :
    wpAny (model P w) A (call (.type "set") [.ref l]) Q E s := by
  have sizes : its.size = ns.length := by rw [← Array.length_toList]; exact IntsAre.length hit
  obtain ⟨c, tl, hmro⟩ := F.called_set.mro
  have hmade := F.called_set.made
  have hsub := F.called_set.sub
  have h1 := F.called_set.notType
  have h2 := F.called_set.canCreate
  have hct := F.typeCall_set_1 (.ref l)
  refine wpAny_call (codeAny_of_tree ?_)
  show wpAny _ _ (callAny (.type "set") _) _ _ _
  refine wpAny_pure ⟨Code.quiet_builtin _ (by decide +kernel), codeAny_builtin F.entry_type_call ?_⟩
  rw [Around.under_plain (weight_type_call_type "set" [.ref l] []) rfl]
  repeat (any_goals (first | assumption | wp_step))
  refine codeAny_mono (code_set_led1 (.ref l) (E := E) (Q₁ := fun o1 s1 => o1 = .ref s.heap.objs.size ∧ s1 = { s with heap := s.heap.push (voidSet w) }) ⟨rfl, rfl⟩) fun r1 s1 q1 => ?_
  cases r1 with
  | error e => exact q1
  | ok f1 =>
    cases f1 with
    | ret o1 =>
      obtain ⟨rfl, rfl⟩ := q1
      have new : (s.heap.push (voidSet w)).get? s.heap.objs.size = some (voidSet w) := Heap.get?_push_size _ rfl
      have ty : Shared.TypeIs { s with heap := s.heap.push (voidSet w) } (.ref s.heap.objs.size) "set" := ⟨_, new, rfl⟩
      have hli := F.called_set.init.lookup
      have hbi := F.called_set.init.bind (.ref s.heap.objs.size)
      repeat (any_goals (first | assumption | wp_step))
      refine codeAny_mono (codeAny_call_builtin (R := wants (fun r s2 => r = .none ∧ ∃ h' tk c, s2 = { s with heap := h', toks := tk } ∧ SetR w h' s.heap.objs.size (fun j => decide (j ∈ ns)) c ∧ c ≤ ns.length ∧
          (∀ b o, s.heap.get? b = some o → h'.get? b = some o)) E) F.called_set.init.plain F.entry_set_init (check_set_init_1 ty ?_)) fun r2 s2 q2 => ?_
      · obtain ⟨⟨oc, od, dat, osl⟩, hol, e1, nl, e2⟩ := hl
        simp only at e1 e2
        subst e1 e2
        have hol' : (s.heap.push (voidSet w)).get? l = some { cls := .type "list", dict := od, data := .seq its nl, slots := osl } := Heap.get?_push_of_some _ hol
        have z1 := F.sub_list_set
        have z2 := F.sub_list_frozenset
        have z3 : (Value.type "list" == Value.type "dict") = false := by decide
        have hl1 : (s.heap.push (voidSet w)).IsList l its := ⟨_, hol', rfl, nl, rfl⟩
        unfold Builtin.«set.__init__» noKeywords Builtin.Frozenset.updateFrom
        generalize hPI : pyIter = PI
        wp_walk
        subst hPI
        refine wpAny_pyIter_list hl1 (wpAny_bind (wpAny_runValue ?_))
        have lt : l < s.heap.objs.size := Heap.lt_size hol
        have ez : (s.heap.push (voidSet w)).objs.size = s.heap.objs.size + 1 := Heap.size_push ..
        have ne1 : l ≠ (s.heap.push (voidSet w)).objs.size := by rw [ez]; exact Nat.ne_of_lt (Nat.lt_succ_of_lt lt)
        have out : s.heap.objs.size ∉ [(s.heap.push (voidSet w)).objs.size, l] := by
          rw [ez]
          simp only [List.mem_cons, List.mem_singleton, List.not_mem_nil, or_false, not_or]
          exact ⟨Nat.ne_of_lt (Nat.lt_succ_self _), Nat.ne_of_gt lt⟩
        have vals : ∀ (i : Nat) (v : Value), its[i]? = some v → ∃ k t, ns[i]? = some k ∧ v = .int k t := fun i v hv => by
          have hi : i < ns.length := by rw [← sizes]; exact (Array.getElem?_eq_some_iff.mp hv).1
          obtain ⟨t, e⟩ := PyProof.Rows.IntsAre.int_at hit i v (by rw [Array.getElem?_toList]; exact hv)
          refine ⟨ns[i], t, List.getElem?_eq_getElem hi, ?_⟩
          rw [e, List.getD_eq_getElem?_getD, List.getElem?_eq_getElem hi] <;> rfl
        have calm3 : A.in1.in1.in1.handled = none := by simp [calm]
        refine set_update_ints ((Walks.list calm3 _ l ne1 its).toS) s.heap.objs.size out ns sizes room vals (its.size - 0) 0 _ (by omega) (Nat.zero_le _)
          ⟨⟨_, Heap.get?_push_size _ rfl, rfl, rfl⟩, (hl1.push _)⟩ ⟨0, Nat.le_refl 0, setR_new_at (Heap.get?_push_of_some _ new)⟩ ?_
        rintro ⟨h', g2, d', tk', os'⟩ c' hm hc' hS'
        have eg : g2 = s.gens := hm.gens
        have ed : d' = s.drawn := hm.drawn
        have eo : os' = s.os := hm.os
        subst eg ed eo
        show wpAny _ _ _ _ _ _
        refine wpAny_pure ?_
        show wpAny _ _ (ret Value.none) _ _ _
        refine wpAny_pure ⟨rfl, h', tk', c', rfl, hS', by omega, fun b o e => ?_⟩
        have b0 : b < s.heap.objs.size := Heap.lt_size e
        refine hm.heap b o ?_ (Heap.get?_push_of_some _ (Heap.get?_push_of_some _ e))
        simp only [List.mem_cons, List.mem_singleton, List.not_mem_nil, or_false, not_or]
        exact ⟨Nat.ne_of_lt b0, by rw [ez]; exact Nat.ne_of_lt (Nat.lt_succ_of_lt b0)⟩
      · cases r2 with
        | error e => exact q2
        | ok f2 =>
          cases f2 with
          | ret r =>
            obtain ⟨rfl, h', tk, c', rfl, hS', hc', hk'⟩ := q2
            repeat (any_goals (first | assumption | wp_step))
            exact fin _ _ _ hS' hc' hk'
          | _ => exact q2.elim
    | _ => exact q1.elim
end
def rSetL (K : PySem.W.Frag) (w : World) : List V → Hp → VK → Prop := fun xs H Q => ∃ (a : Addr) (ns : List Int), xs = [.ref a] ∧ SqL K H a (ns.map V.int) ∧ ns.length ≤ 1000 ∧
  ∀ p c, H p = none → c ≤ ns.length → Q (.ref p) (upd H p (SetO w p (fun j => decide (j ∈ ns)) c))
theorem cr_setL {X : Cx} (hc : X.calm = true) : CallR X (.type "set") (rSetL X.K X.w) := by
  intro pins s σ H xs us Q I r ⟨a, ns, ex, hS, h1k, q⟩
  subst ex
  rw [Vals.ref1 r]
  obtain ⟨its, rv, hl, hz⟩ := I.list hS
  have sb : (1002 : Nat) < scanBound := by decide +kernel
  refine set_of_list ns (I.ok.hd hc) hl.isList (ints_of_vals rv) (by omega) fun h' tk c R hc' keep => ?_
  exact ⟨.ref _, _, I.laid (t' := tk) keep (Nat.le_refl _) (setO_new R), rfl, q _ c (I.hok.fresh (Nat.le_refl _)) hc'⟩
end K71
end

section
set_option maxHeartbeats 4000000
/-! the walk: loops.py, divisors_of and loops -/
namespace KM
theorem asc_ext : ∀ {l m : List Int}, l.Pairwise (· < ·) → m.Pairwise (· < ·) → (∀ x, x ∈ l ↔ x ∈ m) → l = m
  | [], [], _, _, _ => rfl
  | [], y :: m, _, _, h => absurd ((h y).mpr (List.mem_cons_self ..)) (List.not_mem_nil)
  | x :: l, [], _, _, h => absurd ((h x).mp (List.mem_cons_self ..)) (List.not_mem_nil)
  | x :: l, y :: m, hl, hm, h => by
    obtain ⟨l1, l2⟩ := List.pairwise_cons.mp hl
    obtain ⟨m1, m2⟩ := List.pairwise_cons.mp hm
    have e : x = y := by
      rcases List.mem_cons.mp ((h x).mp (List.mem_cons_self ..)) with a | a
      · exact a
      · rcases List.mem_cons.mp ((h y).mpr (List.mem_cons_self ..)) with b | b
        · exact b.symm
        · have := m1 x a
          have := l1 y b
          omega
    subst e
    rw [asc_ext l2 m2 fun z => ⟨fun hz => ?_, fun hz => ?_⟩]
    · rcases List.mem_cons.mp ((h z).mp (List.mem_cons_of_mem _ hz)) with a | a
      · have := l1 z hz
        omega
      · exact a
    · rcases List.mem_cons.mp ((h z).mpr (List.mem_cons_of_mem _ hz)) with a | a
      · have := m1 z hz
        omega
      · exact a
theorem divs_asc (n : Nat) : (divs n).Pairwise (· < ·) := List.Pairwise.filter _ List.pairwise_lt_range
theorem divs_mem (n d : Nat) : d ∈ divs n ↔ (0 < d ∧ d ≤ n ∧ n % d = 0) := by
  unfold divs
  rw [List.mem_filter, List.mem_range, Bool.and_eq_true, decide_eq_true_eq, decide_eq_true_eq]
  constructor
  · intro h; exact ⟨h.2.1, by omega, h.2.2⟩
  · intro h; exact ⟨by omega, h.1, h.2.2⟩
/-- the small divisors -/
def smallM (n i : Nat) : List Nat := ((List.range i).map (· + 1)).filter fun d => decide (d * d ≤ n) && decide (n % d = 0)
theorem smallM_mem (n i d : Nat) : d ∈ smallM n i ↔ (0 < d ∧ d ≤ i ∧ d * d ≤ n ∧ n % d = 0) := by
  unfold smallM
  rw [List.mem_filter, Bool.and_eq_true, decide_eq_true_eq, decide_eq_true_eq, List.mem_map]
  constructor
  · rintro ⟨⟨j, hj, rfl⟩, h2, h3⟩
    have := List.mem_range.mp hj
    exact ⟨by omega, by omega, h2, h3⟩
  · rintro ⟨h1, h2, h3, h4⟩
    exact ⟨⟨d - 1, List.mem_range.mpr (by omega), by omega⟩, h3, h4⟩
theorem smallM_succ (n i : Nat) : smallM n (i + 1) = smallM n i ++ (if (decide ((i + 1) * (i + 1) ≤ n) && decide (n % (i + 1) = 0)) = true then [i + 1] else []) := by
  unfold smallM
  rw [List.range_succ, List.map_append, List.filter_append]
  congr 1
  show List.filter _ [i + 1] = _
  rw [List.filter_cons]; rfl
theorem smallM_len {n i : Nat} (hn : n ≤ 1000) : (smallM n i).length ≤ 31 := by
  have nd : (smallM n i).Pairwise (· < ·) := List.Pairwise.filter _ (by
    rw [List.pairwise_map]
    exact (List.pairwise_lt_range).imp (by omega))
  have b : ∀ d ∈ smallM n i, d < 32 := fun d hd => by
    obtain ⟨h1, h2, h3, h4⟩ := (smallM_mem n i d).mp hd
    refine Classical.byContradiction fun q => ?_
    have : 32 * 32 ≤ d * d := Nat.mul_le_mul (by omega) (by omega)
    omega
  have b0 : ∀ d ∈ smallM n i, 0 < d := fun d hd => ((smallM_mem n i d).mp hd).1
  -- strictly ascending, within 1..31
  have key : ∀ (l : List Nat) (lo hi : Nat), l.Pairwise (· < ·) → (∀ d ∈ l, lo ≤ d ∧ d < hi) → lo ≤ hi → l.length ≤ hi - lo := by
    intro l
    induction l with
    | nil => intro lo hi _ _ _; exact Nat.zero_le _
    | cons x l ih =>
      intro lo hi hp hb hle
      obtain ⟨p1, p2⟩ := List.pairwise_cons.mp hp
      obtain ⟨x1, x2⟩ := hb x (List.mem_cons_self ..)
      have := ih (x + 1) hi p2 (fun d hd => ⟨p1 d hd, (hb d (List.mem_cons_of_mem _ hd)).2⟩) (by omega)
      rw [List.length_cons]; omega
  exact key _ 1 32 nd (fun d hd => ⟨b0 d hd, b d hd⟩) (by decide)
theorem divs_split {n : Nat} (d : Nat) : (d ∈ smallM n n ∨ ∃ e ∈ smallM n n, n / e = d) ↔ d ∈ divs n := by
  rw [divs_mem]
  constructor
  · rintro (h | ⟨e, he, rfl⟩)
    · obtain ⟨h1, h2, h3, h4⟩ := (smallM_mem n n d).mp h
      exact ⟨h1, h2, h4⟩
    · obtain ⟨h1, h2, h3, h4⟩ := (smallM_mem n n e).mp he
      have dv : e ∣ n := Nat.dvd_of_mod_eq_zero h4
      have n0 : 0 < n := by omega
      refine ⟨Nat.div_pos h2 h1, Nat.div_le_self _ _, Nat.mod_eq_zero_of_dvd (Nat.div_dvd_of_dvd dv)⟩
  · rintro ⟨h1, h2, h3⟩
    have dv : d ∣ n := Nat.dvd_of_mod_eq_zero h3
    have n0 : 0 < n := by omega
    by_cases c : d * d ≤ n
    · exact .inl ((smallM_mem n n d).mpr ⟨h1, h2, c, h3⟩)
    · right
      have e0 : 0 < n / d := Nat.div_pos h2 h1
      have em : d * (n / d) = n := Nat.mul_div_cancel' dv
      refine ⟨n / d, (smallM_mem n n (n / d)).mpr ⟨e0, Nat.div_le_self _ _, ?_, Nat.mod_eq_zero_of_dvd (Nat.div_dvd_of_dvd dv)⟩, ?_⟩
      · have lt : n / d < d := Nat.div_lt_of_lt_mul (by omega)
        calc n / d * (n / d) ≤ d * (n / d) := Nat.mul_le_mul_right _ (by omega)
          _ = n := em
          _ ≤ n := Nat.le_refl _
      · have : n / (n / d) = d := by
          have := Nat.mul_div_cancel d e0
          rwa [em] at this
        exact this
/-- loops, as pairs of a number and how many rows come again by it and by none that parts it -/
def lpGo (ring : Bool) (o n : Nat) : List Nat → List (Nat × Int) → List (Nat × Int)
  | [], acc => acc
  | d :: ds, acc => lpGo ring o n ds (acc ++ [(d, (sameM ring o n d : Int) - ((acc.filter fun e => decide (d % e.1 = 0)).map (·.2)).sum)])
def loopsM (ring : Bool) (o n : Nat) : List (Nat × Int) := lpGo ring o n (divs (periodM (ownM (byOff ring (offB o (wd ring n) 1) n) n 1))) []
theorem lpGo_snoc (ring : Bool) (o n : Nat) : ∀ (ds : List Nat) (acc : List (Nat × Int)) (d : Nat), lpGo ring o n (ds ++ [d]) acc = lpGo ring o n [d] (lpGo ring o n ds acc)
  | [], acc, d => rfl
  | x :: ds, acc, d => lpGo_snoc ring o n ds _ d
theorem lpGo_keys (ring : Bool) (o n : Nat) : ∀ (ds : List Nat) (acc : List (Nat × Int)), (lpGo ring o n ds acc).map (·.1) = acc.map (·.1) ++ ds
  | [], acc => (List.append_nil _).symm
  | d :: ds, acc => by
    show (lpGo ring o n ds (acc ++ [(d, _)])).map (·.1) = _
    rw [lpGo_keys ring o n ds, List.map_append, List.append_assoc]; rfl
end KM
namespace K71
open PySem PySem.Spec PyProof.Rows L2 KM RZ
/-- a dict of whole numbers -/
def idk (l : List (Nat × Int)) : List (Key × V) := l.map fun e => (Sum.inl (e.1 : Int), .int e.2)
theorem idk_len (l : List (Nat × Int)) : (idk l).length = l.length := List.length_map ..
theorem idk_none : ∀ {l : List (Nat × Int)} {k : Nat}, k ∉ l.map (·.1) → valV (idk l) (Sum.inl (k : Int) : Key) = none
  | [], _, _ => rfl
  | e :: l, k, h => by
    have ne : ¬ (Sum.inl (e.1 : Int) : Key) = Sum.inl (k : Int) := fun q => h (by rw [← (inl_iff _ _).mp q]; exact List.mem_cons_self ..)
    show valV ((Sum.inl (e.1 : Int), V.int e.2) :: idk l) _ = none
    rw [valV_neg (p := (Sum.inl (e.1 : Int), V.int e.2)) ne]
    exact idk_none fun q => h (List.mem_cons_of_mem _ q)
theorem idk_some : ∀ {l : List (Nat × Int)} {e : Nat × Int}, (l.map (·.1)).Nodup → e ∈ l → valV (idk l) (Sum.inl (e.1 : Int) : Key) = some (.int e.2)
  | x :: l, e, h, he => by
    obtain ⟨h1, h2⟩ := List.nodup_cons.mp h
    show valV ((Sum.inl (x.1 : Int), V.int x.2) :: idk l) _ = _
    rcases List.mem_cons.mp he with q | q
    · rw [q]
      exact valV_pos (p := (Sum.inl (x.1 : Int), V.int x.2)) rfl
    · have ne : ¬ (Sum.inl (x.1 : Int) : Key) = Sum.inl (e.1 : Int) := fun z => h1 (by show x.1 ∈ _; rw [(inl_iff _ _).mp z]; exact List.mem_map_of_mem q)
      rw [valV_neg (p := (Sum.inl (x.1 : Int), V.int x.2)) ne]
      exact idk_some h2 q
theorem idk_snoc {l : List (Nat × Int)} {k : Nat} {r : Int} (h : k ∉ l.map (·.1)) : putK (idk l) (Sum.inl (k : Int) : Key) (.int r) = idk (l ++ [(k, r)]) := by
  rw [putK_new _ (idk_none h), idk, idk, List.map_append]; rfl
section
variable {P : Program} {w : World} {K : PySem.W.Frag} {mg : Str → Option Value} {base : Heap}
def q_divisors_of (K : PySem.W.Frag) : Sp := fun vs H Q _ => ∃ n : Nat, vs = [vn n] ∧ n ≤ 1000 ∧ ∀ p H', Same H H' → H p = none → H' p = some (.lst (vns (divs n))) → Q (.ref p) H'
theorem ok_divisors_of (D : Ok K mg) : FnOk P w K mg base CX0 1 (He.ga K "divisors_of") (fdA K (He.ga K "divisors_of")) ["number"] (q_divisors_of K) := by
  refine D.f_divisors_of.ok sc_divisors_of (fun vs H Q E h => ?_) (fun cdv A outer s H vs Q E hr h => ?_)
  · obtain ⟨_, rfl, _⟩ := h
    rfl
  · refine ⟨_, PSs.nox (pss_cons (ps_setLc (i := 1) (own := [("one", 2)]) (by rfl) sc_divisors_of.nd rfl rfl (sw_true rfl rfl rfl (by decide +kernel)) (pi_range2 (by rfl) D.z_range (pa_cons pe_int (pa_cons (pe_op oad (pv 0) pe_int) pa_nil))) (blkOk_by (own := [("one", 2)]) (N := ["number", "small", "one"]) (sc := defScope s_divisors_of) (by decide +kernel)) (fun _ _ _ _ _ => (pg_name (i := 2) sc_divisors_of.nd rfl (.inl rfl))) (fun _ _ _ _ _ => pts_one (PW.pt (pw_and (pt_cmpR op_le (pe_op oml (pv 2) (pv 2)) (pv 0) (nomark _)) (pw_and1 (pt_cmpR op_eq (pe_op omd (pv 0) (pv 2)) pe_int (nomark _)))))) (fun _ _ _ _ _ => (pv 2)))
  (pss_one (ps_ret (pe_callB (cr_sortedSet rfl) (by rfl) D.z_sorted (by decide +kernel) (pa_cons (pe_callTy (cr_setL rfl) (by rfl) D.z_set (by decide +kernel) (pa_cons (pe_op op_cat (pv 1) (pe_lc (own := [("one", 2)]) (by rfl) sc_divisors_of.nd (pi_list (pv 1)) (blkOk_by (own := [("one", 2)]) (N := ["number", "small", "one"]) (sc := defScope s_divisors_of) (by decide +kernel)) (fun _ _ _ _ _ => (pg_name (i := 2) sc_divisors_of.nd rfl (.inl rfl))) (fun _ _ _ _ _ => pts_nil) (fun _ _ _ _ _ => (pe_op ofd (pv 0) (pv 2))))) pa_nil)) pa_nil))))), ?_⟩
    obtain ⟨n, rfl, h1k, k⟩ := h
    refine ⟨_, rfl, n, 1, rfl, rfl, 1, ((n + 1 : Nat) : Int), rfl, ⟨by decide, by decide, by omega, by omega⟩, fun D1 hD1 => ?_⟩
    rw [show (((n + 1 : Nat) : Int) - 1).toNat = n by omega]
    refine lc_it walk_range (fun i H' => H' = upd H D1 (.lst (vns (smallM n i)))) rfl (fun _ _ _ _ => trivial) ?_ ?_
    · rintro i x H2 H3 hi rfl ⟨eH, ex⟩
      subst eH
      have ex' : x = vn (i + 1) := by
        rw [ex]
        show V.int ((1 : Int) + (i : Int)) = V.int ((i + 1 : Nat) : Int)
        congr 1; omega
      subst ex'
      have sl := smallM_len (n := n) (i := i) h1k
      have ss := smallM_succ n i
      refine ⟨rfl, _, rfl, _, rfl, _, _, rfl, rfl, Nat.lt_of_le_of_lt (m := 1001) (by omega) (by decide), _, rfl, _, _, rfl, rfl, _, rfl, ?_⟩
      refine itLe (fun hc => ?_) (fun hc => ?_)
      · rw [decide_eq_true hc, Bool.true_and] at ss
        refine ⟨_, rfl, _, rfl, _, _, rfl, rfl, Nat.succ_pos _, rfl, _, rfl, ?_⟩
        refine itE (m := 0) (fun hz => ?_) (fun hz => ?_)
        · rw [if_pos (decide_eq_true hz)] at ss
          refine ⟨_, rfl, _, upd_same, szl (by rw [vns_len]; omega), ?_⟩
          rw [upd_upd, ss, vns, vns, List.map_append]; rfl
        · rw [if_neg (by rw [decide_eq_false hz]; decide), List.append_nil] at ss
          rw [ss]
      · rw [decide_eq_false (by omega : ¬ (i + 1) * (i + 1) ≤ n), Bool.false_and, if_neg (by decide), List.append_nil] at ss
        rw [ss]
        exact iteF rfl
    · rintro H2 rfl
      have s1 : Same H (upd H D1 (.lst (vns (smallM n n)))) := same_new hD1
      have hS : (upd H D1 (.lst (vns (smallM n n)))) D1 = some (.lst (vns (smallM n n))) := upd_same
      have sl := smallM_len (n := n) (i := n) h1k
      have sm := smallM_mem n n
      have sp := divs_split (n := n)
      generalize upd H D1 (.lst (vns (smallM n n))) = H1 at s1 hS
      generalize smallM n n = sml at hS sl sm sp
      refine ⟨_, rfl, _, rfl, D1, rfl, ⟨_, SqL.of hS⟩, fun D2 hD2 => lc_it (walk_list (xs := vns sml)) (fun i H' => H' = upd H1 D2 (.lst (vns ((sml.take i).map fun e => n / e)))) rfl (fun i H' _ h => by rw [h]; exact slist (same_new hD2) (SqL.of hS)) ?_ ?_⟩
      · rintro i x H2 H3 hi rfl ⟨rfl, ex⟩
        obtain ⟨e, ee, rfl⟩ := vns_at ex
        obtain ⟨z1, z2, z3, z4⟩ := (sm e).mp (List.mem_of_getElem? ee)
        refine ⟨rfl, _, rfl, _, rfl, _, _, rfl, rfl, ⟨z1, by omega⟩, _, upd_same, szl ?_, ?_⟩
        · rw [vns_len, List.length_map, List.length_take]; omega
        · rw [upd_upd, take_succ ee, List.map_append, vns, vns, List.map_append]; rfl
      · rintro H2 rfl
        rw [vns_len, List.take_length]
        have s2 : Same H1 (upd H1 D2 (.lst (vns (sml.map fun e => n / e)))) := same_new hD2
        refine ⟨D1, D2, _, _, rfl, rfl, s2 _ _ hS, upd_same, sz (by rw [vns_len, vns_len, List.length_map]; omega), fun q hq => ?_⟩
        have s3 := same_new (o := .lst (vns sml ++ vns (sml.map fun e => n / e))) hq
        have hQ : (upd (upd H1 D2 (.lst (vns (sml.map fun e => n / e)))) q (.lst (vns sml ++ vns (sml.map fun e => n / e)))) q = some (.lst (((sml ++ sml.map fun e => n / e).map fun k : Nat => (k : Int)).map V.int)) := by
          rw [upd_same, vns, vns, ← List.map_append, List.map_map]; rfl
        have s13 := (s1.trans s2).trans s3
        generalize upd (upd H1 D2 (.lst (vns (sml.map fun e => n / e)))) q (.lst (vns sml ++ vns (sml.map fun e => n / e))) = H3 at hQ s13
        have hln : ((sml ++ sml.map fun e => n / e).map fun k : Nat => (k : Int)).length ≤ 62 := by
          rw [List.length_map, List.length_append, List.length_map]; omega
        refine ⟨q, _, rfl, SqL.of hQ, by omega, fun p c hp hc => ?_⟩
        refine ⟨p, _, c, rfl, upd_same, by omega, fun ys r asc mem len hr => ?_⟩
        have ey : ys = (divs n).map fun k : Nat => (k : Int) := by
          refine asc_ext asc ?_ fun x => ?_
          · rw [List.pairwise_map]
            exact (divs_asc n).imp (by omega)
          · rw [mem x, decide_eq_true_eq, List.mem_map, List.mem_map]
            constructor
            · rintro ⟨d, hd, rfl⟩
              refine ⟨d, (sp d).mp ?_, rfl⟩
              rcases List.mem_append.mp hd with h | h
              · exact .inl h
              · exact .inr (List.mem_map.mp h)
            · rintro ⟨d, hd, rfl⟩
              refine ⟨d, List.mem_append.mpr ?_, rfl⟩
              rcases (sp d).mpr hd with h | h
              · exact .inl h
              · exact .inr (List.mem_map.mpr h)
        have s4 := snew (s13.trans (same_new (o := SetO w p (fun j => decide (j ∈ (sml ++ sml.map fun e => n / e).map fun k : Nat => (k : Int))) c) hp)) (o := .lst (ys.map V.int)) hr
        refine k r _ s4 ((s13.trans (same_new hp)).free hr) ?_
        rw [upd_same, ey, List.map_map]; rfl
/-- a list of pairs with a whole number -/
def PiAt (H : Hp) : List V → List (Nat × Int) → Prop := Paired fun v e => ∃ t, v = .ref t ∧ H t = some (.tup [vn e.1, .int e.2])
theorem unlock_same {H1 H' : Hp} {t : Addr} {o : HO} (s : Same (hide H1 t) H') (ht : H1 t = some o) : Same H1 (upd H' t o) := fun b u e => by
  by_cases h : b = t
  · rw [h] at e ⊢
    rw [upd_same, ← e, ht]
  · rw [upd_ne h]
    exact s b u (by rw [hide_ne h]; exact e)
def q_loops (K : PySem.W.Frag) : Sp := fun vs H Q _ => ∃ (ring : Bool) (a : Addr) (ru : List Int) (n : Nat), vs = [.str (kd ring), .ref a, vn n] ∧ H a = some (.tup (ru.map V.int)) ∧ RuleOk ring ru ∧ 0 < n ∧ n ≤ 14 ∧ periodM (ownM (beat ring ru n) n 1) ≤ 1000 ∧
  ∀ p H' us, Same H H' → H p = none → H' p = some (.tup us) → PiAt H' us (((loopsM ring (onceM ru (wd ring n)) n).filter fun e => decide (0 < e.2)).map fun e => (e.1, e.2.fdiv e.1)) → Q (.ref p) H'
theorem ok_loops (D : Ok K mg) : FnOk P w K mg base CX0 10 (He.ga K "loops") (fdA K (He.ga K "loops")) ["kind", "rule", "size"] (q_loops K) := by
  refine D.f_loops.ok sc_loops (fun vs H Q E h => ?_) (fun cdv A outer s H vs Q E hr h => ?_)
  · obtain ⟨_, _, _, _, rfl, _⟩ := h
    rfl
  · refine ⟨_, PSs.nox (pss_cons (ps_set (i := 3) sc_loops.nd rfl (.inl rfl) (pe_call (ok_size_own D) (hr.mono (by decide)) rfl D.m_size_own D.f_size_own.kp D.b_size_own .nil pass0 (pa_cons (pv 0) (pa_cons (pv 1) (pa_cons (pv 2) pa_nil)))))
  (pss_cons (ps_if (pt_cmpR op_gt (pv 2) (pe_gi rfl D.i_MOST_LAMPS) (nomark _)) (pss_one ps_never) pss_nil)
  (pss_cons (ps_set (i := 4) sc_loops.nd rfl (.inr rfl) pe_dnewK)
  (pss_cons (ps_for PassesOwn.never rfl (pi_list (pe_call (ok_divisors_of D) (hr.mono (by decide)) rfl D.m_divisors_of D.f_divisors_of.kp D.b_divisors_of .nil pass0 (pa_cons (pe_call (ok_period_in D) (hr.mono (by decide)) rfl D.m_period_in D.f_period_in.kp D.b_period_in .nil pass0 (pa_cons (pv 3) pa_nil)) pa_nil))) (pg_name (i := 5) sc_loops.nd rfl (.inr rfl))
    (pss_cons (ps_set (i := 6) sc_loops.nd rfl (.inl rfl) (pe_callB (cr_sum rfl) (by rfl) D.z_sum (by decide +kernel) (pa_cons (pe_lock (pe_lc (own := [("other", 7)]) (by rfl) sc_loops.nd (pi_keys (pv 4)) (blkOk_by (own := [("other", 7)]) (N := ["kind", "rule", "size", "bits", "rows", "one", "less", "other", "many"]) (sc := defScope s_loops) (by decide +kernel)) (fun _ _ _ _ _ => (pg_name (i := 7) sc_loops.nd rfl (.inl rfl))) (fun _ _ _ _ _ => pts_one (pt_cmpR op_eq (pe_op omd (pv 5) (pv 7)) pe_int (nomark _))) (fun _ _ _ _ _ => (pe_dget (hu_of hr) (pv 4) (pv 7) (fun _ _ => rfl))))) pa_nil)))
  (pss_one (ps_dput (hu_of hr) (pv 4) (pv 5) (pe_op op_sub (pe_call (ok_same_again D) (hr.mono (by decide)) rfl D.m_same_again D.f_same_again.kp D.b_same_again .nil pass0 (pa_cons (pv 0) (pa_cons (pv 1) (pa_cons (pv 2) (pa_cons (pv 5) pa_nil))))) (pv 6)) rfl))))
  (pss_one (ps_ret (pe_callTy call_tuple_of (by rfl) D.z_tuple (by decide +kernel) (pa_cons (pe_lock (pe_lc (own := [("one", 5), ("many", 8)]) (g := gTup K 2 (gCons (gName 5) (gCons (gName 8) gNil))) (by rfl) sc_loops.nd (pi_items (pv 4)) (blkOk_by (own := [("one", 5), ("many", 8)]) (N := ["kind", "rule", "size", "bits", "rows", "one", "less", "other", "many"]) (sc := defScope s_loops) (by decide +kernel)) (fun _ _ _ _ _ => (pg_tup (by rfl) (pgs_cons (pg_name (i := 5) sc_loops.nd rfl (.inl rfl)) (pgs_cons (pg_name (i := 8) sc_loops.nd rfl (.inl rfl)) pgs_nil)))) (fun _ _ _ _ _ => pts_one (pt_cmpR op_gt (pv 8) pe_int (nomark _))) (fun _ _ _ _ _ => (pe_tup (pa_cons (pv 5) (pa_cons (pe_op op_fdivN (pv 8) (pv 5)) pa_nil)))))) pa_nil)))))))), ?_⟩
    obtain ⟨ring, a, ru, n, rfl, ha, R, h0, h14, h1k, k⟩ := h
    obtain ⟨o1, o2⟩ := own_lt (beat_lt ring ru n) (Nat.one_lt_two_pow (by omega : n ≠ 0))
    refine ⟨_, rfl, _, rfl, _, rfl, ring, a, ru, n, rfl, ha, R, h0, h14, fun H1 s1 => ?_⟩
    have k : ∀ p H' us, Same H H' → H p = none → H' p = some (.tup us) → PiAt H' us (((lpGo ring (onceM ru (wd ring n)) n (divs (periodM (ownM (beat ring ru n) n 1))) []).filter fun e => decide (0 < e.2)).map fun e => (e.1, e.2.fdiv e.1)) → Q (.ref p) H' := k
    generalize ownM (beat ring ru n) n 1 = o at h1k k o1 o2
    refine ⟨_, rfl, _, _, rfl, rfl, _, rfl, ?_⟩
    refine itI (fun q => by omega) (fun _ => ?_)
    intro t ht
    have s2 : Same H1 (upd H1 t (.dK [])) := same_new ht
    refine ⟨_, rfl, o, rfl, o1, by omega, fun H3 s3 => ?_⟩
    refine ⟨_, rfl, h1k, fun L H4 s4 hL hLT => ?_⟩
    have hdm := divs_mem (periodM o)
    have hda := divs_asc (periodM o)
    have hdl : (divs (periodM o)).length ≤ 1001 := by
      have := List.length_filter_le (fun d => decide (0 < d) && decide (periodM o % d = 0)) (List.range (periodM o + 1))
      rw [List.length_range] at this
      exact Nat.le_trans this (by omega)
    generalize divs (periodM o) = ds at hLT hdm hda hdl k
    have ht1 : H t = none := s1.free ht
    have hT4 : H4 t = some (.dK []) := s4 _ _ (s3 _ _ upd_same)
    have sa : Same H H4 := ((s1.trans s2).trans s3).trans s4
    have ntL : L ≠ t := ne_of hLT hT4 (by intro z; cases z)
    have hL1 : H L = none := (s1.trans s2).free (s3.free hL)
    refine ⟨L, rfl, ⟨_, SqL.of hLT⟩, for_it (walk_list (xs := vns ds)) (fun i σ H' => ∃ y5 y6, Same H H' ∧ H' L = some (.lst (vns ds)) ∧ H' t = some (.dK (idk (lpGo ring (onceM ru (wd ring n)) n (ds.take i) []))) ∧
        σ = [some (.str (kd ring)), some (.ref a), some (vn n), some (vn o), some (.ref t), y5, y6, none, none]) ⟨none, none, sa, hLT, hT4, rfl⟩ (fun i σ H' _ ⟨_, _, _, h, _⟩ => SqL.of h) ?_ ?_⟩
    · rintro i x σ H5 H6 hi ⟨y5, y6, s5, hL5, hT5, rfl⟩ ⟨eH, ex⟩
      subst eH
      obtain ⟨d, ed, rfl⟩ := vns_at ex
      obtain ⟨d0, d1, d2⟩ := (hdm d).mp (List.mem_of_getElem? ed)
      have hkeys := lpGo_keys ring (onceM ru (wd ring n)) n (ds.take i) []
      have hsn := lpGo_snoc ring (onceM ru (wd ring n)) n (ds.take i) [] d
      rw [← take_succ ed] at hsn
      rw [vns_len] at hi
      generalize hf : lpGo ring (onceM ru (wd ring n)) n (ds.take i) [] = f at hT5 hkeys hsn
      have fk : f.map (·.1) = ds.take i := hkeys
      have fn : (f.map (·.1)).Nodup := by
        rw [fk]
        exact (List.nodup_iff_pairwise_ne.mpr (hda.imp (by omega))).sublist (List.take_sublist _ _)
      have fpos : ∀ e ∈ f, 0 < e.1 := fun e he => by
        have : e.1 ∈ ds.take i := by rw [← fk]; exact List.mem_map_of_mem he
        exact ((hdm e.1).mp (List.mem_of_mem_take this)).1
      have fl : f.length ≤ 1001 := by
        have := congrArg List.length fk
        rw [List.length_map, List.length_take] at this
        omega
      have nin : d ∉ f.map (·.1) := by
        rw [fk]
        intro hm
        obtain ⟨j, hj, ej⟩ := List.mem_take_iff_getElem.mp hm
        have hi' : i < ds.length := (List.getElem?_eq_some_iff.mp ed).1
        have ei : ds[i] = d := (List.getElem?_eq_some_iff.mp ed).2
        have := List.pairwise_iff_getElem.mp hda j i (by omega) hi' (by omega)
        omega
      refine ⟨t, _, hT5, trivial, fun od => ⟨_, rfl, t, od, rfl, .inl ⟨_, upd_same, fun Dn hDn => ?_⟩⟩⟩
      have ntD : t ≠ Dn := fun z => by rw [← z, upd_same] at hDn; cases hDn
      have hDn0 : H6 Dn = none := by
        rw [upd_ne ntD.symm] at hDn
        exact hDn
      refine lc_it (walk_keys (kvs := idk f)) (fun j H' => H' = upd (upd H6 t (.frz od (.dK (idk f)))) Dn (.lst ((((f.take j).filter fun x => decide (d % x.1 = 0)).map (·.2)).map V.int))) rfl (fun j H' _ h => by rw [h, upd_ne ntD]; exact upd_same) ?_ ?_
      · rintro j x H7 H8 hj rfl ⟨rfl, kk, vv, exx, rfl⟩
        obtain ⟨e2, ee2, eq2⟩ := map_at exx
        cases eq2
        have fj := filt_take (p := fun x : Nat × Int => decide (d % x.1 = 0)) ee2
        refine ⟨rfl, _, rfl, _, rfl, _, _, rfl, rfl, fpos _ (List.mem_of_getElem? ee2), rfl, _, rfl, ?_⟩
        refine itE (m := 0) (fun hz => ?_) (fun hz => ?_)
        · rw [if_pos (decide_eq_true hz)] at fj
          have hv := idk_some fn (List.mem_of_getElem? ee2)
          refine ⟨_, rfl, _, rfl, t, .int e2.2, rfl, dget_frz (by rw [upd_ne ntD]; exact upd_same) hv, _, upd_same, szl ?_, ?_⟩
          · have := List.length_filter_le (fun x : Nat × Int => decide (d % x.1 = 0)) (f.take j)
            rw [List.length_take] at this
            rw [List.length_map, List.length_map]
            omega
          · rw [upd_upd, fj, List.map_append, List.map_append]; rfl
        · rw [if_neg (by rw [decide_eq_false hz]; decide), List.append_nil] at fj
          rw [fj]
      · rintro H7 rfl
        rw [idk_len, List.take_length]
        refine ⟨by rw [upd_ne ntD]; exact upd_same, ?_⟩
        have hv : ((f.filter fun x => decide (d % x.1 = 0)).map (·.2)) = ((f.filter fun x => decide (d % x.1 = 0)).map (·.2)) := rfl
        generalize hls : ((f.filter fun x => decide (d % x.1 = 0)).map (·.2)) = ls
        have s7 : Same H6 (upd (upd (upd H6 t (.frz od (.dK (idk f)))) Dn (.lst (ls.map V.int))) t (.dK (idk f))) := fun b o eb => by
          by_cases hb : b = t
          · rw [hb] at eb ⊢
            rw [upd_same, ← eb, hT5]
          · rw [upd_ne hb, upd_ne (ne_of_none eb hDn0), upd_ne hb]
            exact eb
        have hD7 : (upd (upd (upd H6 t (.frz od (.dK (idk f)))) Dn (.lst (ls.map V.int))) t (.dK (idk f))) Dn = some (.lst (ls.map V.int)) := by
          rw [upd_ne ntD.symm]
          exact upd_same
        generalize upd (upd (upd H6 t (.frz od (.dK (idk f)))) Dn (.lst (ls.map V.int))) t (.dK (idk f)) = H7 at s7 hD7
        refine ⟨Dn, ls, rfl, SqL.of hD7, ?_⟩
        have s57 := s5.trans s7
        refine ⟨_, rfl, _, rfl, _, rfl, _, rfl, ring, a, ru, n, d, rfl, s57 _ _ ha, R.len, h0, h14, fun H9 s9 => ?_⟩
        refine ⟨_, rfl, _, _, rfl, rfl, _, rfl, _, rfl, t, _, rfl, DPut.k (k := Sum.inl (d : Int)) (s9 _ _ (s7 _ _ hT5)) (szl (by rw [idk_len]; omega)), ?_⟩
        rw [idk_snoc nin]
        refine ⟨_, _, smut (s57.trans s9) ht1, by rw [upd_ne ntL]; exact s9 _ _ (s7 _ _ hL5), ?_, rfl⟩
        rw [upd_same, hsn]
        show _ = some (HO.dK (idk (f ++ [(d, _)])))
        rw [hls]
    · rintro σ H5 ⟨y5, y6, s5, hL5, hT5, rfl⟩
      rw [vns_len, List.take_length] at hT5
      have hkeys := lpGo_keys ring (onceM ru (wd ring n)) n ds []
      generalize lpGo ring (onceM ru (wd ring n)) n ds [] = f at hT5 k hkeys
      have fk : f.map (·.1) = ds := hkeys
      have fl : f.length ≤ 1001 := by
        have := congrArg List.length fk
        rw [List.length_map] at this
        omega
      have fpos : ∀ e ∈ f, 0 < e.1 ∧ e.1 ≤ 1000 := fun e he => by
        have : e.1 ∈ ds := by rw [← fk]; exact List.mem_map_of_mem he
        have := (hdm e.1).mp this
        omega
      refine ⟨t, _, hT5, trivial, fun od => ?_⟩
      refine ⟨_, rfl, t, od, _, rfl, upd_same, fun Dn hDn => ?_⟩
      have ntD : t ≠ Dn := fun z => by rw [← z, upd_same] at hDn; cases hDn
      have hDn0 : H5 Dn = none := by
        rw [upd_ne ntD.symm] at hDn
        exact hDn
      refine lc_it (walk_items (kvs := idk f)) (fun j H' => ∃ us, Same (hide H5 t) H' ∧ H' t = some (.frz od (.dK (idk f))) ∧ H' Dn = some (.lst us) ∧ PiAt H' us (((f.take j).filter fun e : Nat × Int => decide (0 < e.2)).map fun e : Nat × Int => (e.1, e.2.fdiv e.1)))
        ⟨[], fun b o eb => ?_, by rw [upd_ne ntD]; exact upd_same, upd_same, .nil⟩ (fun j H' _ ⟨_, _, h, _⟩ => h) ?_ ?_
      · have hb : b ≠ t := fun z => by rw [z, hide_at] at eb; cases eb
        rw [hide_ne hb] at eb
        rw [upd_ne (ne_of_none eb hDn0), upd_ne hb]
        exact eb
      · rintro j x H6 H7 hj ⟨us, s6, hF, hU, hP⟩ ⟨T, x2, x3, rfl, nT, rfl, e2, e3⟩
        obtain ⟨kv, hkv⟩ : ∃ kv, (idk f)[j]? = some kv := ⟨_, List.getElem?_eq_getElem hj⟩
        obtain ⟨e, ee, rfl⟩ := map_at hkv
        have e2 : ((idk f)[j]?).map (fun kv => kV kv.1) = some x2 := e2
        have e3 : ((idk f)[j]?).map Prod.snd = some x3 := e3
        rw [hkv] at e2 e3
        have e2 := Option.some.inj e2
        have e3 := Option.some.inj e3
        subst e2 e3
        obtain ⟨p0, p1⟩ := fpos e (List.mem_of_getElem? ee)
        have hDn6 : hide H5 t Dn = none := by rw [hide_ne ntD.symm]; exact hDn0
        have nDT : Dn ≠ T := ne_of_none hU nT
        have ntT : t ≠ T := ne_of_none hF nT
        have sT : Same H6 (upd H6 T (.tup [kV (Sum.inl (e.1 : Int)), .int e.2])) := same_new nT
        have fj := filt_take (p := fun e : Nat × Int => decide (0 < e.2)) ee
        refine ⟨T, _, rfl, SqT.of upd_same, rfl, _, _, rfl, _, _, rfl, rfl, rfl, _, rfl, _, _, rfl, rfl, _, rfl, ?_⟩
        have hul := prd_len hP
        have hfl := List.length_filter_le (fun e : Nat × Int => decide (0 < e.2)) (f.take j)
        rw [List.length_take] at hfl
        rw [List.length_map] at hul
        refine itI (fun hz => ?_) (fun hz => ?_)
        · rw [if_pos (decide_eq_true hz)] at fj
          refine ⟨_, rfl, _, rfl, _, rfl, e.2, (e.1 : Int), rfl, rfl, ⟨by omega, by rw [Int.natAbs_natCast]; omega⟩, sz (by show 2 ≤ 100000; decide), fun q hq => ?_⟩
          have sq : Same (upd H6 T (.tup [kV (Sum.inl (e.1 : Int)), .int e.2])) (upd (upd H6 T (.tup [kV (Sum.inl (e.1 : Int)), .int e.2])) q (.tup [.int (e.1 : Int), .int (e.2.fdiv e.1)])) := same_new hq
          have hU2 := sq _ _ (sT _ _ hU)
          have hF2 := sq _ _ (sT _ _ hF)
          refine ⟨us, hU2, szl (by omega), us ++ [.ref q], smut ((s6.trans sT).trans sq) hDn6, by rw [upd_ne ntD]; exact hF2, upd_same, ?_⟩
          rw [fj, List.map_append]
          refine prd_snoc (prd_mono (fun v e' he' => ?_) hP) ⟨q, rfl, by rw [upd_ne (ne_of upd_same hU2 (by intro z; cases z)), upd_same]; rfl⟩
          obtain ⟨t', ev, et⟩ := he'
          have q' := sq _ _ (sT _ _ et)
          exact ⟨t', ev, by rw [upd_ne (ne_of q' hU2 (by intro z; cases z))]; exact q'⟩
        · rw [if_neg (by rw [decide_eq_false hz]; decide), List.append_nil] at fj
          refine ⟨us, s6.trans sT, sT _ _ hF, sT _ _ hU, ?_⟩
          rw [fj]
          exact prd_mono (fun v e' ⟨t', ev, et⟩ => ⟨t', ev, sT _ _ et⟩) hP
      · rintro H6 ⟨us, s6, hF, hU, hP⟩
        rw [idk_len, List.take_length] at hP
        have su := unlock_same s6 hT5
        refine ⟨hF, Dn, us, rfl, .inl ⟨SqL.of (by rw [upd_ne ntD.symm]; exact hU), fun p hp => ?_⟩⟩
        refine k p _ us (snew (s5.trans su) hp) ((s5.trans su).free hp) upd_same (prd_mono (fun v e' he' => ?_) hP)
        obtain ⟨t', ev, et⟩ := he'
        have nt : t' ≠ t := ne_of et hF (by intro z; cases z)
        have q' : (upd H6 t (.dK (idk f))) t' = some (.tup [vn e'.1, .int e'.2]) := by rw [upd_ne nt]; exact et
        exact ⟨t', ev, same_new hp _ _ q'⟩
end
end K71
end

section
set_option maxHeartbeats 4000000
/-! plain mathematics: turns of a ring, a beat as a polynomial in them -/
namespace KM
open K71 (xrl_snoc pw_of)
/-- turned by one -/
def rho (N v : Nat) : Nat := (v >>> 1) ^^^ ((v <<< (N - 1)) &&& ((1 <<< N) - 1))
theorem and_mask (x N : Nat) : x &&& ((1 <<< N) - 1) = x % 2 ^ N := by rw [one_shl, Nat.and_two_pow_sub_one_eq_mod]
theorem shr_lin (o : Nat) : Lin (fun v => v >>> o) := fun a b => Nat.shiftRight_xor_distrib ..
theorem shl_lin (o : Nat) : Lin (fun v => v <<< o) := fun a b => Nat.shiftLeft_xor_distrib ..
theorem rho_lin (N : Nat) : Lin (rho N) := fun a b => by
  unfold rho
  have e1 : (a ^^^ b) >>> 1 = a >>> 1 ^^^ b >>> 1 := shr_lin 1 a b
  have e2 : (a ^^^ b) <<< (N - 1) = a <<< (N - 1) ^^^ b <<< (N - 1) := shl_lin (N - 1) a b
  rw [and_mask, and_mask, and_mask, e1, e2, mod_xor]
  exact xor4 _ _ _ _
theorem tb_turn {N o v i : Nat} (hv : v < 2 ^ N) (ho : o < N) (hi : i < N) : ((v >>> o) ^^^ ((v <<< (N - o)) &&& ((1 <<< N) - 1))).testBit i = v.testBit ((i + o) % N) := by
  rw [and_mask, Nat.testBit_xor, Nat.testBit_mod_two_pow, Nat.testBit_shiftRight, Nat.testBit_shiftLeft, decide_eq_true hi, Bool.true_and]
  by_cases c : i + o < N
  · rw [Nat.mod_eq_of_lt c, decide_eq_false (by omega), Bool.false_and, Bool.xor_false, Nat.add_comm]
  · rw [decide_eq_true (by omega), Bool.true_and, tb_ge hv (i := o + i) (by omega), Bool.false_xor]
    congr 1
    rw [Nat.mod_eq_sub_mod (by omega), Nat.mod_eq_of_lt (by omega)]
    omega
theorem turn_lt {N o v : Nat} (hv : v < 2 ^ N) : ((v >>> o) ^^^ ((v <<< (N - o)) &&& ((1 <<< N) - 1))) < 2 ^ N := by
  have := rotX_lt (N := N) (b := v) (a := 0) (o := o) (Nat.two_pow_pos N) hv
  unfold rotX at this
  rwa [Nat.zero_xor] at this
theorem rho_lt {N v : Nat} (hv : v < 2 ^ N) : rho N v < 2 ^ N := turn_lt (o := 1) hv
theorem eq_of_bits {N a b : Nat} (ha : a < 2 ^ N) (hb : b < 2 ^ N) (h : ∀ i, i < N → a.testBit i = b.testBit i) : a = b := by
  apply Nat.eq_of_testBit_eq
  intro i
  by_cases c : i < N
  · exact h i c
  · rw [tb_ge ha (by omega), tb_ge hb (by omega)]
theorem itb {T : Nat → Nat} {n : Nat} (hT : ∀ v, v < 2 ^ n → T v < 2 ^ n) : ∀ k v, v < 2 ^ n → itr T k v < 2 ^ n
  | 0, _, h => h
  | k + 1, v, h => itb hT k _ (hT v h)
theorem itr_rho_tb {N v : Nat} (hN : 1 < N) (hv : v < 2 ^ N) : ∀ (o i : Nat), i < N → (itr (rho N) o v).testBit i = v.testBit ((i + o) % N)
  | 0, i, hi => by rw [Nat.add_zero, Nat.mod_eq_of_lt hi]; rfl
  | o + 1, i, hi => by
    rw [itr_succ]
    have hl := itb (T := rho N) (n := N) (fun v h => rho_lt h) o v hv
    have e : (rho N (itr (rho N) o v)).testBit i = (itr (rho N) o v).testBit ((i + 1) % N) := tb_turn hl hN hi
    rw [e, itr_rho_tb hN hv o _ (Nat.mod_lt _ (by omega)), Nat.mod_add_mod]
    congr 2
    omega
theorem rho_one {v : Nat} (hv : v < 2 ^ 1) : rho 1 v = v := by
  have : v = 0 ∨ v = 1 := by omega
  rcases this with h | h <;> subst h <;> decide
theorem itr_rho_tb' {N v : Nat} (hN : 0 < N) (hv : v < 2 ^ N) (o i : Nat) (hi : i < N) : (itr (rho N) o v).testBit i = v.testBit ((i + o) % N) := by
  by_cases c : 1 < N
  · exact itr_rho_tb c hv o i hi
  · obtain rfl : N = 1 := by omega
    have : ∀ o, itr (rho 1) o v = v := fun o => by
      induction o with
      | zero => rfl
      | succ o ih => rw [itr_succ, ih, rho_one hv]
    rw [this, Nat.mod_one]
    obtain rfl : i = 0 := by omega
    rfl
theorem turn_eq {N o v : Nat} (hv : v < 2 ^ N) (ho : o < N) : ((v >>> o) ^^^ ((v <<< (N - o)) &&& ((1 <<< N) - 1))) = itr (rho N) o v :=
  eq_of_bits (turn_lt hv) (itb (fun v h => rho_lt h) o v hv) fun i hi => by rw [tb_turn hv ho hi, itr_rho_tb' (by omega) hv o i hi]
theorem itr_rho_N {N v : Nat} (hN : 0 < N) (hv : v < 2 ^ N) : itr (rho N) N v = v :=
  eq_of_bits (itb (fun v h => rho_lt h) N v hv) hv fun i hi => by rw [itr_rho_tb' hN hv N i hi, Nat.add_mod_right, Nat.mod_eq_of_lt hi]
theorem itr_rho_mod {N v : Nat} (hN : 0 < N) (hv : v < 2 ^ N) (o : Nat) : itr (rho N) (o % N) v = itr (rho N) o v :=
  eq_of_bits (itb (fun v h => rho_lt h) _ v hv) (itb (fun v h => rho_lt h) _ v hv) fun i hi => by rw [itr_rho_tb' hN hv _ i hi, itr_rho_tb' hN hv _ i hi, Nat.add_mod_mod]
/-- a polynomial of powers told one by one -/
theorem act_xrl (T : Nat → Nat) (v : Nat) : ∀ l, Act T (xrl l) v = l.foldl (fun a p => a ^^^ itr T p v) 0 := by
  have gen : ∀ (l : List Nat) (x : Nat), l.foldl (fun a p => a ^^^ itr T p v) x = x ^^^ Act T (xrl l) v := by
    intro l
    induction l with
    | nil => intro x; exact (Nat.xor_zero x).symm
    | cons p l ih =>
      intro x
      rw [List.foldl_cons, ih, xrl_cons, act_xor, one_shl, act_pow, Nat.xor_assoc]
  intro l
  rw [gen, Nat.zero_xor]
theorem foldl_congr {α β : Type} {f g : β → α → β} : ∀ (l : List α) (x : β), (∀ a p, p ∈ l → f a p = g a p) → l.foldl f x = l.foldl g x
  | [], _, _ => rfl
  | p :: l, x, h => by
    rw [List.foldl_cons, List.foldl_cons, h x p (List.mem_cons_self ..)]
    exact foldl_congr l _ fun a q hq => h a q (List.mem_cons_of_mem _ hq)
theorem beatBy_act {off N v : Nat} (ho : off < 2 ^ N) (hv : v < 2 ^ N) : beatBy off N v = Act (rho N) off v := by
  have e := act_xrl (rho N) v (pw off)
  rw [xrl_pw] at e
  rw [e]
  unfold beatBy
  refine foldl_congr _ _ fun a p hp => ?_
  unfold rotX
  rw [Nat.xor_assoc, turn_eq hv (pw_mem ho hp)]
/-- x^N + 1 makes nought -/
theorem act_ring {N v : Nat} (hN : 0 < N) (hv : v < 2 ^ N) : Act (rho N) ((1 <<< N) ||| 1) v = 0 := by
  have e : (1 <<< N) ||| 1 = 2 ^ N ^^^ 1 := by
    rw [one_shl]
    apply Nat.eq_of_testBit_eq
    intro i
    have h1 : (1 : Nat).testBit i = decide (i = 0) := by
      cases i with
      | zero => rfl
      | succ i =>
        have : (1 : Nat) < 2 ^ (i + 1) := Nat.one_lt_two_pow (by omega)
        rw [Nat.testBit_lt_two_pow this]; simp
    rw [Nat.testBit_or, Nat.testBit_xor, h1]
    by_cases c : i = 0
    · subst c
      rw [Nat.testBit_two_pow_of_ne (by omega)]; rfl
    · rw [decide_eq_false c, Bool.or_false, Bool.xor_false]
  rw [e, act_xor, act_pow, act_one, itr_rho_N hN hv, Nat.xor_self]
theorem act_md {T : Nat → Nat} (h : Lin T) {m v : Nat} (m0 : m ≠ 0) (hm : Act T m v = 0) (a : Nat) : Act T (md a m) v = Act T a v := by
  have e := (parted_spec a m0).1
  have : Act T a v = Act T (cl m (parted a m).1 ^^^ md a m) v := by rw [← e]
  rw [this, act_xor, act_cl h, hm, act_v0 h, Nat.zero_xor]
theorem powL_act {N : Nat} (hN : 0 < N) : ∀ (f fo he re : Nat), blen re ≤ f → ∀ v, v < 2 ^ N → Act (rho N) (powL ((1 <<< N) ||| 1) f fo he re) v = itr (Act (rho N) he) re (Act (rho N) fo v)
  | 0, fo, he, re, h, v, _ => by
    have e : re = 0 := blen_zero_iff.mp (by omega)
    subst e
    rfl
  | f + 1, fo, he, re, h, v, hv => by
    have R := rho_lin N
    have Rl : ∀ v, v < 2 ^ N → rho N v < 2 ^ N := fun v h => rho_lt h
    by_cases e : re = 0
    · subst e
      rw [powL_zero]; rfl
    · have hs := K71.half_step (Nat.pos_iff_ne_zero.mpr e)
      rw [powL_step e, powL_act hN f _ _ _ (by omega) v hv]
      have sq : ∀ u, u < 2 ^ N → Act (rho N) (md (cl he he) ((1 <<< N) ||| 1)) u = Act (rho N) he (Act (rho N) he u) := fun u hu => by
        rw [act_md R (ring_mod_ne N) (act_ring hN hu), act_cl R]
      have dbl : ∀ (k u : Nat), u < 2 ^ N → itr (Act (rho N) (md (cl he he) ((1 <<< N) ||| 1))) k u = itr (Act (rho N) he) (2 * k) u := by
        intro k
        induction k with
        | zero => intro u _; rfl
        | succ k ih =>
          intro u hu
          show itr _ k (Act _ _ u) = itr _ (2 * k + 1 + 1) u
          rw [sq u hu, ih _ (act_lt Rl _ _ (act_lt Rl _ _ hu))]; rfl
      have fl : ∀ fo, Act (rho N) fo v < 2 ^ N := fun fo => act_lt Rl _ _ hv
      rw [dbl _ _ (fl _)]
      by_cases o : re % 2 = 1
      · rw [if_pos o, act_md R (ring_mod_ne N) (act_ring hN hv), act_cl R]
        have er : re = 2 * (re / 2) + 1 := by omega
        conv => rhs; rw [er]
        rfl
      · rw [if_neg o]
        have er : re = 2 * (re / 2) := by omega
        conv => rhs; rw [er]
/-- the polynomial of many beats -/
theorem offB_act {N : Nat} (hN : 0 < N) (o t : Nat) {v : Nat} (hv : v < 2 ^ N) : Act (rho N) (offB o N t) v = itr (Act (rho N) o) t v := by
  have R := rho_lin N
  have Rl : ∀ v, v < 2 ^ N → rho N v < 2 ^ N := fun v h => rho_lt h
  unfold offB powr
  rw [powL_act hN _ _ _ _ (Nat.le_refl _) v hv, act_md R (ring_mod_ne N) (act_ring hN hv), act_one]
  have : ∀ (k u : Nat), u < 2 ^ N → itr (Act (rho N) (md o ((1 <<< N) ||| 1))) k u = itr (Act (rho N) o) k u := by
    intro k
    induction k with
    | zero => intro u _; rfl
    | succ k ih =>
      intro u hu
      show itr _ k (Act _ _ u) = itr _ k (Act _ _ u)
      rw [act_md R (ring_mod_ne N) (act_ring hN hu)]
      exact ih _ (act_lt Rl _ _ hu)
  exact this t v hv
/-! ### a law's own lists of offsets -/
/-- what a list of offsets does -/
def actL (N : Nat) (l : List Nat) (v : Nat) : Nat := Act (rho N) (xrl l) v
theorem actL_nil (N v : Nat) : actL N [] v = 0 := rfl
theorem actL_cons (N p : Nat) (l : List Nat) (v : Nat) : actL N (p :: l) v = itr (rho N) p v ^^^ actL N l v := by
  unfold actL
  rw [xrl_cons, act_xor, one_shl, act_pow]
theorem actL_lin (N : Nat) (l : List Nat) : Lin (actL N l) := act_lin (rho_lin N) _
theorem actL_lt {N : Nat} (l : List Nat) {v : Nat} (hv : v < 2 ^ N) : actL N l v < 2 ^ N := act_lt (fun v h => rho_lt h) _ _ hv
theorem actL_itr (N : Nat) (l : List Nat) (k v : Nat) : actL N l (itr (rho N) k v) = itr (rho N) k (actL N l v) := act_itr (rho_lin N) _ k v
theorem actL_append (N : Nat) : ∀ (l m : List Nat) (v : Nat), actL N (l ++ m) v = actL N l v ^^^ actL N m v
  | [], m, v => (Nat.zero_xor _).symm
  | p :: l, m, v => by
    rw [List.cons_append, actL_cons, actL_cons, actL_append N l m, Nat.xor_assoc]
/-- all turned on by p -/
theorem actL_shift {N : Nat} (hN : 0 < N) (p : Nat) : ∀ (l : List Nat) (v : Nat), v < 2 ^ N → actL N (l.map fun q => (p + q) % N) v = itr (rho N) p (actL N l v)
  | [], v, _ => (itr_lin (rho_lin N) p).zero.symm
  | q :: l, v, hv => by
    rw [List.map_cons, actL_cons, actL_cons, actL_shift hN p l v hv, itr_rho_mod hN hv, itr_lin (rho_lin N) p, itr_add]
/-- every one with every one -/
theorem actL_prod {N : Nat} (hN : 0 < N) (h : List Nat) : ∀ (l : List Nat) (v : Nat), v < 2 ^ N → actL N (l.flatMap fun p => h.map fun q => (p + q) % N) v = actL N h (actL N l v)
  | [], v, _ => (actL_lin N h).zero.symm
  | p :: l, v, hv => by
    rw [List.flatMap_cons, actL_append, actL_shift hN p h v hv, actL_prod hN h l v hv, actL_cons, actL_lin N h, actL_itr]
/-- every one twice -/
theorem actL_twice {N : Nat} (hN : 0 < N) : ∀ (l : List Nat) (v : Nat), v < 2 ^ N → actL N (l.map fun q => 2 * q % N) v = actL N l (actL N l v)
  | [], v, _ => rfl
  | p :: l, v, hv => by
    rw [List.map_cons, actL_cons, actL_cons, actL_cons, actL_twice hN l v hv, itr_rho_mod hN hv, itr_lin (rho_lin N) p, actL_lin N l, actL_itr, Nat.two_mul, itr_add]
    rw [xor4 , Nat.xor_comm (itr (rho N) p (actL N l v)), xor4, Nat.xor_self, Nat.xor_zero]
end KM
end

section
set_option maxHeartbeats 4000000
/-! the walk: the law's small helpers -/
namespace K71
open PySem PySem.Spec PyProof.Rows L2 KM RZ
/-- a pot: what is drawn from -/
def PotAt (H : Hp) (a : Addr) (c : Nat) : Prop := ∃ (A B : Int) (C : Nat), H a = some (.lst [.int A, .int B, vn C]) ∧ 0 ≤ B ∧ B < 2 ^ 62 ∧ C ≤ c
/-- all but a is as it was -/
def SameBut (a : Addr) (H H' : Hp) : Prop := ∀ b o, b ≠ a → H b = some o → H' b = some o
theorem SameBut.of {a : Addr} {H H' : Hp} (s : Same H H') : SameBut a H H' := fun b o _ e => s b o e
theorem SameBut.trans {a : Addr} {H H1 H2 : Hp} (s : SameBut a H H1) (t : SameBut a H1 H2) : SameBut a H H2 := fun b o n e => t b o n (s b o n e)
theorem SameBut.upd {a : Addr} {H : Hp} {o : HO} : SameBut a H (L2.upd H a o) := fun b u n e => Eq.trans (upd_ne n) e
theorem SameBut.same {a : Addr} {H0 H H' : Hp} (s0 : Same H0 H) (n : H0 a = none) (s : SameBut a H H') : Same H0 H' := fun b o e => s b o (fun z => by rw [z, n] at e; cases e) (s0 b o e)
theorem PotAt.mono {H H' : Hp} {a : Addr} {c : Nat} (s : Same H H') (h : PotAt H a c) : PotAt H' a c := by
  obtain ⟨A, B, C, h1, h2⟩ := h
  exact ⟨A, B, C, s _ _ h1, h2⟩
theorem PotAt.le {H : Hp} {a : Addr} {c c' : Nat} (h : PotAt H a c) (l : c ≤ c') : PotAt H a c' := by
  obtain ⟨A, B, C, h1, h2, h3, h4⟩ := h
  exact ⟨A, B, C, h1, h2, h3, by omega⟩
theorem PotAt.free {H : Hp} {a p : Addr} {c : Nat} (h : PotAt H a c) (hp : H p = none) : p ≠ a := fun z => by
  obtain ⟨A, B, C, h1, _⟩ := h
  rw [z, h1] at hp; cases hp
theorem PotAt.ne_tup {H : Hp} {a t : Addr} {c : Nat} {xs : List V} (h : PotAt H a c) (ht : H t = some (.tup xs)) : t ≠ a := fun z => by
  obtain ⟨A, B, C, h1, _⟩ := h
  rw [z, h1] at ht; cases ht
/-- a thing that the heap ahead of the pot's change does not know has changed -/
theorem SameBut.mut {a p : Addr} {H H' : Hp} {o : HO} (s : SameBut a H H') (h : H p = none) : SameBut a H (L2.upd H' p o) := fun b u n e => by
  have : b ≠ p := fun z => by rw [z, h] at e; cases e
  rw [upd_ne this]; exact s b u n e
section
variable {P : Program} {w : World} {K : PySem.W.Frag} {mg : Str → Option Value} {base : Heap}
def q__law_pot (K : PySem.W.Frag) : Sp := fun vs H Q _ => ∃ (a : Addr) (xs : List Int) (pl : Nat), vs = [.ref a, vn pl] ∧ SqL K H a (xs.map V.int) ∧ pl ≤ 10 ∧ ∀ p H', Same H H' → H p = none → PotAt H' p 0 → Q (.ref p) H'
theorem ok__law_pot (D : Ok K mg) : FnOk P w K mg base CX0 1 (He.ga K "_law_pot") (fdA K (He.ga K "_law_pot")) ["_law_script", "_law_place"] (q__law_pot K) := by
  refine D.f__law_pot.ok sc__law_pot (fun vs H Q E h => ?_) (fun cdv A outer s H vs Q E hr h => ?_)
  · obtain ⟨_, _, _, rfl, _⟩ := h
    rfl
  · refine ⟨_, PSs.nox (pss_cons (ps_set (i := 2) sc__law_pot.nd rfl (.inl rfl) (pe_ifExp (pt_cmpR op_lt (pv 1) (pe_callB call_len_seq (by rfl) D.z_len (by decide +kernel) (pa_cons (pv 0) pa_nil)) (nomark _)) (pe_ix ix_list (pv 0) (pv 1) (fun _ _ => rfl)) (pe_op op_add (pe_op op_mul pe_int (pv 1)) pe_int)))
  (pss_cons (ps_set (i := 3) sc__law_pot.nd rfl (.inl rfl) (pe_op op_mul (pe_op op_mod (pe_callTy call_int1 (by rfl) D.z_int (by decide +kernel) (pa_cons (pe_callB call_abs (by rfl) D.z_abs (by decide +kernel) (pa_cons (pv 2) pa_nil)) pa_nil)) (pe_op opw (pe_op opw pe_int pe_int) pe_int)) (pe_callTy call_int1 (by rfl) D.z_int (by decide +kernel) (pa_cons (pe_cmpR op_ge (pe_callB call_abs (by rfl) D.z_abs (by decide +kernel) (pa_cons (pv 2) pa_nil)) (pe_op opw pe_int pe_int) (nomark _)) pa_nil))))
  (pss_cons (ps_set (i := 4) sc__law_pot.nd rfl (.inl rfl) (pe_op op_mod (pe_callTy call_int1 (by rfl) D.z_int (by decide +kernel) (pa_cons (pv 2) pa_nil)) pe_int))
  (pss_one (ps_ret (pe_lst (pa_cons (pv 3) (pa_cons (pe_op op_mod (pe_callTy call_int1 (by rfl) D.z_int (by decide +kernel) (pa_cons (pe_op op_add (pe_op op_add (pe_op op_mul (pv 4) pe_int) (pe_op op_mul (pe_op op_mul pe_int (pv 1)) (pv 1))) pe_int) pa_nil)) pe_int) (pa_cons pe_int pa_nil))))))))), ?_⟩
    obtain ⟨a, xs, pl, rfl, hS, hpl, k⟩ := h
    refine ⟨_, rfl, _, rfl, a, _, rfl, .inl hS, _, _, rfl, rfl, _, rfl, ?_⟩
    rw [List.length_map]
    have c60 : (Builtin.Int.intBits 10 : Int) * 60 ≤ 2 ^ 27 := by decide +kernel
    have c5 : (Builtin.Int.intBits ((10 : Int) ^ (60 : Int).toNat) : Int) * 5 ≤ 2 ^ 27 := by decide +kernel
    have c18 : (Builtin.Int.intBits 10 : Int) * 18 ≤ 2 ^ 27 := by decide +kernel
    have pm : (0 : Int) < ((10 : Int) ^ (60 : Int).toNat) ^ (5 : Int).toNat := by decide +kernel
    have sm : ∀ b : Bool, -(2 ^ 64) < (if b = true then (1 : Int) else 0) ∧ (if b = true then (1 : Int) else 0) < 2 ^ 64 := fun b => by cases b <;> decide
    have m4 : ∀ y : Int, -(2 ^ 64) < y % 2305843009213693951 ∧ y % 2305843009213693951 < 2 ^ 64 := fun y => by omega
    have hx : pl < xs.length → atI (xs.map V.int) (pl : Int) = some (.int (xs.getD pl 0)) := fun h => by
      refine atI_nat ?_
      rw [List.getElem?_map, List.getD_eq_getElem?_getD, List.getElem?_eq_getElem h]; rfl
    refine itI (fun h => ?_) (fun h => ?_)
    all_goals first
      | refine ⟨_, rfl, _, rfl, a, _, _, _, rfl, rfl, hS, hx (by omega), ?_⟩
      | refine ⟨_, rfl, 739, _, rfl, rfl, .inl ⟨by decide, by decide⟩, _, _, rfl, rfl, ?_⟩
    all_goals
      refine ⟨_, rfl, _, rfl, .inl ⟨_, rfl, 10, 60, rfl, rfl, ⟨by decide, c60⟩, _, 5, rfl, rfl, ⟨by decide, c5⟩, _, _, rfl, rfl, pm, _, rfl, _, rfl, 10, 18, rfl, rfl, ⟨by decide, c18⟩, _, _, rfl, rfl, .inr ⟨_, rfl, _, _, rfl, rfl, .inr (sm _), ?_⟩⟩⟩
      refine ⟨_, rfl, .inl ⟨_, rfl, _, 2305843009213693951, rfl, rfl, by show (0 : Int) < 2305843009213693951; decide, ?_⟩⟩
      refine ⟨_, rfl, _, rfl, _, 77171, rfl, rfl, .inl (m4 _), _, rfl, 7331, _, rfl, rfl, .inl ⟨by decide, by decide⟩, _, rfl, _, _, rfl, rfl, .inr ⟨by omega, by omega⟩, _, _, rfl, rfl, _, 287, rfl, rfl, .inl ⟨_, rfl, _, 2305843009213693921, rfl, rfl, by show (0 : Int) < 2305843009213693921; decide, sz (by show 3 ≤ 100000; decide), fun p hp => ?_⟩⟩
      refine k p _ (same_new hp) hp ⟨_, _, 0, upd_same, Int.emod_nonneg _ (by decide), ?_, Nat.le_refl _⟩
      exact Int.lt_of_lt_of_le (Int.emod_lt_of_pos _ (by decide)) (by decide)
def q__law_take (K : PySem.W.Frag) : Sp := fun vs H Q _ => ∃ (a : Addr) (u c : Nat), vs = [.ref a, vn u] ∧ PotAt H a c ∧ 0 < u ∧ u < 1000 ∧ c ≤ 1000000 ∧ ∀ (d : Nat) H', d < u → SameBut a H H' → PotAt H' a (c + 1) → Q (vn d) H'
theorem ok__law_take (D : Ok K mg) : FnOk P w K mg base CX0 1 (He.ga K "_law_take") (fdA K (He.ga K "_law_take")) ["_law_pot_here", "_law_upto"] (q__law_take K) := by
  refine D.f__law_take.ok sc__law_take (fun vs H Q E h => ?_) (fun cdv A outer s H vs Q E hr h => ?_)
  · obtain ⟨_, _, _, rfl, _⟩ := h
    rfl
  · refine ⟨_, PSs.nox (pss_cons (ps_if (pt_cmpR op_gt (pe_ix ix_list (pv 0) pe_int (fun _ _ => rfl)) pe_int (nomark _)) (pss_cons (ps_set (i := 2) sc__law_take.nd rfl (.inl rfl) (pe_op op_mod (pe_callTy call_int1 (by rfl) D.z_int (by decide +kernel) (pa_cons (pe_ix ix_list (pv 0) pe_int (fun _ _ => rfl)) pa_nil)) (pv 1)))
  (pss_cons (ps_asg (pe_op op_fdiv (pe_ix ix_list (pv 0) pe_int (fun _ _ => rfl)) (pv 1)) (pg_sub (pv 0) pe_int set_list))
  (pss_one (ps_ret (pv 2))))) pss_nil)
  (pss_cons (ps_asg (pe_op op_add (pe_ix ix_list (pv 0) pe_int (fun _ _ => rfl)) pe_int) (pg_sub (pv 0) pe_int set_list))
  (pss_cons (ps_set (i := 3) sc__law_take.nd rfl (.inl rfl) (pe_ix ix_list (pe_lst (pa_cons pe_int (pa_cons pe_int (pa_cons pe_int (pa_cons pe_int (pa_cons pe_int pa_nil)))))) (pe_op op_mod (pe_callTy call_int1 (by rfl) D.z_int (by decide +kernel) (pa_cons (pe_ix ix_list (pv 0) pe_int (fun _ _ => rfl)) pa_nil)) pe_int) (fun _ _ => rfl)))
  (pss_cons (ps_set (i := 4) sc__law_take.nd rfl (.inl rfl) (pe_op op_mod (pe_callTy call_int1 (by rfl) D.z_int (by decide +kernel) (pa_cons (pe_op opw (pe_callTy call_int1 (by rfl) D.z_int (by decide +kernel) (pa_cons (pe_op op_add (pe_op op_add (pe_ix ix_list (pv 0) pe_int (fun _ _ => rfl)) (pe_op op_mul (pe_op op_mul pe_int (pe_ix ix_list (pv 0) pe_int (fun _ _ => rfl))) (pe_ix ix_list (pv 0) pe_int (fun _ _ => rfl)))) pe_int) pa_nil)) pe_int) pa_nil)) (pv 3)))
  (pss_cons (ps_set (i := 4) sc__law_take.nd rfl (.inl rfl) (pe_op op_mod (pe_callTy call_int1 (by rfl) D.z_int (by decide +kernel) (pa_cons (pe_op op_mul (pv 4) (pe_op op_add (pe_op op_mod (pe_callTy call_int1 (by rfl) D.z_int (by decide +kernel) (pa_cons (pv 4) pa_nil)) pe_int) (pe_op op_mul pe_int (pe_ix ix_list (pv 0) pe_int (fun _ _ => rfl))))) pa_nil)) pe_int))
  (pss_one (ps_ret (pe_op op_mod (pe_callTy call_int1 (by rfl) D.z_int (by decide +kernel) (pa_cons (pe_op op_fdiv (pv 4) pe_int) pa_nil)) (pv 1))))))))), ?_⟩
    obtain ⟨a, u, c, rfl, ⟨A0, B, C, hP, hB0, hB, hC⟩, hu, hu2, hc, k⟩ := h
    refine ⟨_, rfl, a, _, 0, _, rfl, rfl, SqL.of hP, rfl, _, _, rfl, rfl, _, rfl, ?_⟩
    refine itI (fun hpos => ?_) (fun hz => ?_)
    · refine ⟨_, rfl, a, _, 0, _, rfl, rfl, SqL.of hP, rfl, .inl ⟨_, rfl, _, rfl, _, _, rfl, rfl, by omega, ?_⟩⟩
      refine ⟨_, rfl, a, _, 0, _, rfl, rfl, SqL.of hP, rfl, _, rfl, _, _, rfl, rfl, ⟨by omega, by omega⟩, ?_⟩
      refine ⟨_, rfl, a, _, 0, 0, rfl, rfl, hP, rfl, ?_⟩
      refine ⟨_, rfl, ?_⟩
      have e : A0 % (u : Int) = ((A0 % (u : Int)).toNat : Int) := (Int.toNat_of_nonneg (Int.emod_nonneg _ (by omega))).symm
      show Q (V.int (A0 % (u : Int))) _
      rw [e]
      have lt := Int.emod_lt_of_pos A0 (show (0 : Int) < (u : Int) by omega)
      exact k _ _ (by omega) SameBut.upd ⟨A0 / (u : Int), B, C, upd_same, hB0, hB, by omega⟩
    · refine ⟨_, rfl, a, _, 2, _, rfl, rfl, SqL.of hP, rfl, _, _, rfl, rfl, _, rfl, a, _, 2, 2, rfl, rfl, hP, rfl, ?_⟩
      have e1 : ((C : Int) + 1) = ((C + 1 : Nat) : Int) := by omega
      have s1 : SameBut a H (upd H a (.lst ([V.int A0, V.int B, vn C].set 2 (V.int ((C : Int) + 1))))) := SameBut.upd
      have hP1 : (upd H a (.lst ([V.int A0, V.int B, vn C].set 2 (V.int ((C : Int) + 1))))) a = some (.lst [.int A0, .int B, vn (C + 1)]) := upd_same
      generalize upd H a (.lst ([V.int A0, V.int B, vn C].set 2 (V.int ((C : Int) + 1)))) = H1 at s1 hP1 ⊢
      refine ⟨sz (by show 5 ≤ 100000; decide), fun t ht => ?_⟩
      have nta : t ≠ a := fun z => by rw [z, hP1] at ht; cases ht
      have s2 := s1.trans (SameBut.of (same_new (o := .lst [.int 2147483647, .int 2147483629, .int 2147483587, .int 2147483579, .int 2147483563]) ht))
      have hP2 := same_new (o := .lst [.int 2147483647, .int 2147483629, .int 2147483587, .int 2147483579, .int 2147483563]) ht _ _ hP1
      have hT2 : (upd H1 t (.lst [.int 2147483647, .int 2147483629, .int 2147483587, .int 2147483579, .int 2147483563])) t = some (.lst [.int 2147483647, .int 2147483629, .int 2147483587, .int 2147483579, .int 2147483563]) := upd_same
      generalize upd H1 t (.lst [.int 2147483647, .int 2147483629, .int 2147483587, .int 2147483579, .int 2147483563]) = H2 at s2 hP2 hT2 ⊢
      obtain ⟨q, hq, q1, q2⟩ : ∃ q : Int, atI [V.int 2147483647, V.int 2147483629, V.int 2147483587, V.int 2147483579, V.int 2147483563] (((C + 1 : Nat) : Int) % 5) = some (.int q) ∧ 0 < q ∧ q < 2 ^ 31 := by
        have : (C + 1) % 5 = 0 ∨ (C + 1) % 5 = 1 ∨ (C + 1) % 5 = 2 ∨ (C + 1) % 5 = 3 ∨ (C + 1) % 5 = 4 := by omega
        have e : ((C + 1 : Nat) : Int) % 5 = (((C + 1) % 5 : Nat) : Int) := by omega
        rw [e]
        rcases this with h | h | h | h | h <;> rw [h]
        · exact ⟨2147483647, rfl, by decide, by decide⟩
        · exact ⟨2147483629, rfl, by decide, by decide⟩
        · exact ⟨2147483587, rfl, by decide, by decide⟩
        · exact ⟨2147483579, rfl, by decide, by decide⟩
        · exact ⟨2147483563, rfl, by decide, by decide⟩
      refine ⟨_, rfl, a, _, 2, _, rfl, rfl, SqL.of hP2, rfl, .inl ⟨_, rfl, _, 5, rfl, rfl, by show (0 : Int) < 5; decide, t, _, _, _, rfl, rfl, SqL.of hT2, hq, ?_⟩⟩
      have b3 : ((98387 * ((C + 1 : Nat) : Int)) * ((C + 1 : Nat) : Int)) ≤ 98387 * 1000001 * 1000001 := by
        have h1 : 98387 * (C + 1) * (C + 1) ≤ 98387 * 1000001 * 1000001 := Nat.mul_le_mul (Nat.mul_le_mul_left _ (by omega)) (by omega)
        have h2 : ((98387 * ((C + 1 : Nat) : Int)) * ((C + 1 : Nat) : Int)) = ((98387 * (C + 1) * (C + 1) : Nat) : Int) := by
          rw [Int.natCast_mul, Int.natCast_mul]; rfl
        rw [h2]
        exact Int.ofNat_le.mpr h1
      have b4 : 0 ≤ ((98387 * ((C + 1 : Nat) : Int)) * ((C + 1 : Nat) : Int)) := Int.mul_nonneg (Int.mul_nonneg (by decide) (by omega)) (by omega)
      refine ⟨_, rfl, a, _, 1, _, rfl, rfl, SqL.of hP2, rfl, _, rfl, a, _, 2, _, rfl, rfl, SqL.of hP2, rfl, 98387, _, rfl, rfl, .inl ⟨by decide, by decide⟩, _, rfl, a, _, 2, _, rfl, rfl, SqL.of hP2, rfl, _, _, rfl, rfl, .inr ⟨by omega, by omega⟩, _, _, rfl, rfl, _, _, rfl, rfl, .inl ⟨_, rfl, ?_⟩⟩
      generalize ((98387 * ((C + 1 : Nat) : Int)) * ((C + 1 : Nat) : Int)) = m at b3 b4
      have bits : Builtin.Int.intBits (B + m + 193) ≤ 64 := intBits_le_64 (by omega) (by omega)
      refine ⟨_, 3, rfl, rfl, ⟨by decide, by omega⟩, .inl ⟨_, rfl, _, rfl, _, q, rfl, rfl, q1, ?_⟩⟩
      generalize (B + m + 193) ^ (3 : Int).toNat = z
      have z1 := Int.emod_nonneg z (show q ≠ 0 by omega)
      have z2 := Int.emod_lt_of_pos z q1
      refine ⟨_, rfl, _, rfl, .inl ⟨_, rfl, _, 10433, rfl, rfl, by show (0 : Int) < 10433; decide, _, rfl, a, _, 2, _, rfl, rfl, SqL.of hP2, rfl, 173, _, rfl, rfl, .inl ⟨by decide, by decide⟩, _, _, rfl, rfl, _, _, rfl, rfl, .inl ⟨Int.lt_of_lt_of_le (by decide) z1, Int.lt_of_lt_of_le z2 (by omega)⟩, .inl ⟨_, rfl, _, 2305843009213693907, rfl, rfl, by show (0 : Int) < 2305843009213693907; decide, ?_⟩⟩⟩
      refine ⟨_, rfl, _, 173, rfl, rfl, ⟨by decide, by decide⟩, .inl ⟨_, rfl, _, rfl, _, _, rfl, rfl, by omega, ?_⟩⟩
      show Q (V.int ((z % q * (z % q % 10433 + 173 * ((C + 1 : Nat) : Int)) % 2305843009213693907 / 173) % (u : Int))) _
      generalize (z % q * (z % q % 10433 + 173 * ((C + 1 : Nat) : Int)) % 2305843009213693907 / 173) = x
      have e : x % (u : Int) = ((x % (u : Int)).toNat : Int) := (Int.toNat_of_nonneg (Int.emod_nonneg _ (by omega))).symm
      rw [e]
      have lt := Int.emod_lt_of_pos x (show (0 : Int) < (u : Int) by omega)
      exact k _ _ (by omega) s2 ⟨A0, B, C + 1, hP2, hB0, hB, by omega⟩
def q__law_of (K : PySem.W.Frag) : Sp := fun vs H Q _ => ∃ (a t : Addr) (xs : List V) (c : Nat), vs = [.ref a, .ref t] ∧ PotAt H a c ∧ H t = some (.lst xs) ∧ t ≠ a ∧ xs ≠ [] ∧ xs.length < 1000 ∧ c ≤ 1000000 ∧ ∀ v H', v ∈ xs → SameBut a H H' → PotAt H' a (c + 1) → Q v H'
theorem ok__law_of (D : Ok K mg) : FnOk P w K mg base CX0 2 (He.ga K "_law_of") (fdA K (He.ga K "_law_of")) ["_law_pot_here", "_law_some"] (q__law_of K) := by
  refine D.f__law_of.ok sc__law_of (fun vs H Q E h => ?_) (fun cdv A outer s H vs Q E hr h => ?_)
  · obtain ⟨_, _, _, _, rfl, _⟩ := h
    rfl
  · refine ⟨_, PSs.nox (pss_one (ps_ret (pe_ix ix_list (pv 1) (pe_call (ok__law_take D) (hr.mono (by decide)) rfl D.m__law_take D.f__law_take.kp D.b__law_take .nil pass0 (pa_cons (pv 0) (pa_cons (pe_callB call_len_seq (by rfl) D.z_len (by decide +kernel) (pa_cons (pv 1) pa_nil)) pa_nil))) (fun _ _ => rfl)))), ?_⟩
    obtain ⟨a, t, xs, c, rfl, hP, hT, nta, hne, hl, hc, k⟩ := h
    have l0 : 0 < xs.length := List.length_pos_iff.mpr hne
    refine ⟨_, rfl, _, rfl, _, rfl, t, xs, rfl, .inl (SqL.of hT), a, xs.length, c, rfl, hP, l0, hl, hc, fun d H1 hd s1 hP1 => ?_⟩
    exact ⟨t, xs, _, xs[d], rfl, rfl, SqL.of (s1 _ _ nta hT), atI_nat (List.getElem?_eq_getElem hd), k _ _ (List.getElem_mem hd) s1 hP1⟩
def q__law_cells (K : PySem.W.Frag) : Sp := fun vs H Q _ => ∃ (a : Addr) (xs : List V), vs = [.ref a, .int 2] ∧ SqL K H a xs ∧ ∀ (p n : Nat) H', n ≤ 2 → Same H H' → H p = none → H' p = some (.lst (vns (List.range n))) → Q (.ref p) H'
theorem ok__law_cells (D : Ok K mg) : FnOk P w K mg base CX0 1 (He.ga K "_law_cells") (fdA K (He.ga K "_law_cells")) ["_law_script", "_law_most"] (q__law_cells K) := by
  refine D.f__law_cells.ok sc__law_cells (fun vs H Q E h => ?_) (fun cdv A outer s H vs Q E hr h => ?_)
  · obtain ⟨_, _, rfl, _⟩ := h
    rfl
  · refine ⟨_, PSs.nox (pss_one (ps_ret (pe_listRg rfl rfl D.z_list (prg_1 rfl D.z_range (pe_callB (call_max2 rfl) (by rfl) D.z_max (by decide +kernel) (pa_cons pe_int (pa_cons (pe_callB (call_min2 rfl) (by rfl) D.z_min (by decide +kernel) (pa_cons (pv 1) (pa_cons (pe_callB call_len_seq (by rfl) D.z_len (by decide +kernel) (pa_cons (pv 0) pa_nil)) pa_nil))) pa_nil))))))), ?_⟩
    obtain ⟨a, xs, rfl, hS, k⟩ := h
    refine ⟨_, rfl, _, rfl, a, xs, rfl, .inl hS, 2, _, rfl, 1, _, rfl, _, rfl, ?_⟩
    have b : (if (if (xs.length : Int) < 2 then (xs.length : Int) else 2) > 1 then (if (xs.length : Int) < 2 then (xs.length : Int) else 2) else 1) = 1 ∨ (if (if (xs.length : Int) < 2 then (xs.length : Int) else 2) > 1 then (if (xs.length : Int) < 2 then (xs.length : Int) else 2) else 1) = 2 := by
      by_cases h1 : (xs.length : Int) < 2
      · rw [if_pos h1]
        by_cases h2 : (xs.length : Int) > 1
        · omega
        · exact .inl (if_neg h2)
      · rw [if_neg h1]
        exact .inr (if_pos (by decide))
    generalize (if (if (xs.length : Int) < 2 then (xs.length : Int) else 2) > 1 then (if (xs.length : Int) < 2 then (xs.length : Int) else 2) else 1) = n at b ⊢
    refine ⟨RgOk.of_le (by decide) (by omega) (by decide) (by omega), fun q hq => ?_⟩
    have e : rgV 0 n = vns (List.range n.toNat) := by
      unfold rgV vns
      rw [Int.sub_zero]
      refine List.map_congr_left fun i _ => ?_
      show V.int (0 + (i : Int)) = V.int (i : Int)
      rw [Int.zero_add]
    rw [e]
    exact k q n.toNat _ (by omega) (same_new hq) hq upd_same
def q__law_kind (K : PySem.W.Frag) : Sp := fun vs H Q _ => ∃ (a : Addr) (c : Nat), vs = [.ref a] ∧ PotAt H a c ∧ c ≤ 1000000 ∧ ∀ (ring : Bool) H', SameBut a H H' → PotAt H' a (c + 1) → Q (.str (kd ring)) H'
theorem ok__law_kind (D : Ok K mg) : FnOk P w K mg base CX0 3 (He.ga K "_law_kind") (fdA K (He.ga K "_law_kind")) ["_law_pot_here"] (q__law_kind K) := by
  refine D.f__law_kind.ok sc__law_kind (fun vs H Q E h => ?_) (fun cdv A outer s H vs Q E hr h => ?_)
  · obtain ⟨_, _, rfl, _⟩ := h
    rfl
  · refine ⟨_, PSs.nox (pss_one (ps_ret (pe_call (ok__law_of D) (hr.mono (by decide)) rfl D.m__law_of D.f__law_of.kp D.b__law_of .nil pass0 (pa_cons (pv 0) (pa_cons (pe_lst (pa_cons pe_str (pa_cons pe_str pa_nil))) pa_nil))))), ?_⟩
    obtain ⟨a, c, rfl, hP, hc, k⟩ := h
    refine ⟨_, rfl, sz (by show 2 ≤ 100000; decide), fun t ht => ?_⟩
    have st : Same H (upd H t (.lst [.str "ring", .str "walls"])) := same_new ht
    refine ⟨a, t, [.str "ring", .str "walls"], c, rfl, hP.mono st, upd_same, hP.free ht, by simp, by show 2 < 1000; decide, hc, fun v H1 hv s1 hP1 => ?_⟩
    rcases List.mem_cons.mp hv with e | e
    · subst e
      exact k true _ ((SameBut.of st).trans s1) hP1
    · rw [List.mem_singleton.mp e]
      exact k false _ ((SameBut.of st).trans s1) hP1
theorem bit_add {f at' : Nat} (h : f < 2 ^ at') (b : Bool) : f + ((if b = true then 1 else 0) <<< at') < 2 ^ (at' + 1) := by
  rw [Nat.pow_succ]
  cases b with
  | true => rw [if_pos rfl, one_shl]; omega
  | false => rw [if_neg (by decide), Nat.zero_shiftLeft]; omega
def q__law_any_bits (K : PySem.W.Frag) : Sp := fun vs H Q _ => ∃ (a : Addr) (n c : Nat), vs = [.ref a, vn n] ∧ PotAt H a c ∧ n ≤ 14 ∧ c ≤ 900000 ∧ ∀ (b : Nat) H', b < 2 ^ n → SameBut a H H' → PotAt H' a (c + 1 + n) → Q (vn b) H'
theorem ok__law_any_bits (D : Ok K mg) : FnOk P w K mg base CX0 2 (He.ga K "_law_any_bits") (fdA K (He.ga K "_law_any_bits")) ["_law_pot_here", "_law_size"] (q__law_any_bits K) := by
  refine D.f__law_any_bits.ok sc__law_any_bits (fun vs H Q E h => ?_) (fun cdv A outer s H vs Q E hr h => ?_)
  · obtain ⟨_, _, _, rfl, _⟩ := h
    rfl
  · refine ⟨_, PSs.nox (pss_cons (ps_par (i := 2) (j := 3) (by rfl) sc__law_any_bits.nd rfl rfl (by decide) rfl rfl (pa_cons (pe_call (ok__law_take D) (hr.mono (by decide)) rfl D.m__law_take D.f__law_take.kp D.b__law_take .nil pass0 (pa_cons (pv 0) (pa_cons pe_int pa_nil))) (pa_cons pe_int pa_nil)) (by rfl))
  (pss_cons (ps_for PassesOwn.never rfl (pi_range1 (by rfl) D.z_range (pa_cons (pv 1) pa_nil)) (pg_name (i := 4) sc__law_any_bits.nd rfl (.inl rfl))
    (pss_cons (ps_set (i := 5) sc__law_any_bits.nd rfl (.inl rfl) (pe_call (ok__law_take D) (hr.mono (by decide)) rfl D.m__law_take D.f__law_take.kp D.b__law_take .nil pass0 (pa_cons (pv 0) (pa_cons (pe_ix ix_list (pe_lst (pa_cons pe_int (pa_cons pe_int (pa_cons pe_int (pa_cons pe_int (pa_cons pe_int (pa_cons pe_int pa_nil))))))) (pv 2) (fun _ _ => rfl)) pa_nil))))
  (pss_one (ps_set (i := 3) sc__law_any_bits.nd rfl (.inl rfl) (pe_op oad (pv 3) (pe_op osl (pe_callTy call_int1 (by rfl) D.z_int (by decide +kernel) (pa_cons (pe_ifExp (pt_cmpR op_lt (pv 2) pe_int (nomark _)) (pe_cmpR op_eq (pv 5) pe_int (nomark _)) (pe_cmpR op_eq (pv 2) pe_int (nomark _))) pa_nil)) (pv 4)))))))
  (pss_one (ps_ret (pv 3))))), ?_⟩
    obtain ⟨a, n, c, rfl, hP, h14, hc, k⟩ := h
    refine ⟨_, rfl, a, 6, c, rfl, hP, by decide, by decide, by omega, fun d H1 hd s1 hP1 => ?_⟩
    refine ⟨_, _, rfl, ?_⟩
    refine ⟨_, rfl, (n : Int), rfl, by omega, by omega, ?_⟩
    rw [Int.toNat_natCast]
    refine for_it walk_range (fun i σ H' => ∃ (f : Nat) (y4 y5 : Option V), SameBut a H H' ∧ PotAt H' a (c + 1 + i) ∧ f < 2 ^ i ∧ σ = [some (.ref a), some (vn n), some (vn d), some (vn f), y4, y5]) ⟨0, none, none, s1, hP1, by decide, rfl⟩ (fun _ _ _ _ _ => trivial) ?_ ?_
    · rintro i x σ H2 H3 hi ⟨f, y4, y5, s2, hP2, hf, rfl⟩ ⟨eH, ex⟩
      subst eH
      have ex' : x = vn i := by
        rw [ex]
        show V.int ((0 : Int) + (i : Int)) = V.int (i : Int)
        rw [Int.zero_add]
      subst ex'
      refine ⟨_, rfl, sz (by show 6 ≤ 100000; decide), fun t ht => ?_⟩
      have st := same_new (o := .lst [.int 2, .int 2, .int 2, .int 5, .int 1, .int 1]) ht
      obtain ⟨u, hu, u0, u1⟩ : ∃ u : Nat, ([V.int 2, V.int 2, V.int 2, V.int 5, V.int 1, V.int 1] : List V)[d]? = some (vn u) ∧ 0 < u ∧ u < 1000 := by
        have : d = 0 ∨ d = 1 ∨ d = 2 ∨ d = 3 ∨ d = 4 ∨ d = 5 := by omega
        rcases this with h | h | h | h | h | h <;> subst h
        · exact ⟨2, rfl, by decide, by decide⟩
        · exact ⟨2, rfl, by decide, by decide⟩
        · exact ⟨2, rfl, by decide, by decide⟩
        · exact ⟨5, rfl, by decide, by decide⟩
        · exact ⟨1, rfl, by decide, by decide⟩
        · exact ⟨1, rfl, by decide, by decide⟩
      refine ⟨_, rfl, t, _, _, vn u, rfl, rfl, SqL.of upd_same, atI_nat hu, a, u, c + 1 + i, rfl, hP2.mono st, u0, u1, by omega, fun g H4 hg s4 hP4 => ?_⟩
      have s24 := (s2.trans (SameBut.of st)).trans s4
      have fin : ∀ b : Bool, (∃ (f' : Nat) (y4 y5 : Option V), SameBut a H H4 ∧ PotAt H4 a (c + 1 + (i + 1)) ∧ f' < 2 ^ (i + 1) ∧ [some (V.ref a), some (vn n), some (vn d), some (vn (f + ((if b = true then 1 else 0) <<< i))), some (vn i), some (vn g)] = [some (.ref a), some (vn n), some (vn d), some (vn f'), y4, y5]) :=
        fun b => ⟨_, _, _, s24, hP4, bit_add hf b, rfl⟩
      have cast : ∀ b : Bool, V.int (if b = true then 1 else 0) = vn (if b = true then 1 else 0) := fun b => by cases b <;> rfl
      have b1 : ∀ b : Bool, (if b = true then 1 else 0) < 2 ^ 64 := fun b => by cases b <;> decide
      refine ⟨_, rfl, _, rfl, _, _, rfl, rfl, _, rfl, ?_⟩
      refine itI (fun h => ?_) (fun h => ?_)
      · exact ⟨_, rfl, rfl, .inr ⟨_, rfl, _, rfl, _, i, cast _, rfl, ⟨b1 _, by omega⟩, _, _, rfl, rfl, fin _⟩⟩
      · exact ⟨_, rfl, rfl, .inr ⟨_, rfl, _, rfl, _, i, cast _, rfl, ⟨b1 _, by omega⟩, _, _, rfl, rfl, fin _⟩⟩
    · rintro σ H2 ⟨f, y4, y5, s2, hP2, hf, rfl⟩
      exact ⟨_, rfl, k f _ hf s2 hP2⟩
end
end K71
end

section
set_option maxHeartbeats 4000000
/-! plain mathematics: a law's own way of a beat -/
namespace KM
open K71 (xrl_snoc pw_of)
/-- turned, as the law does it -/
theorem law_turn {N o b : Nat} (hb : b < 2 ^ N) (ho : o < N) : ((b >>> o) ||| (b <<< (N - o))) &&& ((1 <<< N) - 1) = itr (rho N) o b := by
  refine eq_of_bits (Nat.and_lt_two_pow _ (by rw [one_shl]; exact Nat.sub_lt (Nat.two_pow_pos N) (by decide))) (itb (fun v h => rho_lt h) o b hb) fun i hi => ?_
  rw [itr_rho_tb' (by omega) hb o i hi, and_mask, Nat.testBit_mod_two_pow, decide_eq_true hi, Bool.true_and, Nat.testBit_or, Nat.testBit_shiftRight, Nat.testBit_shiftLeft]
  by_cases c : i + o < N
  · rw [Nat.mod_eq_of_lt c, decide_eq_false (by omega), Bool.false_and, Bool.or_false, Nat.add_comm]
  · rw [decide_eq_true (by omega), Bool.true_and, tb_ge hb (i := o + i) (by omega), Bool.false_or]
    congr 1
    rw [Nat.mod_eq_sub_mod (by omega), Nat.mod_eq_of_lt (by omega)]
    omega
theorem tb_one_shl (p j : Nat) : (1 <<< p).testBit j = decide (p = j) := by
  rw [one_shl]
  by_cases h : p = j
  · subst h; rw [Nat.testBit_two_pow_self, decide_eq_true rfl]
  · rw [Nat.testBit_two_pow_of_ne h, decide_eq_false h]
theorem xrl_tb : ∀ {l : List Nat}, l.Nodup → ∀ j, (xrl l).testBit j = decide (j ∈ l)
  | [], _, j => by
    show (0 : Nat).testBit j = _
    rw [Nat.zero_testBit, decide_eq_false List.not_mem_nil]
  | p :: l, h, j => by
    obtain ⟨h1, h2⟩ := List.nodup_cons.mp h
    rw [xrl_cons, Nat.testBit_xor, tb_one_shl, xrl_tb h2]
    by_cases e : p = j
    · subst e
      rw [decide_eq_true rfl, decide_eq_false h1, decide_eq_true (List.mem_cons_self ..)]; rfl
    · rw [decide_eq_false e, Bool.false_xor]
      congr 1
      rw [List.mem_cons]
      exact propext ⟨.inr, fun h => h.resolve_left fun z => e z.symm⟩
theorem pw_tb {b p : Nat} : p ∈ pw b ↔ b.testBit p = true := by
  unfold pw
  rw [List.mem_filter, List.mem_range]
  constructor
  · exact fun h => h.2
  · intro h
    refine ⟨?_, h⟩
    refine Classical.byContradiction fun c => ?_
    rw [tb_ge (blen_lt b) (by omega)] at h
    cases h
theorem pw_nodup (b : Nat) : (pw b).Nodup := List.Nodup.sublist List.filter_sublist List.nodup_range
theorem unf_tb {n b : Nat} (hb : b < 2 ^ n) (j : Nat) : (unf n b).testBit j = ((decide (1 ≤ j) && b.testBit (j - 1)) || (decide (n + 2 ≤ j) && decide (j ≤ 2 * n + 1) && b.testBit (2 * n + 1 - j))) := by
  unfold unf
  have nd : ((pw b).map fun p => 2 * n + 1 - p).Nodup := by
    have : ((pw b).map fun p => 2 * n + 1 - p).Pairwise (· ≠ ·) := by
      rw [List.pairwise_map]
      refine List.Pairwise.imp_of_mem ?_ (List.nodup_iff_pairwise_ne.mp (pw_nodup b))
      intro x y hx hy ne
      have := pw_mem hb hx
      have := pw_mem hb hy
      omega
    exact List.nodup_iff_pairwise_ne.mpr this
  rw [Nat.testBit_or, Nat.testBit_shiftLeft, xrl_tb nd]
  congr 1
  rw [← Bool.decide_and, ← Bool.decide_eq_true (b := b.testBit _), ← Bool.decide_and]
  refine decide_eq_decide.mpr ?_
  rw [List.mem_map]
  constructor
  · rintro ⟨p, hp, rfl⟩
    have := pw_mem hb hp
    refine ⟨⟨by omega, by omega⟩, ?_⟩
    rw [show 2 * n + 1 - (2 * n + 1 - p) = p by omega]
    exact pw_tb.mp hp
  · rintro ⟨⟨h1, h2⟩, h3⟩
    exact ⟨2 * n + 1 - j, pw_tb.mpr h3, by omega⟩
/-- a beat of a world, of any polynomial -/
def byA (ring : Bool) (p n b : Nat) : Nat := if ring = true then Act (rho n) p b else ((Act (rho (2 * n + 2)) p (unf n b)) >>> 1) &&& ((1 <<< n) - 1)
theorem byOff_act {ring : Bool} {off n b : Nat} (ho : off < 2 ^ wd ring n) (hb : b < 2 ^ n) : byOff ring off n b = byA ring off n b := by
  unfold byOff byA
  cases ring with
  | true => exact beatBy_act ho hb
  | false =>
    have ho : off < 2 ^ (2 * n + 2) := ho
    show ((beatBy off (2 * n + 2) (unf n b)) >>> 1) &&& _ = _
    rw [beatBy_act ho (unf_lt hb)]; rfl
theorem xrl_perm {l m : List Nat} (h : l.Perm m) : xrl l = xrl m := by
  induction h with
  | nil => rfl
  | cons p _ ih => rw [xrl_cons, xrl_cons, ih]
  | swap p q l => rw [xrl_cons, xrl_cons, xrl_cons, xrl_cons, ← Nat.xor_assoc, ← Nat.xor_assoc, Nat.xor_comm (1 <<< q)]
  | trans _ _ h1 h2 => exact h1.trans h2
theorem asc_len : ∀ (l : List Nat) (lo hi : Nat), l.Pairwise (· < ·) → (∀ d ∈ l, lo ≤ d ∧ d < hi) → l.length ≤ hi - lo
  | [], lo, hi, _, _ => Nat.zero_le _
  | x :: l, lo, hi, hp, hb => by
    obtain ⟨p1, p2⟩ := List.pairwise_cons.mp hp
    obtain ⟨x1, x2⟩ := hb x (List.mem_cons_self ..)
    have := asc_len l (x + 1) hi p2 (fun d hd => ⟨p1 d hd, (hb d (List.mem_cons_of_mem _ hd)).2⟩)
    rw [List.length_cons]; omega
/-! marks -/
def look : List (Nat × Bool) → Nat → Bool
  | [], _ => false
  | e :: m, x => if e.1 = x then e.2 else look m x
def flp (x : Nat) : List (Nat × Bool) → List (Nat × Bool)
  | [] => [(x, true)]
  | e :: m => if e.1 = x then (x, !e.2) :: m else e :: flp x m
def onM (m : List (Nat × Bool)) : List Nat := (m.filter (·.2)).map (·.1)
theorem onM_flp (x : Nat) : ∀ (m : List (Nat × Bool)), xrl (onM (flp x m)) = xrl (onM m) ^^^ (1 <<< x)
  | [] => by
    show xrl [x] = xrl [] ^^^ _
    rw [xrl_cons, Nat.xor_comm]
  | e :: m => by
    show xrl (onM (if e.1 = x then (x, !e.2) :: m else e :: flp x m)) = _
    by_cases c : e.1 = x
    · rw [if_pos c]
      obtain ⟨k, v⟩ := e
      have c : k = x := c
      subst c
      cases v with
      | true =>
        show xrl (onM m) = xrl (k :: onM m) ^^^ _
        rw [xrl_cons, Nat.xor_comm (1 <<< k), Nat.xor_assoc, Nat.xor_self, Nat.xor_zero]
      | false =>
        show xrl (k :: onM m) = xrl (onM m) ^^^ _
        rw [xrl_cons, Nat.xor_comm]
    · rw [if_neg c]
      have ih := onM_flp x m
      obtain ⟨k, v⟩ := e
      cases v with
      | true =>
        show xrl (k :: onM (flp x m)) = xrl (k :: onM m) ^^^ _
        rw [xrl_cons, xrl_cons, ih, Nat.xor_assoc]
      | false => exact ih
theorem flp_keys (x : Nat) : ∀ (m : List (Nat × Bool)) (y : Nat), y ∈ (flp x m).map (·.1) ↔ (y = x ∨ y ∈ m.map (·.1))
  | [], y => by
    show y ∈ [x] ↔ _
    simp
  | e :: m, y => by
    show y ∈ (if e.1 = x then (x, !e.2) :: m else e :: flp x m).map (·.1) ↔ _
    by_cases c : e.1 = x
    · rw [if_pos c, List.map_cons, List.map_cons, List.mem_cons, List.mem_cons, c]
      constructor
      · rintro (h | h)
        · exact .inl h
        · exact .inr (.inr h)
      · rintro (h | h | h)
        · exact .inl h
        · exact .inl h
        · exact .inr h
    · rw [if_neg c, List.map_cons, List.map_cons, List.mem_cons, List.mem_cons, flp_keys x m]
      constructor
      · rintro (h | h | h)
        · exact .inr (.inl h)
        · exact .inl h
        · exact .inr (.inr h)
      · rintro (h | h | h)
        · exact .inr (.inl h)
        · exact .inl h
        · exact .inr (.inr h)
theorem flp_nodup (x : Nat) : ∀ (m : List (Nat × Bool)), (m.map (·.1)).Nodup → ((flp x m).map (·.1)).Nodup
  | [], _ => by show [x].Nodup; simp
  | e :: m, h => by
    obtain ⟨h1, h2⟩ := List.nodup_cons.mp h
    show ((if e.1 = x then (x, !e.2) :: m else e :: flp x m).map (·.1)).Nodup
    by_cases c : e.1 = x
    · rw [if_pos c]
      refine List.nodup_cons.mpr ⟨?_, h2⟩
      show x ∉ _
      rw [← c]; exact h1
    · rw [if_neg c]
      refine List.nodup_cons.mpr ⟨fun q => ?_, flp_nodup x m h2⟩
      rcases (flp_keys x m e.1).mp q with z | z
      · exact c z
      · exact h1 z
theorem look_mem : ∀ {m : List (Nat × Bool)} {e : Nat × Bool}, (m.map (·.1)).Nodup → e ∈ m → look m e.1 = e.2
  | x :: m, e, h, he => by
    obtain ⟨h1, h2⟩ := List.nodup_cons.mp h
    show (if x.1 = e.1 then x.2 else look m e.1) = _
    rcases List.mem_cons.mp he with q | q
    · rw [q, if_pos rfl]
    · rw [if_neg fun z => h1 (by show x.1 ∈ _; rw [z]; exact List.mem_map_of_mem q)]
      exact look_mem h2 q
end KM
end

section
set_option maxHeartbeats 4000000
/-! the walk: the law's own way of a beat -/
namespace K71
open PySem PySem.Spec PyProof.Rows L2 KM RZ
section
variable {P : Program} {w : World} {K : PySem.W.Frag} {mg : Str → Option Value} {base : Heap}
theorem str_bit (b i : Nat) : (toString ((b >>> i &&& 1 : Nat) : Int) : Str) = ⟨#[if b.testBit i = true then 49 else 48]⟩ := by
  have : b >>> i &&& 1 = 0 ∨ b >>> i &&& 1 = 1 := by
    rw [Nat.and_one_is_mod]; omega
  have t := tb_and b i
  rcases this with h | h
  · rw [h, if_neg fun q => by rw [t.mpr q] at h; cases h]; decide +kernel
  · rw [h, if_pos (t.mp h)]; decide +kernel
def q__law_text (K : PySem.W.Frag) : Sp := fun vs H Q _ => ∃ b n : Nat, vs = [vn b, vn n] ∧ n ≤ 24 ∧ ∀ H', Same H H' → Q (.str (txt b n)) H'
theorem ok__law_text (D : Ok K mg) : FnOk P w K mg base CX0 1 (He.ga K "_law_text") (fdA K (He.ga K "_law_text")) ["_law_bits_here", "_law_size"] (q__law_text K) := by
  refine D.f__law_text.ok sc__law_text (fun vs H Q E h => ?_) (fun cdv A outer s H vs Q E hr h => ?_)
  · obtain ⟨_, _, rfl, _⟩ := h
    rfl
  · refine ⟨_, PSs.nox (pss_one (ps_ret (pe_join pe_str (pe_lc (own := [("_law_at", 2)]) (by rfl) sc__law_text.nd (pi_range1 (by rfl) D.z_range (pa_cons (pv 1) pa_nil)) (blkOk_by (own := [("_law_at", 2)]) (N := ["_law_bits_here", "_law_size", "_law_at"]) (sc := defScope s__law_text) (by decide +kernel)) (fun _ _ _ _ _ => (pg_name (i := 2) sc__law_text.nd rfl (.inl rfl))) (fun _ _ _ _ _ => pts_nil) (fun _ _ _ _ _ => (pe_callTy call_str_int (by rfl) D.z_str (by decide +kernel) (pa_cons (pe_op oa (pe_op osr (pv 0) (pv 2)) pe_int) pa_nil))))))), ?_⟩
    obtain ⟨b, n, rfl, h24, k⟩ := h
    refine ⟨⟨_, rfl⟩, _, rfl, (n : Int), rfl, by omega, by omega, fun D1 hD1 => ?_⟩
    rw [Int.toNat_natCast]
    refine lc_it walk_range (fun i H' => H' = upd H D1 (.lst ((((List.range i).map fun p => if b.testBit p = true then 49 else 48).map fun c => (⟨#[c]⟩ : Str)).map V.str))) rfl (fun _ _ _ _ => trivial) ?_ ?_
    · rintro i x H2 H3 hi rfl ⟨rfl, ex⟩
      have ex' : x = vn i := by
        rw [ex]
        show V.int ((0 : Int) + (i : Int)) = V.int (i : Int)
        rw [Int.zero_add]
      subst ex'
      have l1 : ((b >>> i &&& 1 : Nat) : Int).natAbs.log2 < 1920 := by
        have : b >>> i &&& 1 = 0 ∨ b >>> i &&& 1 = 1 := by rw [Nat.and_one_is_mod]; omega
        rcases this with h | h <;> rw [h] <;> decide +kernel
      refine ⟨rfl, _, rfl, _, rfl, b, i, rfl, rfl, trivial, _, 1, rfl, rfl, _, rfl, l1, _, upd_same, szl ?_, ?_⟩
      · rw [List.length_map, List.length_map, List.length_map, List.length_range]; omega
      · rw [upd_upd, List.range_succ, List.map_append, List.map_append, List.map_append]
        show upd _ _ (HO.lst (_ ++ [V.str (toString ((b >>> i &&& 1 : Nat) : Int))])) = _
        rw [str_bit]; rfl
    · rintro H2 rfl
      refine ⟨"", D1, _, rfl, rfl, .inl (SqL.of upd_same), ?_, ?_⟩
      · rw [join_lens, List.length_map, List.length_map, List.length_range]
        have : ("" : Str).length = 0 := by decide +kernel
        rw [this]; omega
      · rw [join_codes]
        exact k _ (same_new hD1)
theorem sum_bits (b : Nat) : ∀ n : Nat, ((((List.range n).filter fun i => b.testBit i).map fun i => (1 <<< i : Nat)).map fun k : Nat => (k : Int)).sum = ((b % 2 ^ n : Nat) : Int)
  | 0 => by rw [Nat.pow_zero, Nat.mod_one]; rfl
  | n + 1 => by
    rw [range_filter_snoc, List.map_append, List.map_append, List.sum_append, sum_bits b n]
    have key : b % 2 ^ (n + 1) = b % 2 ^ n + (if b.testBit n = true then 2 ^ n else 0) := by
      rw [Nat.mod_pow_succ, Nat.testBit_eq_decide_div_mod_eq]
      rcases Nat.mod_two_eq_zero_or_one (b / 2 ^ n) with h | h <;> rw [h]
      · rw [if_neg (by decide), Nat.mul_zero]
      · rw [if_pos (by decide), Nat.mul_one]
    rw [key]
    by_cases c : b.testBit n = true
    · rw [if_pos c, if_pos c, List.map_cons, List.map_nil, List.map_cons, List.map_nil, List.sum_cons, List.sum_nil, one_shl, Int.natCast_add, Int.add_zero]
    · rw [if_neg c, if_neg c]
      simp
def q__law_bits (K : PySem.W.Frag) : Sp := fun vs H Q _ => ∃ b n : Nat, vs = [.str (txt b n)] ∧ n ≤ 24 ∧ b < 2 ^ n ∧ ∀ H', Same H H' → Q (vn b) H'
theorem ok__law_bits (D : Ok K mg) : FnOk P w K mg base CX0 1 (He.ga K "_law_bits") (fdA K (He.ga K "_law_bits")) ["_law_row"] (q__law_bits K) := by
  refine D.f__law_bits.ok sc__law_bits (fun vs H Q E h => ?_) (fun cdv A outer s H vs Q E hr h => ?_)
  · obtain ⟨_, _, rfl, _⟩ := h
    rfl
  · refine ⟨_, PSs.nox (pss_one (ps_ret (pe_callB (cr_sum rfl) (by rfl) D.z_sum (by decide +kernel) (pa_cons (pe_lc (own := [("_law_at", 1), ("_law_sign", 2)]) (g := gTup K 2 (gCons (gName 1) (gCons (gName 2) gNil))) (by rfl) sc__law_bits.nd (pi_enumS (by rfl) D.z_enumerate (pa_cons (pv 0) pa_nil)) (blkOk_by (own := [("_law_at", 1), ("_law_sign", 2)]) (N := ["_law_row", "_law_at", "_law_sign"]) (sc := defScope s__law_bits) (by decide +kernel)) (fun _ _ _ _ _ => (pg_tup (by rfl) (pgs_cons (pg_name (i := 1) sc__law_bits.nd rfl (.inl rfl)) (pgs_cons (pg_name (i := 2) sc__law_bits.nd rfl (.inl rfl)) pgs_nil)))) (fun _ _ _ _ _ => pts_one (pt_cmpR op_eq (pv 2) pe_str (nomark _))) (fun _ _ _ _ _ => (pe_op osl pe_int (pv 1)))) pa_nil)))), ?_⟩
    obtain ⟨b, n, rfl, h24, hb, k⟩ := h
    have sz' : (txt b n).cps.size = n := txt_len b n
    refine ⟨_, rfl, _, rfl, fun D1 hD1 => lc_it walk_enumS (fun i H' => Same H H' ∧ H' D1 = some (.lst (vns (((List.range i).filter fun j => b.testBit j).map fun i => (1 <<< i : Nat))))) ⟨same_new hD1, upd_same⟩ (fun _ _ _ _ => trivial) ?_ ?_⟩
    · rintro i x H2 H1 hi ⟨s1, h1⟩ ⟨T, c, rfl, nT, rfl, ec⟩
      rw [sz'] at hi
      rw [txt_at hi] at ec
      have ec := (Option.some.inj ec).symm
      subst ec
      have nDT : D1 ≠ T := ne_of_none h1 nT
      refine ⟨T, _, rfl, SqT.of upd_same, rfl, _, _, rfl, _, _, rfl, rfl, rfl, _, rfl, rfl, _, rfl, ?_⟩
      rw [sign_dec]
      have key := range_filter_snoc i fun j => b.testBit j
      refine ite2 (fun hb => ?_) (fun hb => ?_)
      · rw [if_pos hb] at key
        refine ⟨_, rfl, 1, i, rfl, rfl, ⟨by decide, by omega⟩, _, Eq.trans (upd_ne nDT) h1, szl ?_, ?_⟩
        · have := List.length_filter_le (fun j => b.testBit j) (List.range i)
          rw [List.length_range] at this
          rw [vns_len, List.length_map]; omega
        · refine ⟨smut (snew s1 nT) hD1, ?_⟩
          rw [upd_same, key, vns, vns, List.map_append, List.map_append]; rfl
      · rw [if_neg hb, List.append_nil] at key
        exact ⟨snew s1 nT, by rw [upd_ne nDT, key]; exact h1⟩
    · rintro H1 ⟨s1, h1⟩
      rw [sz'] at h1
      refine ⟨D1, (((List.range n).filter fun j => b.testBit j).map fun i => (1 <<< i : Nat)).map fun k : Nat => (k : Int), rfl, SqL.of (by rw [h1, List.map_map]; rfl), ?_⟩
      rw [sum_bits, Nat.mod_eq_of_lt hb]
      exact k _ s1
def q__law_round (K : PySem.W.Frag) : Sp := fun vs H Q _ => ∃ (b N : Nat) (o : Int), vs = [vn b, vn N, .int o] ∧ b < 2 ^ N ∧ 0 < N ∧ N ≤ 30 ∧ Q (vn (itr (rho N) (o % (N : Int)).toNat b)) H
theorem ok__law_round (D : Ok K mg) : FnOk P w K mg base CX0 1 (He.ga K "_law_round") (fdA K (He.ga K "_law_round")) ["_law_bits_here", "_law_size", "_law_offset"] (q__law_round K) := by
  refine D.f__law_round.ok sc__law_round (fun vs H Q E h => ?_) (fun cdv A outer s H vs Q E hr h => ?_)
  · obtain ⟨_, _, _, rfl, _⟩ := h
    rfl
  · refine ⟨_, PSs.nox (pss_cons (ps_set (i := 3) sc__law_round.nd rfl (.inl rfl) (pe_op omz (pv 2) (pv 1)))
  (pss_one (ps_ret (pe_op oa (pe_op oo (pe_op osr (pv 0) (pv 3)) (pe_op osl (pv 0) (pe_op osb (pv 1) (pv 3)))) (pe_op osb (pe_op osl pe_int (pv 1)) pe_int))))), ?_⟩
    obtain ⟨b, N, o, rfl, hb, h0, h30, k⟩ := h
    have f1 := Int.emod_lt_of_pos o (show (0 : Int) < N by omega)
    have f2 := Int.emod_nonneg o (show (N : Int) ≠ 0 by omega)
    have fl : (o % (N : Int)).toNat < N := by omega
    have b64 : b < 2 ^ 64 := Nat.lt_of_lt_of_le hb (pow_mono (by omega))
    have one : 1 ≤ 1 <<< N := by rw [one_shl]; exact Nat.two_pow_pos N
    refine ⟨_, rfl, _, rfl, o, N, rfl, rfl, h0, ?_⟩
    rw [← law_turn hb fl] at k
    exact ⟨_, rfl, _, rfl, _, _, rfl, rfl, trivial, _, rfl, _, rfl, _, rfl, _, _, rfl, rfl, by omega, _, _, rfl, rfl, ⟨b64, by omega⟩, _, _, rfl, rfl, _, rfl, 1, N, rfl, rfl, ⟨by decide, by omega⟩, _, 1, rfl, rfl, one, _, _, rfl, rfl, k⟩
def mirF (n b : Nat) : Nat → Nat
  | 0 => b <<< 1
  | i + 1 => mirF n b i ||| (((b >>> (n - 1 - i)) &&& 1) <<< (n + 2 + i))
theorem mirF_tb (n b : Nat) (hb : b < 2 ^ n) : ∀ i, i ≤ n → ∀ j, (mirF n b i).testBit j = ((decide (1 ≤ j) && b.testBit (j - 1)) || (decide (n + 2 ≤ j) && decide (j < n + 2 + i) && b.testBit (2 * n + 1 - j)))
  | 0, _, j => by
    show (b <<< 1).testBit j = _
    rw [Nat.testBit_shiftLeft]
    have : (decide (n + 2 ≤ j) && decide (j < n + 2 + 0)) = false := by
      rw [← Bool.decide_and]; exact decide_eq_false (by omega)
    rw [this, Bool.false_and, Bool.or_false]
  | i + 1, hi, j => by
    show (mirF n b i ||| _).testBit j = _
    rw [Nat.testBit_or, mirF_tb n b hb i (by omega), Nat.testBit_shiftLeft, Bool.or_assoc]
    congr 1
    have e1 : ((b >>> (n - 1 - i)) &&& 1).testBit (j - (n + 2 + i)) = (decide (j - (n + 2 + i) = 0) && b.testBit (n - 1 - i)) := by
      have h1 : (1 : Nat) = 2 ^ 1 - 1 := rfl
      rw [h1, Nat.and_two_pow_sub_one_eq_mod, Nat.testBit_mod_two_pow, Nat.testBit_shiftRight]
      by_cases z : j - (n + 2 + i) = 0
      · rw [z]; rfl
      · rw [decide_eq_false z, decide_eq_false (by omega), Bool.false_and, Bool.false_and]
    rw [e1]
    by_cases c : j = n + 2 + i
    · subst c
      rw [decide_eq_true (by omega : n + 2 ≤ n + 2 + i), decide_eq_false (by omega : ¬ n + 2 + i < n + 2 + i), decide_eq_true (by omega : n + 2 + i ≥ n + 2 + i), decide_eq_true (by omega : n + 2 + i - (n + 2 + i) = 0), decide_eq_true (by omega : n + 2 + i < n + 2 + (i + 1)), show 2 * n + 1 - (n + 2 + i) = n - 1 - i by omega]
      simp
    · by_cases d : j < n + 2 + i
      · rw [decide_eq_true d, decide_eq_false (by omega : ¬ j ≥ n + 2 + i), decide_eq_true (by omega : j < n + 2 + (i + 1))]
        simp
      · rw [decide_eq_false d, decide_eq_false (by omega : ¬ j < n + 2 + (i + 1)), decide_eq_false (by omega : ¬ j - (n + 2 + i) = 0)]
        simp
theorem mirF_unf {n b : Nat} (hb : b < 2 ^ n) : mirF n b n = unf n b := by
  apply Nat.eq_of_testBit_eq
  intro j
  rw [mirF_tb n b hb n (Nat.le_refl _), unf_tb hb]
  congr 2
  congr 1
  exact decide_eq_decide.mpr (by omega)
def q__law_mirrored (K : PySem.W.Frag) : Sp := fun vs H Q _ => ∃ b n : Nat, vs = [vn b, vn n] ∧ b < 2 ^ n ∧ n ≤ 14 ∧ Q (vn (unf n b)) H
theorem ok__law_mirrored (D : Ok K mg) : FnOk P w K mg base CX0 1 (He.ga K "_law_mirrored") (fdA K (He.ga K "_law_mirrored")) ["_law_bits_here", "_law_size"] (q__law_mirrored K) := by
  refine D.f__law_mirrored.ok sc__law_mirrored (fun vs H Q E h => ?_) (fun cdv A outer s H vs Q E hr h => ?_)
  · obtain ⟨_, _, rfl, _⟩ := h
    rfl
  · refine ⟨_, PSs.nox (pss_cons (ps_set (i := 2) sc__law_mirrored.nd rfl (.inl rfl) (pe_op osl (pv 0) pe_int))
  (pss_cons (ps_for PassesOwn.never rfl (pi_range1 (by rfl) D.z_range (pa_cons (pv 1) pa_nil)) (pg_name (i := 3) sc__law_mirrored.nd rfl (.inl rfl))
    (pss_one (ps_set (i := 2) sc__law_mirrored.nd rfl (.inl rfl) (pe_op oo (pv 2) (pe_op osl (pe_op oa (pe_op osr (pv 0) (pe_op osb (pe_op osb (pv 1) pe_int) (pv 3))) pe_int) (pe_op oad (pe_op oad (pv 1) pe_int) (pv 3)))))))
  (pss_one (ps_ret (pv 2))))), ?_⟩
    obtain ⟨b, n, rfl, hb, h14, k⟩ := h
    have b64 : b < 2 ^ 64 := Nat.lt_of_lt_of_le hb (pow_mono (by omega))
    refine ⟨_, rfl, _, 1, rfl, rfl, ⟨b64, by decide⟩, ?_⟩
    refine ⟨_, rfl, (n : Int), rfl, by omega, by omega, ?_⟩
    rw [Int.toNat_natCast]
    refine for_it walk_range (fun i σ H' => H' = H ∧ ∃ y3, σ = [some (vn b), some (vn n), some (vn (mirF n b i)), y3]) ⟨rfl, none, rfl⟩ (fun _ _ _ _ _ => trivial) ?_ ?_
    · rintro i x σ H2 H3 hi ⟨rfl, y3, rfl⟩ ⟨eH, ex⟩
      subst eH
      have ex' : x = vn i := by
        rw [ex]
        show V.int ((0 : Int) + (i : Int)) = V.int (i : Int)
        rw [Int.zero_add]
      subst ex'
      have s64 : b >>> (n - 1 - i) &&& 1 < 2 ^ 64 := Nat.lt_of_le_of_lt Nat.and_le_right (by decide)
      refine ⟨_, rfl, _, rfl, _, rfl, _, 1, rfl, rfl, by omega, _, rfl, _, _, rfl, rfl, by omega, _, _, rfl, rfl, trivial, _, 1, rfl, rfl, _, rfl, _, 2, rfl, rfl, _, rfl, _, _, rfl, rfl, _, _, rfl, rfl, ⟨s64, by omega⟩, _, _, rfl, rfl, ?_⟩
      exact ⟨rfl, some (vn i), rfl⟩
    · rintro σ H2 ⟨rfl, y3, rfl⟩
      rw [mirF_unf hb]
      exact ⟨_, rfl, k⟩
def q__law_byT (K : PySem.W.Frag) : Sp := fun vs H Q _ => ∃ (ring : Bool) (a : Addr) (l : List Int) (n b : Nat), vs = [.str (kd ring), .ref a, vn n, vn b] ∧ SqT K H a (l.map V.int) ∧ 0 < n ∧ n ≤ 14 ∧ b < 2 ^ n ∧
  ∀ H', Same H H' → Q (vn (byA ring (xrl (l.map fun o : Int => (o % ((wd ring n : Nat) : Int)).toNat)) n b)) H'
theorem ok__law_byT (D : Ok K mg) : FnOk P w K mg base CX0 2 (He.ga K "_law_by") (fdA K (He.ga K "_law_by")) ["_law_kind_here", "_law_offsets_here", "_law_size", "_law_bits_here"] (q__law_byT K) := by
  refine D.f__law_by.ok sc__law_by (fun vs H Q E h => ?_) (fun cdv A outer s H vs Q E hr h => ?_)
  · obtain ⟨_, _, _, _, _, rfl, _⟩ := h
    rfl
  · refine ⟨_, PSs.nox (pss_cons (ps_asg (pe_ifExp (pt_cmpR op_eq (pv 0) pe_str (nomark _)) (pe_tup (pa_cons (pv 3) (pa_cons (pv 2) pa_nil))) (pe_tup (pa_cons (pe_call (ok__law_mirrored D) (hr.mono (by decide)) rfl D.m__law_mirrored D.f__law_mirrored.kp D.b__law_mirrored .nil pass0 (pa_cons (pv 3) (pa_cons (pv 2) pa_nil))) (pa_cons (pe_op oad (pe_op oml pe_int (pv 2)) pe_int) pa_nil)))) (pg_tup (by rfl) (pgs_cons (pg_name (i := 4) sc__law_by.nd rfl (.inl rfl)) (pgs_cons (pg_name (i := 5) sc__law_by.nd rfl (.inl rfl)) pgs_nil))))
  (pss_cons (ps_set (i := 6) sc__law_by.nd rfl (.inl rfl) pe_int)
  (pss_cons (ps_for PassesOwn.never rfl (pi_tup (pv 1)) (pg_name (i := 7) sc__law_by.nd rfl (.inl rfl))
    (pss_one (ps_set (i := 6) sc__law_by.nd rfl (.inl rfl) (pe_op ox (pv 6) (pe_call (ok__law_round D) (hr.mono (by decide)) rfl D.m__law_round D.f__law_round.kp D.b__law_round .nil pass0 (pa_cons (pv 4) (pa_cons (pv 5) (pa_cons (pv 7) pa_nil))))))))
  (pss_one (ps_ret (pe_ifExp (pt_cmpR op_eq (pv 0) pe_str (nomark _)) (pv 6) (pe_op oa (pe_op osr (pv 6) pe_int) (pe_op osb (pe_op osl pe_int (pv 2)) pe_int)))))))), ?_⟩
    obtain ⟨ring, a, l, n, b, rfl, ha, h0, h14, hb, k⟩ := h
    have one : 1 ≤ 1 <<< n := by rw [one_shl]; exact Nat.two_pow_pos n
    refine ⟨_, rfl, rfl, _, rfl, ?_⟩
    rw [kd_ring]
    cases ring with
    | true =>
      refine iteT ⟨_, rfl, _, rfl, sz (by show 2 ≤ 100000; decide), fun t ht => ?_⟩
      have s1 : Same H (upd H t (.tup [vn b, vn n])) := same_new ht
      refine ⟨t, _, rfl, SqT.of upd_same, rfl, _, _, rfl, _, _, rfl, rfl, ?_⟩
      generalize upd H t (.tup [vn b, vn n]) = H1 at s1 ⊢
      refine ⟨_, rfl, a, rfl, ⟨_, stup s1 ha⟩, for_it (walk_tup (xs := l.map V.int)) (fun i σ H' => Same H H' ∧ ∃ y7, σ = [some (.str (kd true)), some (.ref a), some (vn n), some (vn b), some (vn b), some (vn n), some (vn (Act (rho n) (xrl ((l.take i).map fun o => (o % (n : Int)).toNat)) b)), y7]) ⟨s1, none, rfl⟩ (fun i σ H' _ h => stup h.1 ha) ?_ ?_⟩
      · rintro i x σ H2 H3 hi ⟨s2, y7, rfl⟩ ⟨eH, ex⟩
        subst eH
        obtain ⟨o, eo, rfl⟩ := map_at ex
        refine ⟨_, rfl, _, rfl, _, rfl, _, rfl, b, n, o, rfl, hb, h0, by omega, ?_⟩
        refine ⟨_, _, rfl, rfl, s2, some (.int o), ?_⟩
        rw [take_succ eo, List.map_append, List.map_cons, List.map_nil, xrl_snoc, act_xor, one_shl, act_pow]; rfl
      · rintro σ H2 ⟨s2, y7, rfl⟩
        rw [List.length_map, List.take_length]
        refine ⟨_, rfl, rfl, _, rfl, ?_⟩
        rw [kd_ring]
        exact iteT ⟨_, rfl, k _ s2⟩
    | false =>
      refine iteF ⟨_, rfl, _, rfl, b, n, rfl, hb, h14, _, rfl, 2, n, rfl, rfl, by show 2 < 2 ^ 64; decide, _, 2, rfl, rfl, sz (by show 2 ≤ 100000; decide), fun t ht => ?_⟩
      have s1 : Same H (upd H t (.tup [vn (unf n b), vn (2 * n + 2)])) := same_new ht
      have hu := unf_lt hb
      refine ⟨t, _, rfl, SqT.of upd_same, rfl, _, _, rfl, _, _, rfl, rfl, ?_⟩
      generalize upd H t (.tup [vn (unf n b), vn (2 * n + 2)]) = H1 at s1 ⊢
      refine ⟨_, rfl, a, rfl, ⟨_, stup s1 ha⟩, for_it (walk_tup (xs := l.map V.int)) (fun i σ H' => Same H H' ∧ ∃ y7, σ = [some (.str (kd false)), some (.ref a), some (vn n), some (vn b), some (vn (unf n b)), some (vn (2 * n + 2)), some (vn (Act (rho (2 * n + 2)) (xrl ((l.take i).map fun o => (o % ((2 * n + 2 : Nat) : Int)).toNat)) (unf n b))), y7]) ⟨s1, none, rfl⟩ (fun i σ H' _ h => stup h.1 ha) ?_ ?_⟩
      · rintro i x σ H2 H3 hi ⟨s2, y7, rfl⟩ ⟨eH, ex⟩
        subst eH
        obtain ⟨o, eo, rfl⟩ := map_at ex
        refine ⟨_, rfl, _, rfl, _, rfl, _, rfl, unf n b, 2 * n + 2, o, rfl, hu, by omega, by omega, ?_⟩
        refine ⟨_, _, rfl, rfl, s2, some (.int o), ?_⟩
        rw [take_succ eo, List.map_append, List.map_cons, List.map_nil, xrl_snoc, act_xor, one_shl, act_pow]; rfl
      · rintro σ H2 ⟨s2, y7, rfl⟩
        rw [List.length_map, List.take_length]
        refine ⟨_, rfl, rfl, _, rfl, ?_⟩
        rw [kd_ring]
        refine iteF ⟨_, rfl, _, 1, rfl, rfl, trivial, _, rfl, 1, n, rfl, rfl, ⟨by decide, by omega⟩, _, 1, rfl, rfl, one, _, _, rfl, rfl, ?_⟩
        exact k _ s2

def q__law_byL (K : PySem.W.Frag) : Sp := fun vs H Q _ => ∃ (ring : Bool) (a : Addr) (l : List Int) (n b : Nat), vs = [.str (kd ring), .ref a, vn n, vn b] ∧ SqL K H a (l.map V.int) ∧ 0 < n ∧ n ≤ 14 ∧ b < 2 ^ n ∧
  ∀ H', Same H H' → Q (vn (byA ring (xrl (l.map fun o : Int => (o % ((wd ring n : Nat) : Int)).toNat)) n b)) H'
theorem ok__law_byL (D : Ok K mg) : FnOk P w K mg base CX0 2 (He.ga K "_law_by") (fdA K (He.ga K "_law_by")) ["_law_kind_here", "_law_offsets_here", "_law_size", "_law_bits_here"] (q__law_byL K) := by
  refine D.f__law_by.ok sc__law_by (fun vs H Q E h => ?_) (fun cdv A outer s H vs Q E hr h => ?_)
  · obtain ⟨_, _, _, _, _, rfl, _⟩ := h
    rfl
  · refine ⟨_, PSs.nox (pss_cons (ps_asg (pe_ifExp (pt_cmpR op_eq (pv 0) pe_str (nomark _)) (pe_tup (pa_cons (pv 3) (pa_cons (pv 2) pa_nil))) (pe_tup (pa_cons (pe_call (ok__law_mirrored D) (hr.mono (by decide)) rfl D.m__law_mirrored D.f__law_mirrored.kp D.b__law_mirrored .nil pass0 (pa_cons (pv 3) (pa_cons (pv 2) pa_nil))) (pa_cons (pe_op oad (pe_op oml pe_int (pv 2)) pe_int) pa_nil)))) (pg_tup (by rfl) (pgs_cons (pg_name (i := 4) sc__law_by.nd rfl (.inl rfl)) (pgs_cons (pg_name (i := 5) sc__law_by.nd rfl (.inl rfl)) pgs_nil))))
  (pss_cons (ps_set (i := 6) sc__law_by.nd rfl (.inl rfl) pe_int)
  (pss_cons (ps_for PassesOwn.never rfl (pi_list (pv 1)) (pg_name (i := 7) sc__law_by.nd rfl (.inl rfl))
    (pss_one (ps_set (i := 6) sc__law_by.nd rfl (.inl rfl) (pe_op ox (pv 6) (pe_call (ok__law_round D) (hr.mono (by decide)) rfl D.m__law_round D.f__law_round.kp D.b__law_round .nil pass0 (pa_cons (pv 4) (pa_cons (pv 5) (pa_cons (pv 7) pa_nil))))))))
  (pss_one (ps_ret (pe_ifExp (pt_cmpR op_eq (pv 0) pe_str (nomark _)) (pv 6) (pe_op oa (pe_op osr (pv 6) pe_int) (pe_op osb (pe_op osl pe_int (pv 2)) pe_int)))))))), ?_⟩
    obtain ⟨ring, a, l, n, b, rfl, ha, h0, h14, hb, k⟩ := h
    have one : 1 ≤ 1 <<< n := by rw [one_shl]; exact Nat.two_pow_pos n
    refine ⟨_, rfl, rfl, _, rfl, ?_⟩
    rw [kd_ring]
    cases ring with
    | true =>
      refine iteT ⟨_, rfl, _, rfl, sz (by show 2 ≤ 100000; decide), fun t ht => ?_⟩
      have s1 : Same H (upd H t (.tup [vn b, vn n])) := same_new ht
      refine ⟨t, _, rfl, SqT.of upd_same, rfl, _, _, rfl, _, _, rfl, rfl, ?_⟩
      generalize upd H t (.tup [vn b, vn n]) = H1 at s1 ⊢
      refine ⟨_, rfl, a, rfl, ⟨_, slist s1 ha⟩, for_it (walk_list (xs := l.map V.int)) (fun i σ H' => Same H H' ∧ ∃ y7, σ = [some (.str (kd true)), some (.ref a), some (vn n), some (vn b), some (vn b), some (vn n), some (vn (Act (rho n) (xrl ((l.take i).map fun o => (o % (n : Int)).toNat)) b)), y7]) ⟨s1, none, rfl⟩ (fun i σ H' _ h => slist h.1 ha) ?_ ?_⟩
      · rintro i x σ H2 H3 hi ⟨s2, y7, rfl⟩ ⟨eH, ex⟩
        subst eH
        obtain ⟨o, eo, rfl⟩ := map_at ex
        refine ⟨_, rfl, _, rfl, _, rfl, _, rfl, b, n, o, rfl, hb, h0, by omega, ?_⟩
        refine ⟨_, _, rfl, rfl, s2, some (.int o), ?_⟩
        rw [take_succ eo, List.map_append, List.map_cons, List.map_nil, xrl_snoc, act_xor, one_shl, act_pow]; rfl
      · rintro σ H2 ⟨s2, y7, rfl⟩
        rw [List.length_map, List.take_length]
        refine ⟨_, rfl, rfl, _, rfl, ?_⟩
        rw [kd_ring]
        exact iteT ⟨_, rfl, k _ s2⟩
    | false =>
      refine iteF ⟨_, rfl, _, rfl, b, n, rfl, hb, h14, _, rfl, 2, n, rfl, rfl, by show 2 < 2 ^ 64; decide, _, 2, rfl, rfl, sz (by show 2 ≤ 100000; decide), fun t ht => ?_⟩
      have s1 : Same H (upd H t (.tup [vn (unf n b), vn (2 * n + 2)])) := same_new ht
      have hu := unf_lt hb
      refine ⟨t, _, rfl, SqT.of upd_same, rfl, _, _, rfl, _, _, rfl, rfl, ?_⟩
      generalize upd H t (.tup [vn (unf n b), vn (2 * n + 2)]) = H1 at s1 ⊢
      refine ⟨_, rfl, a, rfl, ⟨_, slist s1 ha⟩, for_it (walk_list (xs := l.map V.int)) (fun i σ H' => Same H H' ∧ ∃ y7, σ = [some (.str (kd false)), some (.ref a), some (vn n), some (vn b), some (vn (unf n b)), some (vn (2 * n + 2)), some (vn (Act (rho (2 * n + 2)) (xrl ((l.take i).map fun o => (o % ((2 * n + 2 : Nat) : Int)).toNat)) (unf n b))), y7]) ⟨s1, none, rfl⟩ (fun i σ H' _ h => slist h.1 ha) ?_ ?_⟩
      · rintro i x σ H2 H3 hi ⟨s2, y7, rfl⟩ ⟨eH, ex⟩
        subst eH
        obtain ⟨o, eo, rfl⟩ := map_at ex
        refine ⟨_, rfl, _, rfl, _, rfl, _, rfl, unf n b, 2 * n + 2, o, rfl, hu, by omega, by omega, ?_⟩
        refine ⟨_, _, rfl, rfl, s2, some (.int o), ?_⟩
        rw [take_succ eo, List.map_append, List.map_cons, List.map_nil, xrl_snoc, act_xor, one_shl, act_pow]; rfl
      · rintro σ H2 ⟨s2, y7, rfl⟩
        rw [List.length_map, List.take_length]
        refine ⟨_, rfl, rfl, _, rfl, ?_⟩
        rw [kd_ring]
        refine iteF ⟨_, rfl, _, 1, rfl, rfl, trivial, _, rfl, 1, n, rfl, rfl, ⟨by decide, by omega⟩, _, 1, rfl, rfl, one, _, _, rfl, rfl, ?_⟩
        exact k _ s2

end
end K71
end

section
set_option maxHeartbeats 4000000
/-! the walk: the law's lists of offsets -/
namespace K71
open PySem PySem.Spec PyProof.Rows L2 KM RZ
/-- a dict of marks -/
def bdk (l : List (Nat × Bool)) : List (Key × V) := l.map fun e => (Sum.inl (e.1 : Int), .bl e.2)
theorem bdk_len (l : List (Nat × Bool)) : (bdk l).length = l.length := List.length_map ..
theorem bdk_look : ∀ (l : List (Nat × Bool)) (x : Nat), (valV (bdk l) (Sum.inl (x : Int) : Key)).getD (.bl false) = .bl (look l x)
  | [], x => rfl
  | e :: l, x => by
    show (valV ((Sum.inl (e.1 : Int), V.bl e.2) :: bdk l) _).getD _ = .bl (if e.1 = x then e.2 else look l x)
    by_cases c : e.1 = x
    · rw [if_pos c, valV_pos (p := (Sum.inl (e.1 : Int), V.bl e.2)) ((inl_iff _ _).mpr c)]; rfl
    · rw [if_neg c, valV_neg (p := (Sum.inl (e.1 : Int), V.bl e.2)) (fun z => c ((inl_iff _ _).mp z))]
      exact bdk_look l x
theorem bdk_at {l : List (Nat × Bool)} {e : Nat × Bool} (h : (l.map (·.1)).Nodup) (he : e ∈ l) : valV (bdk l) (Sum.inl (e.1 : Int) : Key) = some (.bl e.2) := by
  induction l with
  | nil => cases he
  | cons x l ih =>
    obtain ⟨h1, h2⟩ := List.nodup_cons.mp h
    show valV ((Sum.inl (x.1 : Int), V.bl x.2) :: bdk l) _ = _
    rcases List.mem_cons.mp he with q | q
    · rw [q]
      exact valV_pos (p := (Sum.inl (x.1 : Int), V.bl x.2)) rfl
    · rw [valV_neg (p := (Sum.inl (x.1 : Int), V.bl x.2)) (fun z => h1 (by show x.1 ∈ _; rw [(inl_iff _ _).mp z]; exact List.mem_map_of_mem q))]
      exact ih h2 q
theorem putK_ne {κ : Type} [DecidableEq κ] {p : κ × V} {r : List (κ × V)} {k : κ} {v : V} (h : ¬ p.1 = k) : putK (p :: r) k v = p :: putK r k v := by
  unfold putK
  rw [List.any_cons, decide_eq_false h, Bool.false_or]
  split
  · rw [List.map_cons, if_neg h]
  · rfl
theorem putK_eq {κ : Type} [DecidableEq κ] {p : κ × V} {r : List (κ × V)} {k : κ} {v : V} (h : p.1 = k) (hr : ∀ q ∈ r, ¬ q.1 = k) : putK (p :: r) k v = (k, v) :: r := by
  unfold putK
  rw [List.any_cons, decide_eq_true h, Bool.true_or, if_pos rfl, List.map_cons, if_pos h, h]
  congr 1
  have : ∀ q ∈ r, (if q.1 = k then (q.1, v) else q) = q := fun q hq => if_neg (hr q hq)
  rw [List.map_congr_left this, List.map_id']
theorem bdk_flp (x : Nat) : ∀ (l : List (Nat × Bool)), (l.map (·.1)).Nodup → putK (bdk l) (Sum.inl (x : Int) : Key) (.bl (!look l x)) = bdk (flp x l)
  | [], _ => rfl
  | e :: l, h => by
    obtain ⟨h1, h2⟩ := List.nodup_cons.mp h
    show putK ((Sum.inl (e.1 : Int), V.bl e.2) :: bdk l) _ (.bl (!(if e.1 = x then e.2 else look l x))) = bdk (if e.1 = x then (x, !e.2) :: l else e :: flp x l)
    by_cases c : e.1 = x
    · rw [if_pos c, if_pos c, putK_eq (p := (Sum.inl (e.1 : Int), V.bl e.2)) ((inl_iff _ _).mpr c)]
      · rfl
      · intro q hq
        obtain ⟨y, hy, rfl⟩ := List.mem_map.mp hq
        intro z
        have z := (inl_iff _ _).mp z
        exact h1 (by show e.1 ∈ _; rw [c, ← z]; exact List.mem_map_of_mem hy)
    · rw [if_neg c, if_neg c, putK_ne (p := (Sum.inl (e.1 : Int), V.bl e.2)) (fun z => c ((inl_iff _ _).mp z)), bdk_flp x l h2]; rfl
theorem itr_dbl {N : Nat} {A B : Nat → Nat} (h : ∀ u, u < 2 ^ N → B u = A (A u)) (hA : ∀ u, u < 2 ^ N → A u < 2 ^ N) : ∀ k u, u < 2 ^ N → itr B k u = itr A (2 * k) u
  | 0, _, _ => rfl
  | k + 1, u, hu => by
    show itr B k (B u) = itr A (2 * k + 1 + 1) u
    rw [h u hu, itr_dbl h hA k _ (hA _ (hA _ hu))]; rfl
theorem onM_mem {m : List (Nat × Bool)} {x : Nat} (h : x ∈ onM m) : x ∈ m.map (·.1) := by
  obtain ⟨e, he, rfl⟩ := List.mem_map.mp h
  exact List.mem_map_of_mem (List.mem_filter.mp he).1
theorem onM_nodup {m : List (Nat × Bool)} (h : (m.map (·.1)).Nodup) : (onM m).Nodup := List.Nodup.sublist (List.Sublist.map _ List.filter_sublist) h
section
variable {P : Program} {w : World} {K : PySem.W.Frag} {mg : Str → Option Value} {base : Heap}
def q__law_odd_ones (K : PySem.W.Frag) : Sp := fun vs H Q _ => ∃ (a : Addr) (l : List Nat), vs = [.ref a] ∧ SqL K H a (vns l) ∧ l.length ≤ 90000 ∧
  ∀ out p H', xrl out = xrl l → (∀ x ∈ out, x ∈ l) → out.Pairwise (· < ·) → Same H H' → H p = none → H' p = some (.lst (vns out)) → Q (.ref p) H'
theorem ok__law_odd_ones (D : Ok K mg) : FnOk P w K mg base CX0 1 (He.ga K "_law_odd_ones") (fdA K (He.ga K "_law_odd_ones")) ["_law_some"] (q__law_odd_ones K) := by
  refine D.f__law_odd_ones.ok sc__law_odd_ones (fun vs H Q E h => ?_) (fun cdv A outer s H vs Q E hr h => ?_)
  · obtain ⟨_, _, rfl, _⟩ := h
    rfl
  · refine ⟨_, PSs.nox (pss_cons (ps_set (i := 1) sc__law_odd_ones.nd rfl (.inr rfl) pe_dnewK)
  (pss_cons (ps_for PassesOwn.never rfl (pi_list (pv 0)) (pg_name (i := 2) sc__law_odd_ones.nd rfl (.inl rfl))
    (pss_one (ps_dput (hu_of hr) (pv 1) (pv 2) (pe_not (pe_dget2 (hu_of hr) (pv 1) (pv 2) pe_bl ⟨rfl, rfl, rfl, rfl⟩)) rfl)))
  (pss_one (ps_ret (pe_callB cr_sortedI (by rfl) D.z_sorted (by decide +kernel) (pa_cons (pe_lock (pe_lc (own := [("_law_one", 2)]) (by rfl) sc__law_odd_ones.nd (pi_keys (pv 1)) (blkOk_by (own := [("_law_one", 2)]) (N := ["_law_some", "_law_marks", "_law_one"]) (sc := defScope s__law_odd_ones) (by decide +kernel)) (fun _ _ _ _ _ => (pg_name (i := 2) sc__law_odd_ones.nd rfl (.inl rfl))) (fun _ _ _ _ _ => pts_one (pt_val (pe_dget (hu_of hr) (pv 1) (pv 2) (fun _ _ => rfl)))) (fun _ _ _ _ _ => (pv 2)))) pa_nil)))))), ?_⟩
    obtain ⟨a, l, rfl, hS, hl, k⟩ := h
    intro t ht
    have st : Same H (upd H t (.dK [])) := same_new ht
    refine ⟨_, rfl, a, rfl, ⟨_, slist st hS⟩, for_it (walk_list (xs := vns l)) (fun i σ H' => ∃ (m : List (Nat × Bool)) (y2 : Option V), Same H H' ∧ H' t = some (.dK (bdk m)) ∧ (m.map (·.1)).Nodup ∧ (∀ x ∈ m.map (·.1), x ∈ l) ∧ m.length ≤ i ∧ xrl (onM m) = xrl (l.take i) ∧ σ = [some (.ref a), some (.ref t), y2])
      ⟨[], none, st, upd_same, List.nodup_nil, fun x hx => (nomatch hx), Nat.le_refl _, rfl, rfl⟩ (fun i σ H' _ ⟨_, _, h, _⟩ => slist h hS) ?_ ?_⟩
    · rintro i x σ H2 H3 hi ⟨m, y2, s2, hT, nd, ms, ml, mx, rfl⟩ ⟨eH, ex⟩
      subst eH
      obtain ⟨p, ep, rfl⟩ := vns_at ex
      rw [vns_len] at hi
      refine ⟨_, rfl, t, rfl, .inl ⟨_, .inl hT⟩, _, rfl, _, DGet.k (k := Sum.inl (p : Int)) hT, _, bdk_look m p, ?_⟩
      refine ⟨_, rfl, _, rfl, t, _, rfl, DPut.k (k := Sum.inl (p : Int)) hT (szl (by rw [bdk_len]; omega)), ?_⟩
      rw [bdk_flp p m nd]
      refine ⟨flp p m, _, smut s2 ht, upd_same, flp_nodup p m nd, fun x hx => ?_, ?_, ?_, rfl⟩
      · rcases (flp_keys p m x).mp hx with h | h
        · rw [h]; exact List.mem_of_getElem? ep
        · exact ms x h
      · have : ∀ m : List (Nat × Bool), (flp p m).length ≤ m.length + 1 := by
          intro m
          induction m with
          | nil => exact Nat.le_refl _
          | cons e m ih =>
            show (if e.1 = p then (p, !e.2) :: m else e :: flp p m).length ≤ _
            split
            · rw [List.length_cons, List.length_cons]; omega
            · rw [List.length_cons, List.length_cons]; omega
        have := this m
        omega
      · rw [onM_flp, mx, take_succ ep, xrl_snoc]
    · rintro σ H2 ⟨m, y2, s2, hT, nd, ms, ml, mx, rfl⟩
      rw [vns_len, List.take_length] at mx
      rw [vns_len] at ml
      refine ⟨t, _, hT, trivial, fun od => ⟨_, rfl, t, od, rfl, .inl ⟨_, upd_same, fun Dn hDn => ?_⟩⟩⟩
      have ntD : t ≠ Dn := fun z => by rw [← z, upd_same] at hDn; cases hDn
      have hDn0 : H2 Dn = none := by
        rw [upd_ne ntD.symm] at hDn
        exact hDn
      refine lc_it (walk_keys (kvs := bdk m)) (fun j H' => H' = upd (upd H2 t (.frz od (.dK (bdk m)))) Dn (.lst (vns (onM (m.take j))))) rfl (fun j H' _ h => by rw [h, upd_ne ntD]; exact upd_same) ?_ ?_
      · rintro j x H3 H4 hj rfl ⟨rfl, kk, vv, exx, rfl⟩
        obtain ⟨e, ee, eq2⟩ := map_at exx
        cases eq2
        have fj := filt_take (p := fun x : Nat × Bool => x.2) ee
        have hv := bdk_at nd (List.mem_of_getElem? ee)
        have ef : onM (m.take (j + 1)) = onM (m.take j) ++ (if e.2 = true then [e.1] else []) := by
          unfold onM
          rw [fj, List.map_append]
          congr 1
          cases e.2 <;> rfl
        refine ⟨rfl, _, rfl, _, rfl, t, _, rfl, dget_frz (by rw [upd_ne ntD]; exact upd_same) hv, _, rfl, ?_⟩
        refine ite2 (fun hz => ?_) (fun hz => ?_)
        · rw [if_pos hz] at ef
          refine ⟨_, rfl, _, upd_same, szl ?_, ?_⟩
          · have := List.length_filter_le (fun x : Nat × Bool => x.2) (m.take j)
            rw [List.length_take] at this
            unfold onM
            rw [vns_len, List.length_map]
            omega
          · rw [upd_upd, ef, vns, vns, List.map_append]; rfl
        · rw [if_neg hz, List.append_nil] at ef
          rw [ef]
      · rintro H3 rfl
        rw [bdk_len, List.take_length]
        refine ⟨by rw [upd_ne ntD]; exact upd_same, ?_⟩
        have s7 : Same H2 (upd (upd (upd H2 t (.frz od (.dK (bdk m)))) Dn (.lst (vns (onM m)))) t (.dK (bdk m))) := fun b o eb => by
          by_cases hb : b = t
          · rw [hb] at eb ⊢
            rw [upd_same, ← eb, hT]
          · rw [upd_ne hb, upd_ne (ne_of_none eb hDn0), upd_ne hb]
            exact eb
        have hD7 : (upd (upd (upd H2 t (.frz od (.dK (bdk m)))) Dn (.lst (vns (onM m)))) t (.dK (bdk m))) Dn = some (.lst (((onM m).map fun k : Nat => (k : Int)).map V.int)) := by
          rw [upd_ne ntD.symm, upd_same, List.map_map]; rfl
        generalize upd (upd (upd H2 t (.frz od (.dK (bdk m)))) Dn (.lst (vns (onM m)))) t (.dK (bdk m)) = H7 at s7 hD7
        refine ⟨Dn, _, rfl, SqL.of hD7, fun ys p hperm hsort hp => ?_⟩
        have back : ((ys.map Int.toNat).map fun k : Nat => (k : Int)) = ys := by
          rw [List.map_map]
          refine (List.map_congr_left fun y hy => ?_).trans (List.map_id' ys)
          obtain ⟨z, _, rfl⟩ := List.mem_map.mp (hperm.mem_iff.mp hy)
          rfl
        have pm : (ys.map Int.toNat).Perm (onM m) := by
          have := hperm.map Int.toNat
          rw [List.map_map] at this
          refine this.trans (List.Perm.of_eq ?_)
          exact (List.map_congr_left fun y _ => rfl).trans (List.map_id' _)
        refine k (ys.map Int.toNat) p _ ((xrl_perm pm).trans mx) (fun x hx => ms x (onM_mem (pm.mem_iff.mp hx))) ?_ (snew (s2.trans s7) hp) ((s2.trans s7).free hp) ?_
        · have nd2 : (ys.map Int.toNat).Nodup := pm.nodup_iff.mpr (onM_nodup nd)
          have le : (ys.map Int.toNat).Pairwise (· ≤ ·) := by
            rw [List.pairwise_map]
            exact hsort.imp fun h => Int.toNat_le_toNat h
          exact (List.nodup_iff_pairwise_ne.mp nd2).imp₂ (fun {a b} h1 h2 => Nat.lt_of_le_of_ne h2 h1) le
        · have back2 : vns (ys.map Int.toNat) = ys.map V.int := by
            rw [← back, List.map_map, List.map_map, List.map_map]
            refine List.map_congr_left fun y _ => ?_
            rfl
          rw [upd_same, back2]
def q__law_offsets (K : PySem.W.Frag) : Sp := fun vs H Q _ => ∃ (ring : Bool) (a : Addr) (ru : List Int) (n t : Nat), vs = [.str (kd ring), .ref a, vn n, vn t] ∧ H a = some (.tup (ru.map V.int)) ∧ ru.length ≤ 1000 ∧ 0 < n ∧ n ≤ 14 ∧
  ∀ out p H', (∀ x ∈ out, x < wd ring n) → (∀ v, v < 2 ^ wd ring n → actL (wd ring n) out v = itr (Act (rho (wd ring n)) (onceM ru (wd ring n))) t v) → Same H H' → H p = none → H' p = some (.lst (vns out)) → Q (.ref p) H'
theorem ok__law_offsets (D : Ok K mg) : FnOk P w K mg base CX0 2 (He.ga K "_law_offsets") (fdA K (He.ga K "_law_offsets")) ["_law_kind_here", "_law_rule_here", "_law_size", "_law_beats"] (q__law_offsets K) := by
  refine D.f__law_offsets.ok sc__law_offsets (fun vs H Q E h => ?_) (fun cdv A outer s H vs Q E hr h => ?_)
  · obtain ⟨_, _, _, _, _, rfl, _⟩ := h
    rfl
  · refine ⟨_, PSs.nox (pss_cons (ps_set (i := 4) sc__law_offsets.nd rfl (.inr rfl) (pe_ifExp (pt_cmpR op_eq (pv 0) pe_str (nomark _)) (pv 2) (pe_op oad (pe_op oml pe_int (pv 2)) pe_int)))
  (pss_cons (ps_par3 (i := 5) (j := 6) (l := 7) (by rfl) sc__law_offsets.nd rfl rfl rfl (by decide) (by decide) (by decide) rfl rfl rfl (pa_cons (pe_lst (pa_cons pe_int pa_nil)) (pa_cons (pe_lc (own := [("_law_offset", 10)]) (by rfl) sc__law_offsets.nd (pi_tup (pv 1)) (blkOk_by (own := [("_law_offset", 10)]) (N := ["_law_kind_here", "_law_rule_here", "_law_size", "_law_beats", "_law_wide", "_law_found", "_law_here", "_law_rest", "_law_some", "_law_one", "_law_offset", "_law_other"]) (sc := defScope s__law_offsets) (by decide +kernel)) (fun _ _ _ _ _ => (pg_name (i := 10) sc__law_offsets.nd rfl (.inl rfl))) (fun _ _ _ _ _ => pts_nil) (fun _ _ _ _ _ => (pe_op omz (pv 10) (pv 4)))) (pa_cons (pv 3) pa_nil))) (by rfl))
  (pss_cons (ps_while PassesOwn.never (pt_cmpR op_gt (pv 7) pe_int (nomark _))
    (pss_cons (ps_if (pt_cmpR op_eq (pe_op omd (pv 7) pe_int) pe_int (nomark _)) (pss_cons (ps_set (i := 8) sc__law_offsets.nd rfl (.inl rfl) (pe_lst pa_nil))
  (pss_cons (ps_for PassesOwn.never rfl (pi_list (pv 5)) (pg_name (i := 9) sc__law_offsets.nd rfl (.inr rfl))
    (pss_one (ps_expr (pe_bm PySem.F.plainAttrs_list PySem.F.slot_list_extend PySem.F.type_list_extend mt_extend (pv 8) (pa_cons (pe_lc (own := [("_law_other", 11)]) (by rfl) sc__law_offsets.nd (pi_list (pv 6)) (blkOk_by (own := [("_law_other", 11)]) (N := ["_law_kind_here", "_law_rule_here", "_law_size", "_law_beats", "_law_wide", "_law_found", "_law_here", "_law_rest", "_law_some", "_law_one", "_law_offset", "_law_other"]) (sc := defScope s__law_offsets) (by decide +kernel)) (fun _ _ _ _ _ => (pg_name (i := 11) sc__law_offsets.nd rfl (.inl rfl))) (fun _ _ _ _ _ => pts_nil) (fun _ _ _ _ _ => (pe_op omd (pe_op oad (pv 9) (pv 11)) (pv 4)))) pa_nil)))))
  (pss_one (ps_set (i := 5) sc__law_offsets.nd rfl (.inl rfl) (pe_call (ok__law_odd_ones D) (hr.mono (by decide)) rfl D.m__law_odd_ones D.f__law_odd_ones.kp D.b__law_odd_ones .nil pass0 (pa_cons (pv 8) pa_nil)))))) pss_nil)
  (pss_one (ps_par (i := 6) (j := 7) (by rfl) sc__law_offsets.nd rfl rfl (by decide) rfl rfl (pa_cons (pe_call (ok__law_odd_ones D) (hr.mono (by decide)) rfl D.m__law_odd_ones D.f__law_odd_ones.kp D.b__law_odd_ones .nil pass0 (pa_cons (pe_lc (own := [("_law_one", 9)]) (by rfl) sc__law_offsets.nd (pi_list (pv 6)) (blkOk_by (own := [("_law_one", 9)]) (N := ["_law_kind_here", "_law_rule_here", "_law_size", "_law_beats", "_law_wide", "_law_found", "_law_here", "_law_rest", "_law_some", "_law_one", "_law_offset", "_law_other"]) (sc := defScope s__law_offsets) (by decide +kernel)) (fun _ _ _ _ _ => (pg_name (i := 9) sc__law_offsets.nd rfl (.inl rfl))) (fun _ _ _ _ _ => pts_nil) (fun _ _ _ _ _ => (pe_op omd (pe_op oml pe_int (pv 9)) (pv 4)))) pa_nil)) (pa_cons (pe_op osr (pv 7) pe_int) pa_nil)) (by rfl)))))
  (pss_one (ps_ret (pv 5)))))), ?_⟩
    obtain ⟨ring, a, ru, n, t, rfl, ha, hlen, h0, h14, k⟩ := h
    refine ⟨_, rfl, rfl, _, rfl, ?_⟩
    rw [kd_ring]
    cases ring with
    | true =>
      refine iteT ⟨_, rfl, ?_⟩
      have k : ∀ out p H', (∀ x ∈ out, x < n) → (∀ v, v < 2 ^ n → actL n out v = itr (Act (rho n) (onceM ru n)) t v) → Same H H' → H p = none → H' p = some (.lst (vns out)) → Q (.ref p) H' := k
      have hN0 : 0 < n := by omega
      refine ⟨sz (by show 1 ≤ 100000; decide), fun F0 hF0 => ?_⟩
      have s0 : Same H (upd H F0 (.lst [.int 0])) := same_new hF0
      have hF1 : (upd H F0 (.lst [.int 0])) F0 = some (.lst [.int 0]) := upd_same
      generalize upd H F0 (.lst [.int 0]) = H0 at s0 hF1
      refine ⟨_, rfl, _, rfl, ⟨_, SqT.of (s0 _ _ ha)⟩, fun D1 hD1 => lc_it (walk_tup (xs := ru.map V.int)) (fun i H' => H' = upd H0 D1 (.lst (vns ((ru.take i).map fun o => (o % ((n : Nat) : Int)).toNat)))) rfl (fun i H' _ h => by rw [h]; exact stup (same_new hD1) (SqT.of (s0 _ _ ha))) ?_ ?_⟩
      · rintro i x H2 H3 hi rfl ⟨rfl, ex⟩
        obtain ⟨o, eo, rfl⟩ := map_at ex
        rw [List.length_map] at hi
        refine ⟨rfl, ⟨_, rfl, _, rfl, o, n, rfl, rfl, hN0, _, upd_same, szl ?_, ?_⟩⟩
        · rw [vns_len, List.length_map, List.length_take]; omega
        · rw [upd_upd, take_succ eo, List.map_append, vns, vns, List.map_append]; rfl
      · rintro H2 rfl
        rw [List.length_map, List.take_length]
        have s1 : Same H0 (upd H0 D1 (.lst (vns (ru.map fun o => (o % ((n : Nat) : Int)).toNat)))) := same_new hD1
        have hD2 : (upd H0 D1 (.lst (vns (ru.map fun o => (o % ((n : Nat) : Int)).toNat)))) D1 = some (.lst (vns (ru.map fun o => (o % ((n : Nat) : Int)).toNat))) := upd_same
        generalize upd H0 D1 (.lst (vns (ru.map fun o => (o % ((n : Nat) : Int)).toNat))) = H1 at s1 hD2
        refine ⟨_, rfl, _, _, _, rfl, ?_⟩
        refine ⟨fun m σ H' => ∃ (F Hh : Addr) (fo he : List Nat) (re : Nat) (y8 y9 : Option V), Same H H' ∧ H F = none ∧ H' F = some (.lst (vns fo)) ∧ H' Hh = some (.lst (vns he)) ∧ (∀ x ∈ fo, x < n) ∧ (∀ x ∈ he, x < n) ∧ fo.length ≤ 31 ∧ he.length ≤ 1000 ∧ m = blen re ∧ (∀ v, v < 2 ^ n → itr (actL n he) re (actL n fo v) = itr (Act (rho n) (onceM ru n)) t v) ∧ σ = [some (.str (kd true)), some (.ref a), some (vn n), some (vn t), some (vn n), some (.ref F), some (.ref Hh), some (vn re), y8, y9, none, none],
          ⟨blen t, F0, D1, [0], _, t, none, none, s0.trans s1, hF0, s1 _ _ hF1, hD2, fun x hx => by rw [List.mem_singleton.mp hx]; exact hN0, fun x hx => ?_, by show 1 ≤ 31; decide, by rw [List.length_map]; exact hlen, rfl, fun v hv => ?_, rfl⟩, ?_⟩
        · obtain ⟨o, _, rfl⟩ := List.mem_map.mp hx
          have := Int.emod_lt_of_pos o (show (0 : Int) < ((n : Nat) : Int) by omega)
          have := Int.emod_nonneg o (show ((n : Nat) : Int) ≠ 0 by omega)
          omega
        · rw [actL_cons, actL_nil, Nat.xor_zero]; rfl
        rintro m σ H' ⟨F, Hh, fo, he, re, y8, y9, sm, hFn, hF, hH, fl, hl2, fln, hln, rfl, hinv, rfl⟩
        refine ⟨_, rfl, _, _, rfl, rfl, _, rfl, ?_⟩
        refine itL (n := 0) (fun hpos => ?_) (fun hz => ?_)
        · refine ⟨fun σ H' => ∃ m', m' < blen re ∧ ∃ (F Hh : Addr) (fo he : List Nat) (re : Nat) (y8 y9 : Option V), Same H H' ∧ H F = none ∧ H' F = some (.lst (vns fo)) ∧ H' Hh = some (.lst (vns he)) ∧ (∀ x ∈ fo, x < n) ∧ (∀ x ∈ he, x < n) ∧ fo.length ≤ 31 ∧ he.length ≤ 1000 ∧ m' = blen re ∧ (∀ v, v < 2 ^ n → itr (actL n he) re (actL n fo v) = itr (Act (rho n) (onceM ru n)) t v) ∧ σ = [some (.str (kd true)), some (.ref a), some (vn n), some (vn t), some (vn n), some (.ref F), some (.ref Hh), some (vn re), y8, y9, none, none], fun _ _ h => h, ?_⟩
          refine ⟨_, rfl, _, 2, rfl, rfl, (by show 0 < 2; decide), rfl, _, rfl, ?_⟩
          refine itE (m := 1) (fun ho => ?_) (fun ho => ?_)
          · refine ⟨Nat.zero_le _, fun Sx hSx => ?_⟩
            have sS : Same H' (upd H' Sx (.lst [])) := same_new hSx
            have hSx0 : H Sx = none := sm.free hSx
            have nFS : F ≠ Sx := ne_of_none hF hSx
            have nHS : Hh ≠ Sx := ne_of_none hH hSx
            refine ⟨_, rfl, F, rfl, ⟨_, SqL.of (sS _ _ hF)⟩, for_it (walk_list (xs := vns fo)) (fun i σ H2 => ∃ y9, Same H' H2 ∧ H2 Sx = some (.lst (vns ((fo.take i).flatMap fun p => he.map fun q => (p + q) % n))) ∧ σ = [some (.str (kd true)), some (.ref a), some (vn n), some (vn t), some (vn n), some (.ref F), some (.ref Hh), some (vn re), some (.ref Sx), y9, none, none]) ⟨_, sS, upd_same, rfl⟩ (fun i σ H2 _ ⟨_, h, _⟩ => SqL.of (h _ _ hF)) ?_ ?_⟩
            · rintro i x σ H2 H3 hi ⟨y9, s2, hS, rfl⟩ ⟨eH, ex⟩
              subst eH
              obtain ⟨p, ep, rfl⟩ := vns_at ex
              rw [vns_len] at hi
              have fmlen : ((fo.take i).flatMap fun p => he.map fun q => (p + q) % n).length ≤ 31 * 1000 := by
                have : ∀ l : List Nat, (l.flatMap fun p => he.map fun q => (p + q) % n).length = l.length * he.length := by
                  intro l
                  induction l with
                  | nil => rw [List.flatMap_nil, List.length_nil, Nat.zero_mul]
                  | cons x l ih => rw [List.flatMap_cons, List.length_append, ih, List.length_map, List.length_cons, Nat.succ_mul, Nat.add_comm]
                rw [this, List.length_take]
                exact Nat.mul_le_mul (by omega) hln
              refine ⟨_, rfl, .inl ⟨rfl, _, SqL.of hS⟩, _, rfl, Hh, rfl, ⟨_, SqL.of (s2 _ _ hH)⟩, fun D2 hD2 => lc_it (walk_list (xs := vns he)) (fun j H5 => H5 = upd H3 D2 (.lst (vns ((he.take j).map fun q => (p + q) % n)))) rfl (fun j H5 _ h => by rw [h]; exact slist (same_new hD2) (SqL.of (s2 _ _ hH))) ?_ ?_⟩
              · rintro j x H5 H6 hj rfl ⟨rfl, ex⟩
                obtain ⟨q, eq, rfl⟩ := vns_at ex
                refine ⟨rfl, _, rfl, _, rfl, _, _, rfl, rfl, _, rfl, _, _, rfl, rfl, hN0, _, upd_same, szl ?_, ?_⟩
                · rw [vns_len, List.length_map, List.length_take]; omega
                · rw [upd_upd, take_succ eq, List.map_append, vns, vns, List.map_append]; rfl
              · rintro H5 rfl
                rw [vns_len, List.take_length]
                have nSD : Sx ≠ D2 := ne_of_none hS hD2
                have s5 : Same H3 (upd H3 D2 (.lst (vns (he.map fun q => (p + q) % n)))) := same_new hD2
                refine ⟨Sx, D2, _, _, rfl, rfl, s5 _ _ hS, upd_same, sz (by rw [vns_len, vns_len, List.length_map]; omega), ?_⟩
                refine ⟨some (vn p), smut (s2.trans s5) hSx, ?_, rfl⟩
                rw [upd_same, take_succ ep, List.flatMap_append, vns, vns, vns, List.map_append, List.flatMap_cons, List.flatMap_nil, List.append_nil]
            · rintro σ H2 ⟨y9, s2, hS, rfl⟩
              rw [vns_len, List.take_length] at hS
              have fmlen : (fo.flatMap fun p => he.map fun q => (p + q) % n).length ≤ 31 * 1000 := by
                have : ∀ l : List Nat, (l.flatMap fun p => he.map fun q => (p + q) % n).length = l.length * he.length := by
                  intro l
                  induction l with
                  | nil => rw [List.flatMap_nil, List.length_nil, Nat.zero_mul]
                  | cons x l ih => rw [List.flatMap_cons, List.length_append, ih, List.length_map, List.length_cons, Nat.succ_mul, Nat.add_comm]
                rw [this]
                exact Nat.mul_le_mul fln hln
              refine ⟨_, rfl, Sx, _, rfl, SqL.of hS, by omega, fun fo2 F2 H3 hx hm ha3 s3 hp hP => ?_⟩
              have flt : ∀ x ∈ fo2, x < n := fun x hx => by
                obtain ⟨p, _, hq⟩ := List.mem_flatMap.mp (hm x hx)
                obtain ⟨q, _, rfl⟩ := List.mem_map.mp hq
                exact Nat.mod_lt _ hN0
              have fln2 := asc_len fo2 0 n ha3 fun d hd => ⟨Nat.zero_le _, flt d hd⟩
              have inv2 : ∀ v, v < 2 ^ n → itr (actL n he) (2 * (re / 2)) (actL n fo2 v) = itr (Act (rho n) (onceM ru n)) t v := fun v hv => by
                have e : actL n fo2 v = actL n (fo.flatMap fun p => he.map fun q => (p + q) % n) v := by unfold actL; rw [hx]
                rw [e, actL_prod hN0 he fo v hv, ← hinv v hv]
                have er : re = 2 * (re / 2) + 1 := by omega
                conv => rhs; rw [er]
                rfl
              have sc := (sm.trans s2).trans s3
              have hHc := s3 _ _ (s2 _ _ hH)
              refine ⟨_, rfl, Hh, rfl, ⟨_, SqL.of hHc⟩, fun D3 hD3 => lc_it (walk_list (xs := vns he)) (fun j H5 => H5 = upd H3 D3 (.lst (vns ((he.take j).map fun q => 2 * q % n)))) rfl (fun j H5 _ h => by rw [h]; exact slist (same_new hD3) (SqL.of hHc)) ?_ ?_⟩
              · rintro j x H5 H6 hj rfl ⟨rfl, ex⟩
                obtain ⟨q, eq, rfl⟩ := vns_at ex
                refine ⟨rfl, _, rfl, 2, q, rfl, rfl, by show 2 < 2 ^ 64; decide, _, rfl, _, _, rfl, rfl, hN0, _, upd_same, szl ?_, ?_⟩
                · rw [vns_len, List.length_map, List.length_take]; omega
                · rw [upd_upd, take_succ eq, List.map_append, vns, vns, List.map_append]; rfl
              · rintro H5 rfl
                rw [vns_len, List.take_length]
                have s5 : Same H3 (upd H3 D3 (.lst (vns (he.map fun q => 2 * q % n)))) := same_new hD3
                have hD5 : (upd H3 D3 (.lst (vns (he.map fun q => 2 * q % n)))) D3 = some (.lst (vns (he.map fun q => 2 * q % n))) := upd_same
                generalize upd H3 D3 (.lst (vns (he.map fun q => 2 * q % n))) = H5 at s5 hD5
                refine ⟨D3, _, rfl, SqL.of hD5, by rw [List.length_map]; omega, fun he2 Hh2 H6 hx2 hm2 ha2 s6 hp2 hP2 => ?_⟩
                refine ⟨_, rfl, _, 1, rfl, rfl, trivial, _, _, rfl, ?_⟩
                have lt2 : ∀ x ∈ he2, x < n := fun x hx => by
                  obtain ⟨q, _, rfl⟩ := List.mem_map.mp (hm2 x hx)
                  exact Nat.mod_lt _ hN0
                have ln2 := asc_len he2 0 n ha2 fun d hd => ⟨Nat.zero_le _, lt2 d hd⟩
                refine ⟨_, half_step hpos, F2, Hh2, fo2, he2, re / 2, _, _, (sc.trans s5).trans s6, (sm.trans s2).free hp, s6 _ _ (s5 _ _ hP), hP2, flt, lt2, by omega, by omega, rfl, fun v hv => ?_, rfl⟩
                have dbl : ∀ u, u < 2 ^ n → actL n he2 u = actL n he (actL n he u) := fun u hu => by
                  have e : actL n he2 u = actL n (he.map fun q => 2 * q % n) u := by unfold actL; rw [hx2]
                  rw [e, actL_twice hN0 he u hu]
                rw [itr_dbl dbl (fun u hu => actL_lt he hu) _ _ (actL_lt _ hv)]
                exact inv2 v hv

          · have inv2 : ∀ v, v < 2 ^ n → itr (actL n he) (2 * (re / 2)) (actL n fo v) = itr (Act (rho n) (onceM ru n)) t v := fun v hv => by
              rw [← hinv v hv]
              have er : re = 2 * (re / 2) := by omega
              conv => rhs; rw [er]
            refine ⟨_, rfl, Hh, rfl, ⟨_, SqL.of hH⟩, fun D3 hD3 => lc_it (walk_list (xs := vns he)) (fun j H5 => H5 = upd H' D3 (.lst (vns ((he.take j).map fun q => 2 * q % n)))) rfl (fun j H5 _ h => by rw [h]; exact slist (same_new hD3) (SqL.of hH)) ?_ ?_⟩
            · rintro j x H5 H6 hj rfl ⟨rfl, ex⟩
              obtain ⟨q, eq, rfl⟩ := vns_at ex
              refine ⟨rfl, _, rfl, 2, q, rfl, rfl, by show 2 < 2 ^ 64; decide, _, rfl, _, _, rfl, rfl, hN0, _, upd_same, szl ?_, ?_⟩
              · rw [vns_len, List.length_map, List.length_take]; omega
              · rw [upd_upd, take_succ eq, List.map_append, vns, vns, List.map_append]; rfl
            · rintro H5 rfl
              rw [vns_len, List.take_length]
              have s5 : Same H' (upd H' D3 (.lst (vns (he.map fun q => 2 * q % n)))) := same_new hD3
              have hD5 : (upd H' D3 (.lst (vns (he.map fun q => 2 * q % n)))) D3 = some (.lst (vns (he.map fun q => 2 * q % n))) := upd_same
              generalize upd H' D3 (.lst (vns (he.map fun q => 2 * q % n))) = H5 at s5 hD5
              refine ⟨D3, _, rfl, SqL.of hD5, by rw [List.length_map]; omega, fun he2 Hh2 H6 hx2 hm2 ha2 s6 hp2 hP2 => ?_⟩
              refine ⟨_, rfl, _, 1, rfl, rfl, trivial, _, _, rfl, ?_⟩
              have lt2 : ∀ x ∈ he2, x < n := fun x hx => by
                obtain ⟨q, _, rfl⟩ := List.mem_map.mp (hm2 x hx)
                exact Nat.mod_lt _ hN0
              have ln2 := asc_len he2 0 n ha2 fun d hd => ⟨Nat.zero_le _, lt2 d hd⟩
              refine ⟨_, half_step hpos, F, Hh2, fo, he2, re / 2, _, _, (sm.trans s5).trans s6, hFn, s6 _ _ (s5 _ _ hF), hP2, fl, lt2, fln, by omega, rfl, fun v hv => ?_, rfl⟩
              have dbl : ∀ u, u < 2 ^ n → actL n he2 u = actL n he (actL n he u) := fun u hu => by
                have e : actL n he2 u = actL n (he.map fun q => 2 * q % n) u := by unfold actL; rw [hx2]
                rw [e, actL_twice hN0 he u hu]
              rw [itr_dbl dbl (fun u hu => actL_lt he hu) _ _ (actL_lt _ hv)]
              exact inv2 v hv

        · have hz : re = 0 := Nat.le_zero.mp hz
          subst hz
          exact ⟨_, rfl, k fo F H' fl (fun v hv => hinv v hv) sm hFn hF⟩

    | false =>
      refine iteF ⟨_, rfl, 2, n, rfl, rfl, by show 2 < 2 ^ 64; decide, _, 2, rfl, rfl, ?_⟩
      have k : ∀ out p H', (∀ x ∈ out, x < (2 * n + 2)) → (∀ v, v < 2 ^ (2 * n + 2) → actL (2 * n + 2) out v = itr (Act (rho (2 * n + 2)) (onceM ru (2 * n + 2))) t v) → Same H H' → H p = none → H' p = some (.lst (vns out)) → Q (.ref p) H' := k
      have hN0 : 0 < (2 * n + 2) := by omega
      refine ⟨sz (by show 1 ≤ 100000; decide), fun F0 hF0 => ?_⟩
      have s0 : Same H (upd H F0 (.lst [.int 0])) := same_new hF0
      have hF1 : (upd H F0 (.lst [.int 0])) F0 = some (.lst [.int 0]) := upd_same
      generalize upd H F0 (.lst [.int 0]) = H0 at s0 hF1
      refine ⟨_, rfl, _, rfl, ⟨_, SqT.of (s0 _ _ ha)⟩, fun D1 hD1 => lc_it (walk_tup (xs := ru.map V.int)) (fun i H' => H' = upd H0 D1 (.lst (vns ((ru.take i).map fun o => (o % (((2 * n + 2) : Nat) : Int)).toNat)))) rfl (fun i H' _ h => by rw [h]; exact stup (same_new hD1) (SqT.of (s0 _ _ ha))) ?_ ?_⟩
      · rintro i x H2 H3 hi rfl ⟨rfl, ex⟩
        obtain ⟨o, eo, rfl⟩ := map_at ex
        rw [List.length_map] at hi
        refine ⟨rfl, ⟨_, rfl, _, rfl, o, (2 * n + 2), rfl, rfl, hN0, _, upd_same, szl ?_, ?_⟩⟩
        · rw [vns_len, List.length_map, List.length_take]; omega
        · rw [upd_upd, take_succ eo, List.map_append, vns, vns, List.map_append]; rfl
      · rintro H2 rfl
        rw [List.length_map, List.take_length]
        have s1 : Same H0 (upd H0 D1 (.lst (vns (ru.map fun o => (o % (((2 * n + 2) : Nat) : Int)).toNat)))) := same_new hD1
        have hD2 : (upd H0 D1 (.lst (vns (ru.map fun o => (o % (((2 * n + 2) : Nat) : Int)).toNat)))) D1 = some (.lst (vns (ru.map fun o => (o % (((2 * n + 2) : Nat) : Int)).toNat))) := upd_same
        generalize upd H0 D1 (.lst (vns (ru.map fun o => (o % (((2 * n + 2) : Nat) : Int)).toNat))) = H1 at s1 hD2
        refine ⟨_, rfl, _, _, _, rfl, ?_⟩
        refine ⟨fun m σ H' => ∃ (F Hh : Addr) (fo he : List Nat) (re : Nat) (y8 y9 : Option V), Same H H' ∧ H F = none ∧ H' F = some (.lst (vns fo)) ∧ H' Hh = some (.lst (vns he)) ∧ (∀ x ∈ fo, x < (2 * n + 2)) ∧ (∀ x ∈ he, x < (2 * n + 2)) ∧ fo.length ≤ 31 ∧ he.length ≤ 1000 ∧ m = blen re ∧ (∀ v, v < 2 ^ (2 * n + 2) → itr (actL (2 * n + 2) he) re (actL (2 * n + 2) fo v) = itr (Act (rho (2 * n + 2)) (onceM ru (2 * n + 2))) t v) ∧ σ = [some (.str (kd false)), some (.ref a), some (vn n), some (vn t), some (vn (2 * n + 2)), some (.ref F), some (.ref Hh), some (vn re), y8, y9, none, none],
          ⟨blen t, F0, D1, [0], _, t, none, none, s0.trans s1, hF0, s1 _ _ hF1, hD2, fun x hx => by rw [List.mem_singleton.mp hx]; exact hN0, fun x hx => ?_, by show 1 ≤ 31; decide, by rw [List.length_map]; exact hlen, rfl, fun v hv => ?_, rfl⟩, ?_⟩
        · obtain ⟨o, _, rfl⟩ := List.mem_map.mp hx
          have := Int.emod_lt_of_pos o (show (0 : Int) < (((2 * n + 2) : Nat) : Int) by omega)
          have := Int.emod_nonneg o (show (((2 * n + 2) : Nat) : Int) ≠ 0 by omega)
          omega
        · rw [actL_cons, actL_nil, Nat.xor_zero]; rfl
        rintro m σ H' ⟨F, Hh, fo, he, re, y8, y9, sm, hFn, hF, hH, fl, hl2, fln, hln, rfl, hinv, rfl⟩
        refine ⟨_, rfl, _, _, rfl, rfl, _, rfl, ?_⟩
        refine itL (n := 0) (fun hpos => ?_) (fun hz => ?_)
        · refine ⟨fun σ H' => ∃ m', m' < blen re ∧ ∃ (F Hh : Addr) (fo he : List Nat) (re : Nat) (y8 y9 : Option V), Same H H' ∧ H F = none ∧ H' F = some (.lst (vns fo)) ∧ H' Hh = some (.lst (vns he)) ∧ (∀ x ∈ fo, x < (2 * n + 2)) ∧ (∀ x ∈ he, x < (2 * n + 2)) ∧ fo.length ≤ 31 ∧ he.length ≤ 1000 ∧ m' = blen re ∧ (∀ v, v < 2 ^ (2 * n + 2) → itr (actL (2 * n + 2) he) re (actL (2 * n + 2) fo v) = itr (Act (rho (2 * n + 2)) (onceM ru (2 * n + 2))) t v) ∧ σ = [some (.str (kd false)), some (.ref a), some (vn n), some (vn t), some (vn (2 * n + 2)), some (.ref F), some (.ref Hh), some (vn re), y8, y9, none, none], fun _ _ h => h, ?_⟩
          refine ⟨_, rfl, _, 2, rfl, rfl, (by show 0 < 2; decide), rfl, _, rfl, ?_⟩
          refine itE (m := 1) (fun ho => ?_) (fun ho => ?_)
          · refine ⟨Nat.zero_le _, fun Sx hSx => ?_⟩
            have sS : Same H' (upd H' Sx (.lst [])) := same_new hSx
            have hSx0 : H Sx = none := sm.free hSx
            have nFS : F ≠ Sx := ne_of_none hF hSx
            have nHS : Hh ≠ Sx := ne_of_none hH hSx
            refine ⟨_, rfl, F, rfl, ⟨_, SqL.of (sS _ _ hF)⟩, for_it (walk_list (xs := vns fo)) (fun i σ H2 => ∃ y9, Same H' H2 ∧ H2 Sx = some (.lst (vns ((fo.take i).flatMap fun p => he.map fun q => (p + q) % (2 * n + 2)))) ∧ σ = [some (.str (kd false)), some (.ref a), some (vn n), some (vn t), some (vn (2 * n + 2)), some (.ref F), some (.ref Hh), some (vn re), some (.ref Sx), y9, none, none]) ⟨_, sS, upd_same, rfl⟩ (fun i σ H2 _ ⟨_, h, _⟩ => SqL.of (h _ _ hF)) ?_ ?_⟩
            · rintro i x σ H2 H3 hi ⟨y9, s2, hS, rfl⟩ ⟨eH, ex⟩
              subst eH
              obtain ⟨p, ep, rfl⟩ := vns_at ex
              rw [vns_len] at hi
              have fmlen : ((fo.take i).flatMap fun p => he.map fun q => (p + q) % (2 * n + 2)).length ≤ 31 * 1000 := by
                have : ∀ l : List Nat, (l.flatMap fun p => he.map fun q => (p + q) % (2 * n + 2)).length = l.length * he.length := by
                  intro l
                  induction l with
                  | nil => rw [List.flatMap_nil, List.length_nil, Nat.zero_mul]
                  | cons x l ih => rw [List.flatMap_cons, List.length_append, ih, List.length_map, List.length_cons, Nat.succ_mul, Nat.add_comm]
                rw [this, List.length_take]
                exact Nat.mul_le_mul (by omega) hln
              refine ⟨_, rfl, .inl ⟨rfl, _, SqL.of hS⟩, _, rfl, Hh, rfl, ⟨_, SqL.of (s2 _ _ hH)⟩, fun D2 hD2 => lc_it (walk_list (xs := vns he)) (fun j H5 => H5 = upd H3 D2 (.lst (vns ((he.take j).map fun q => (p + q) % (2 * n + 2))))) rfl (fun j H5 _ h => by rw [h]; exact slist (same_new hD2) (SqL.of (s2 _ _ hH))) ?_ ?_⟩
              · rintro j x H5 H6 hj rfl ⟨rfl, ex⟩
                obtain ⟨q, eq, rfl⟩ := vns_at ex
                refine ⟨rfl, _, rfl, _, rfl, _, _, rfl, rfl, _, rfl, _, _, rfl, rfl, hN0, _, upd_same, szl ?_, ?_⟩
                · rw [vns_len, List.length_map, List.length_take]; omega
                · rw [upd_upd, take_succ eq, List.map_append, vns, vns, List.map_append]; rfl
              · rintro H5 rfl
                rw [vns_len, List.take_length]
                have nSD : Sx ≠ D2 := ne_of_none hS hD2
                have s5 : Same H3 (upd H3 D2 (.lst (vns (he.map fun q => (p + q) % (2 * n + 2))))) := same_new hD2
                refine ⟨Sx, D2, _, _, rfl, rfl, s5 _ _ hS, upd_same, sz (by rw [vns_len, vns_len, List.length_map]; omega), ?_⟩
                refine ⟨some (vn p), smut (s2.trans s5) hSx, ?_, rfl⟩
                rw [upd_same, take_succ ep, List.flatMap_append, vns, vns, vns, List.map_append, List.flatMap_cons, List.flatMap_nil, List.append_nil]
            · rintro σ H2 ⟨y9, s2, hS, rfl⟩
              rw [vns_len, List.take_length] at hS
              have fmlen : (fo.flatMap fun p => he.map fun q => (p + q) % (2 * n + 2)).length ≤ 31 * 1000 := by
                have : ∀ l : List Nat, (l.flatMap fun p => he.map fun q => (p + q) % (2 * n + 2)).length = l.length * he.length := by
                  intro l
                  induction l with
                  | nil => rw [List.flatMap_nil, List.length_nil, Nat.zero_mul]
                  | cons x l ih => rw [List.flatMap_cons, List.length_append, ih, List.length_map, List.length_cons, Nat.succ_mul, Nat.add_comm]
                rw [this]
                exact Nat.mul_le_mul fln hln
              refine ⟨_, rfl, Sx, _, rfl, SqL.of hS, by omega, fun fo2 F2 H3 hx hm ha3 s3 hp hP => ?_⟩
              have flt : ∀ x ∈ fo2, x < (2 * n + 2) := fun x hx => by
                obtain ⟨p, _, hq⟩ := List.mem_flatMap.mp (hm x hx)
                obtain ⟨q, _, rfl⟩ := List.mem_map.mp hq
                exact Nat.mod_lt _ hN0
              have fln2 := asc_len fo2 0 (2 * n + 2) ha3 fun d hd => ⟨Nat.zero_le _, flt d hd⟩
              have inv2 : ∀ v, v < 2 ^ (2 * n + 2) → itr (actL (2 * n + 2) he) (2 * (re / 2)) (actL (2 * n + 2) fo2 v) = itr (Act (rho (2 * n + 2)) (onceM ru (2 * n + 2))) t v := fun v hv => by
                have e : actL (2 * n + 2) fo2 v = actL (2 * n + 2) (fo.flatMap fun p => he.map fun q => (p + q) % (2 * n + 2)) v := by unfold actL; rw [hx]
                rw [e, actL_prod hN0 he fo v hv, ← hinv v hv]
                have er : re = 2 * (re / 2) + 1 := by omega
                conv => rhs; rw [er]
                rfl
              have sc := (sm.trans s2).trans s3
              have hHc := s3 _ _ (s2 _ _ hH)
              refine ⟨_, rfl, Hh, rfl, ⟨_, SqL.of hHc⟩, fun D3 hD3 => lc_it (walk_list (xs := vns he)) (fun j H5 => H5 = upd H3 D3 (.lst (vns ((he.take j).map fun q => 2 * q % (2 * n + 2))))) rfl (fun j H5 _ h => by rw [h]; exact slist (same_new hD3) (SqL.of hHc)) ?_ ?_⟩
              · rintro j x H5 H6 hj rfl ⟨rfl, ex⟩
                obtain ⟨q, eq, rfl⟩ := vns_at ex
                refine ⟨rfl, _, rfl, 2, q, rfl, rfl, by show 2 < 2 ^ 64; decide, _, rfl, _, _, rfl, rfl, hN0, _, upd_same, szl ?_, ?_⟩
                · rw [vns_len, List.length_map, List.length_take]; omega
                · rw [upd_upd, take_succ eq, List.map_append, vns, vns, List.map_append]; rfl
              · rintro H5 rfl
                rw [vns_len, List.take_length]
                have s5 : Same H3 (upd H3 D3 (.lst (vns (he.map fun q => 2 * q % (2 * n + 2))))) := same_new hD3
                have hD5 : (upd H3 D3 (.lst (vns (he.map fun q => 2 * q % (2 * n + 2))))) D3 = some (.lst (vns (he.map fun q => 2 * q % (2 * n + 2)))) := upd_same
                generalize upd H3 D3 (.lst (vns (he.map fun q => 2 * q % (2 * n + 2)))) = H5 at s5 hD5
                refine ⟨D3, _, rfl, SqL.of hD5, by rw [List.length_map]; omega, fun he2 Hh2 H6 hx2 hm2 ha2 s6 hp2 hP2 => ?_⟩
                refine ⟨_, rfl, _, 1, rfl, rfl, trivial, _, _, rfl, ?_⟩
                have lt2 : ∀ x ∈ he2, x < (2 * n + 2) := fun x hx => by
                  obtain ⟨q, _, rfl⟩ := List.mem_map.mp (hm2 x hx)
                  exact Nat.mod_lt _ hN0
                have ln2 := asc_len he2 0 (2 * n + 2) ha2 fun d hd => ⟨Nat.zero_le _, lt2 d hd⟩
                refine ⟨_, half_step hpos, F2, Hh2, fo2, he2, re / 2, _, _, (sc.trans s5).trans s6, (sm.trans s2).free hp, s6 _ _ (s5 _ _ hP), hP2, flt, lt2, by omega, by omega, rfl, fun v hv => ?_, rfl⟩
                have dbl : ∀ u, u < 2 ^ (2 * n + 2) → actL (2 * n + 2) he2 u = actL (2 * n + 2) he (actL (2 * n + 2) he u) := fun u hu => by
                  have e : actL (2 * n + 2) he2 u = actL (2 * n + 2) (he.map fun q => 2 * q % (2 * n + 2)) u := by unfold actL; rw [hx2]
                  rw [e, actL_twice hN0 he u hu]
                rw [itr_dbl dbl (fun u hu => actL_lt he hu) _ _ (actL_lt _ hv)]
                exact inv2 v hv

          · have inv2 : ∀ v, v < 2 ^ (2 * n + 2) → itr (actL (2 * n + 2) he) (2 * (re / 2)) (actL (2 * n + 2) fo v) = itr (Act (rho (2 * n + 2)) (onceM ru (2 * n + 2))) t v := fun v hv => by
              rw [← hinv v hv]
              have er : re = 2 * (re / 2) := by omega
              conv => rhs; rw [er]
            refine ⟨_, rfl, Hh, rfl, ⟨_, SqL.of hH⟩, fun D3 hD3 => lc_it (walk_list (xs := vns he)) (fun j H5 => H5 = upd H' D3 (.lst (vns ((he.take j).map fun q => 2 * q % (2 * n + 2))))) rfl (fun j H5 _ h => by rw [h]; exact slist (same_new hD3) (SqL.of hH)) ?_ ?_⟩
            · rintro j x H5 H6 hj rfl ⟨rfl, ex⟩
              obtain ⟨q, eq, rfl⟩ := vns_at ex
              refine ⟨rfl, _, rfl, 2, q, rfl, rfl, by show 2 < 2 ^ 64; decide, _, rfl, _, _, rfl, rfl, hN0, _, upd_same, szl ?_, ?_⟩
              · rw [vns_len, List.length_map, List.length_take]; omega
              · rw [upd_upd, take_succ eq, List.map_append, vns, vns, List.map_append]; rfl
            · rintro H5 rfl
              rw [vns_len, List.take_length]
              have s5 : Same H' (upd H' D3 (.lst (vns (he.map fun q => 2 * q % (2 * n + 2))))) := same_new hD3
              have hD5 : (upd H' D3 (.lst (vns (he.map fun q => 2 * q % (2 * n + 2))))) D3 = some (.lst (vns (he.map fun q => 2 * q % (2 * n + 2)))) := upd_same
              generalize upd H' D3 (.lst (vns (he.map fun q => 2 * q % (2 * n + 2)))) = H5 at s5 hD5
              refine ⟨D3, _, rfl, SqL.of hD5, by rw [List.length_map]; omega, fun he2 Hh2 H6 hx2 hm2 ha2 s6 hp2 hP2 => ?_⟩
              refine ⟨_, rfl, _, 1, rfl, rfl, trivial, _, _, rfl, ?_⟩
              have lt2 : ∀ x ∈ he2, x < (2 * n + 2) := fun x hx => by
                obtain ⟨q, _, rfl⟩ := List.mem_map.mp (hm2 x hx)
                exact Nat.mod_lt _ hN0
              have ln2 := asc_len he2 0 (2 * n + 2) ha2 fun d hd => ⟨Nat.zero_le _, lt2 d hd⟩
              refine ⟨_, half_step hpos, F, Hh2, fo, he2, re / 2, _, _, (sm.trans s5).trans s6, hFn, s6 _ _ (s5 _ _ hF), hP2, fl, lt2, fln, by omega, rfl, fun v hv => ?_, rfl⟩
              have dbl : ∀ u, u < 2 ^ (2 * n + 2) → actL (2 * n + 2) he2 u = actL (2 * n + 2) he (actL (2 * n + 2) he u) := fun u hu => by
                have e : actL (2 * n + 2) he2 u = actL (2 * n + 2) (he.map fun q => 2 * q % (2 * n + 2)) u := by unfold actL; rw [hx2]
                rw [e, actL_twice hN0 he u hu]
              rw [itr_dbl dbl (fun u hu => actL_lt he hu) _ _ (actL_lt _ hv)]
              exact inv2 v hv

        · have hz : re = 0 := Nat.le_zero.mp hz
          subst hz
          exact ⟨_, rfl, k fo F H' fl (fun v hv => hinv v hv) sm hFn hF⟩

def q__law_after (K : PySem.W.Frag) : Sp := fun vs H Q _ => ∃ (ring : Bool) (a : Addr) (ru : List Int) (n b t : Nat), vs = [.str (kd ring), .ref a, vn n, vn b, vn t] ∧ H a = some (.tup (ru.map V.int)) ∧ ru.length ≤ 1000 ∧ 0 < n ∧ n ≤ 14 ∧ b < 2 ^ n ∧
  ∀ c H', (∀ v, v < 2 ^ wd ring n → Act (rho (wd ring n)) c v = itr (Act (rho (wd ring n)) (onceM ru (wd ring n))) t v) → Same H H' → Q (vn (byA ring c n b)) H'
theorem ok__law_after (D : Ok K mg) : FnOk P w K mg base CX0 3 (He.ga K "_law_after") (fdA K (He.ga K "_law_after")) ["_law_kind_here", "_law_rule_here", "_law_size", "_law_bits_here", "_law_beats"] (q__law_after K) := by
  refine D.f__law_after.ok sc__law_after (fun vs H Q E h => ?_) (fun cdv A outer s H vs Q E hr h => ?_)
  · obtain ⟨_, _, _, _, _, _, rfl, _⟩ := h
    rfl
  · refine ⟨_, PSs.nox (pss_one (ps_ret (pe_call (ok__law_byL D) (hr.mono (by decide)) rfl D.m__law_by D.f__law_by.kp D.b__law_by .nil pass0 (pa_cons (pv 0) (pa_cons (pe_call (ok__law_offsets D) (hr.mono (by decide)) rfl D.m__law_offsets D.f__law_offsets.kp D.b__law_offsets .nil pass0 (pa_cons (pv 0) (pa_cons (pv 1) (pa_cons (pv 2) (pa_cons (pv 4) pa_nil))))) (pa_cons (pv 2) (pa_cons (pv 3) pa_nil))))))), ?_⟩
    obtain ⟨ring, a, ru, n, b, t, rfl, ha, hlen, h0, h14, hb, k⟩ := h
    refine ⟨_, rfl, _, rfl, _, rfl, _, rfl, _, rfl, ring, a, ru, n, t, rfl, ha, hlen, h0, h14, fun out p H1 hlt hact s1 hp hP => ?_⟩
    have hw : 0 < wd ring n := by cases ring <;> show 0 < _ <;> unfold wd <;> simp <;> omega
    refine ⟨_, rfl, _, rfl, ring, p, out.map fun k : Nat => (k : Int), n, b, rfl, SqL.of (by rw [hP, List.map_map]; rfl), h0, h14, hb, fun H2 s2 => ?_⟩
    refine k _ _ (fun v hv => ?_) (s1.trans s2)
    have e : ((out.map fun k : Nat => (k : Int)).map fun o : Int => (o % ((wd ring n : Nat) : Int)).toNat) = out := by
      rw [List.map_map]
      refine (List.map_congr_left fun x hx => ?_).trans (List.map_id' out)
      have := hlt x hx
      show (((x : Nat) : Int) % ((wd ring n : Nat) : Int)).toNat = x
      rw [Int.emod_eq_of_lt (by omega) (by omega)]
      omega
    rw [e]
    exact hact v hv
end
end K71
end

section
set_option maxHeartbeats 4000000
/-! the walk: the law's rule -/
namespace K71
open PySem PySem.Spec PyProof.Rows L2 KM RZ
theorem SameBut.free {a p : Addr} {H H' : Hp} (s : SameBut a H H') (n : p ≠ a) (h : H' p = none) : H p = none := by
  cases e : H p with
  | none => rfl
  | some o => rw [s p o n e] at h; cases h
section
variable {P : Program} {w : World} {K : PySem.W.Frag} {mg : Str → Option Value} {base : Heap}
def q__law_rule (K : PySem.W.Frag) : Sp := fun vs H Q _ => ∃ (a : Addr) (ring : Bool) (c : Nat), vs = [.ref a, .str (kd ring)] ∧ PotAt H a c ∧ c ≤ 800000 ∧
  ∀ ru p H', RuleOk ring ru → SameBut a H H' → PotAt H' a (c + 20) → H p = none → H' p = some (.tup (ru.map V.int)) → Q (.ref p) H'
theorem ok__law_rule (D : Ok K mg) : FnOk P w K mg base CX0 3 (He.ga K "_law_rule") (fdA K (He.ga K "_law_rule")) ["_law_pot_here", "_law_kind_here"] (q__law_rule K) := by
  refine D.f__law_rule.ok sc__law_rule (fun vs H Q E h => ?_) (fun cdv A outer s H vs Q E hr h => ?_)
  · obtain ⟨_, _, _, rfl, _⟩ := h
    rfl
  · refine ⟨_, PSs.nox (pss_cons (ps_set (i := 2) sc__law_rule.nd rfl (.inl rfl) (pe_call (ok__law_of D) (hr.mono (by decide)) rfl D.m__law_of D.f__law_of.kp D.b__law_of .nil pass0 (pa_cons (pv 0) (pa_cons (pe_lst (pa_cons pe_int (pa_cons pe_int (pa_cons pe_int (pa_cons pe_int (pa_cons pe_int (pa_cons pe_int pa_nil))))))) pa_nil))))
  (pss_cons (ps_set (i := 3) sc__law_rule.nd rfl (.inl rfl) (pe_ifExp (pt_cmpR op_eq (pv 1) pe_str (nomark _)) pe_int (pe_op op_mul (pe_un un_neg pe_int) (pv 2))))
  (pss_cons (ps_setLc (i := 4) (own := [("_law_offset", 5)]) (by rfl) sc__law_rule.nd rfl rfl (sw_true rfl rfl rfl (by decide +kernel)) (pi_range2 (by rfl) D.z_range (pa_cons (pv 3) (pa_cons (pe_op oad (pv 2) pe_int) pa_nil))) (blkOk_by (own := [("_law_offset", 5)]) (N := ["_law_pot_here", "_law_kind_here", "_law_wide", "_law_low", "_law_some", "_law_offset"]) (sc := defScope s__law_rule) (by decide +kernel)) (fun _ _ _ _ _ => (pg_name (i := 5) sc__law_rule.nd rfl (.inl rfl))) (fun _ _ _ _ _ => pts_one (pt_cmpR op_eq (pe_call (ok__law_take D) (hr.mono (by decide)) rfl D.m__law_take D.f__law_take.kp D.b__law_take .nil pass0 (pa_cons (pv 0) (pa_cons pe_int pa_nil))) pe_int (nomark _))) (fun _ _ _ _ _ => (pv 5)))
  (pss_cons (ps_set (i := 4) sc__law_rule.nd rfl (.inl rfl) (pe_ifExp (pt_cmpR (op_neD hr.units) (pv 4) (pe_lst pa_nil) (nomark _)) (pv 4) (pe_lst (pa_cons (pe_call (ok__law_of D) (hr.mono (by decide)) rfl D.m__law_of D.f__law_of.kp D.b__law_of .nil pass0 (pa_cons (pv 0) (pa_cons (pe_lst (pa_cons (pv 2) (pa_cons pe_int (pa_cons pe_int pa_nil)))) pa_nil))) pa_nil))))
  (pss_cons (ps_if (pt_cmpR op_eq (pv 1) pe_str (nomark _)) (pss_one (ps_set (i := 4) sc__law_rule.nd rfl (.inl rfl) (pe_callB (cr_sortedSet rfl) (by rfl) D.z_sorted (by decide +kernel) (pa_cons (pe_callTy (cr_setL rfl) (by rfl) D.z_set (by decide +kernel) (pa_cons (pe_op op_cat (pv 4) (pe_lc (own := [("_law_offset", 5)]) (by rfl) sc__law_rule.nd (pi_list (pv 4)) (blkOk_by (own := [("_law_offset", 5)]) (N := ["_law_pot_here", "_law_kind_here", "_law_wide", "_law_low", "_law_some", "_law_offset"]) (sc := defScope s__law_rule) (by decide +kernel)) (fun _ _ _ _ _ => (pg_name (i := 5) sc__law_rule.nd rfl (.inl rfl))) (fun _ _ _ _ _ => pts_nil) (fun _ _ _ _ _ => (pe_op op_mul (pe_un un_neg pe_int) (pv 5))))) pa_nil)) pa_nil)))) pss_nil)
  (pss_one (ps_ret (pe_callTy call_tuple_of (by rfl) D.z_tuple (by decide +kernel) (pa_cons (pv 4) pa_nil))))))))), ?_⟩
    obtain ⟨a, ring, c, rfl, hP, hc, k⟩ := h
    refine ⟨_, rfl, sz (by show 6 ≤ 100000; decide), fun t ht => ?_⟩
    have st : Same H (upd H t (.lst [.int 1, .int 1, .int 2, .int 2, .int 3, .int 6])) := same_new ht
    refine ⟨a, t, [.int 1, .int 1, .int 2, .int 2, .int 3, .int 6], c, rfl, hP.mono st, upd_same, hP.free ht, by simp, by show 6 < 1000; decide, by omega, fun v H1 hv s1 hP1 => ?_⟩
    obtain ⟨wn, rfl, w1, w6⟩ : ∃ wn : Nat, v = vn wn ∧ 1 ≤ wn ∧ wn ≤ 6 := by
      simp only [List.mem_cons, List.not_mem_nil, or_false] at hv
      rcases hv with h | h | h | h | h | h
      · exact ⟨1, h, by decide, by decide⟩
      · exact ⟨1, h, by decide, by decide⟩
      · exact ⟨2, h, by decide, by decide⟩
      · exact ⟨2, h, by decide, by decide⟩
      · exact ⟨3, h, by decide, by decide⟩
      · exact ⟨6, h, by decide, by decide⟩
    refine ⟨_, rfl, rfl, _, rfl, ?_⟩
    rw [kd_walls]
    cases ring with
    | true =>
      refine iteF ⟨1, rfl, _, rfl, -1, (wn : Int), rfl, rfl, .inl ⟨by decide, by decide⟩, ?_⟩
      have hlo : (-1 * (wn : Int)) = (-1 * (wn : Int)) := rfl
      refine ⟨_, rfl, _, rfl, wn, 1, rfl, rfl, (-1 * (wn : Int)), ((wn + 1 : Nat) : Int), rfl, ⟨by omega, by omega, by omega, by omega⟩, fun D1 hD1 => ?_⟩
      rw [show (((wn + 1 : Nat) : Int) - (-1 * (wn : Int))).toNat = (2 * wn + 1) by omega]
      have nDa : D1 ≠ a := hP1.free hD1
      refine lc_it walk_range (fun i H' => ∃ l : List Int, SameBut a H1 H' ∧ PotAt H' a (c + 1 + i) ∧ H' D1 = some (.lst (l.map V.int)) ∧ l.Pairwise (· < ·) ∧ (∀ x ∈ l, (-1 * (wn : Int)) ≤ x ∧ x < (-1 * (wn : Int)) + (i : Int)) ∧ l.length ≤ i)
        ⟨[], SameBut.of (same_new hD1), hP1.mono (same_new hD1), upd_same, .nil, fun x hx => (nomatch hx), Nat.le_refl _⟩ (fun _ _ _ _ => trivial) ?_ ?_
      · rintro i x H2 H3 hi ⟨l, s2, hP2, hD2, asc, bnd, ll⟩ ⟨eH, ex⟩
        subst eH
        have ex' : x = .int ((-1 * (wn : Int)) + (i : Int)) := ex
        subst ex'
        refine ⟨rfl, _, rfl, a, 2, c + 1 + i, rfl, hP2, by decide, by decide, by omega, fun d H5 hd s5 hP5 => ?_⟩
        refine ⟨rfl, _, rfl, ?_⟩
        have hD5 := s5 _ _ nDa hD2
        refine itE (m := 0) (fun hz => ?_) (fun hz => ?_)
        · refine ⟨_, rfl, _, hD5, szl (by rw [List.length_map]; omega), l ++ [(-1 * (wn : Int)) + (i : Int)], (s2.trans s5).mut hD1, ?_, by rw [upd_same, List.map_append]; rfl, ?_, fun x hx => ?_, by rw [List.length_append, List.length_singleton]; omega⟩
          · obtain ⟨A0, B0, C0, h1, h2⟩ := hP5
            exact ⟨A0, B0, C0, by rw [upd_ne nDa.symm]; exact h1, h2⟩
          · rw [List.pairwise_append]
            exact ⟨asc, List.pairwise_singleton .., fun x hx y hy => by rw [List.mem_singleton.mp hy]; exact (bnd x hx).2⟩
          · rcases List.mem_append.mp hx with h | h
            · have := bnd x h; omega
            · rw [List.mem_singleton.mp h]; omega
        · exact ⟨l, s2.trans s5, hP5, hD5, asc, fun x hx => by have := bnd x hx; omega, by omega⟩
      · rintro H2 ⟨l, s2, hP2, hD2, asc, bnd, ll⟩
        refine ⟨_, rfl, Nat.zero_le _, fun e0 he0 => ?_⟩
        have se : Same H2 (upd H2 e0 (.lst [])) := same_new he0
        refine ⟨_, _, .lst (SqL.of (se _ _ hD2)) (dp_ints l), .lst (SqL.of upd_same) .nil, shaped_intsL l, rfl, _, rfl, ?_⟩
        by_cases hl : l = []
        · subst hl
          refine iteF ⟨_, rfl, _, rfl, sz (by show 3 ≤ 100000; decide), fun t2 ht2 => ?_⟩
          have st2 := se.trans (same_new (o := .lst [vn wn, .int 0, .int 1]) ht2)
          refine ⟨a, t2, [vn wn, .int 0, .int 1], c + 1 + (2 * wn + 1), rfl, hP2.mono st2, upd_same, (hP2.mono se).free ht2, by simp, by show 3 < 1000; decide, by omega, fun v2 H4 hv2 s4 hP4 => ?_⟩
          obtain ⟨o, rfl, o1, o2⟩ : ∃ o : Int, v2 = .int o ∧ 0 ≤ o ∧ o ≤ 6 := by
            simp only [List.mem_cons, List.not_mem_nil, or_false] at hv2
            rcases hv2 with h | h | h
            · exact ⟨(wn : Int), h, by omega, by omega⟩
            · exact ⟨0, h, by decide, by decide⟩
            · exact ⟨1, h, by decide, by decide⟩
          refine ⟨sz (by show 1 ≤ 100000; decide), fun Dx hDxn => ?_⟩
          obtain ⟨l2, el2⟩ : ∃ l2 : List Int, l2 = [o] := ⟨_, rfl⟩
          have hDx : (upd H4 Dx (.lst [V.int o])) Dx = some (.lst (l2.map V.int)) := by rw [upd_same, el2]; rfl
          have s5 : SameBut a H (upd H4 Dx (.lst [V.int o])) := (((SameBut.of st).trans s1).trans (s2.trans (SameBut.of st2))).trans (s4.trans (SameBut.of (same_new hDxn)))
          have hP5 := hP4.mono (same_new (o := .lst [V.int o]) hDxn)
          generalize upd H4 Dx (.lst [V.int o]) = H5 at hDx s5 hP5 ⊢
          have hne : l2 ≠ [] := by rw [el2]; simp
          have asc2 : l2.Pairwise (· < ·) := by rw [el2]; exact List.pairwise_singleton ..
          have bnd2 : ∀ x ∈ l2, -6 ≤ x ∧ x ≤ 6 := fun x hx => by rw [el2] at hx; rw [List.mem_singleton.mp hx]; omega
          have ll2 : l2.length ≤ 13 := by rw [el2]; show 1 ≤ 13; decide
          refine ⟨_, rfl, rfl, _, rfl, ?_⟩
          rw [kd_walls]
          refine iteF ⟨_, rfl, Dx, _, rfl, .inl ⟨SqL.of hDx, fun p hp => ?_⟩⟩
          exact k l2 p _ ⟨hne, asc2, fun o ho => by have := bnd2 o ho; omega, by omega, fun z => nomatch z⟩ (s5.trans (SameBut.of (same_new hp))) ((hP5.mono (same_new hp)).le (by omega)) (s5.free (hP5.free hp) hp) upd_same
        · have ev : PyData.eqv (.list (l.map PyData.int)) (.list []) = false := by
            cases l with
            | nil => exact absurd rfl hl
            | cons n ns => rfl
          rw [ev]
          refine iteT ⟨_, rfl, ?_⟩
          obtain ⟨Dx, eDx⟩ : ∃ Dx, Dx = D1 := ⟨_, rfl⟩
          obtain ⟨l2, el2⟩ : ∃ l2 : List Int, l2 = l := ⟨_, rfl⟩
          have hDx := se _ _ hD2
          rw [← eDx, ← el2] at hDx
          rw [← eDx]
          have s5 : SameBut a H (upd H2 e0 (.lst [])) := ((SameBut.of st).trans s1).trans (s2.trans (SameBut.of se))
          have hP5 := hP2.mono se
          generalize upd H2 e0 (.lst []) = H5 at hDx s5 hP5 ⊢
          have hne : l2 ≠ [] := by rw [el2]; exact hl
          have asc2 : l2.Pairwise (· < ·) := by rw [el2]; exact asc
          have bnd2 : ∀ x ∈ l2, -6 ≤ x ∧ x ≤ 6 := fun x hx => by rw [el2] at hx; have := bnd x hx; omega
          have ll2 : l2.length ≤ 13 := by rw [el2]; omega
          refine ⟨_, rfl, rfl, _, rfl, ?_⟩
          rw [kd_walls]
          refine iteF ⟨_, rfl, Dx, _, rfl, .inl ⟨SqL.of hDx, fun p hp => ?_⟩⟩
          exact k l2 p _ ⟨hne, asc2, fun o ho => by have := bnd2 o ho; omega, by omega, fun z => nomatch z⟩ (s5.trans (SameBut.of (same_new hp))) ((hP5.mono (same_new hp)).le (by omega)) (s5.free (hP5.free hp) hp) upd_same

    | false =>
      refine iteT ?_
      have hlo : (0 : Int) = (0 : Int) := rfl
      refine ⟨_, rfl, _, rfl, wn, 1, rfl, rfl, (0 : Int), ((wn + 1 : Nat) : Int), rfl, ⟨by omega, by omega, by omega, by omega⟩, fun D1 hD1 => ?_⟩
      rw [show (((wn + 1 : Nat) : Int) - (0 : Int)).toNat = (wn + 1) by omega]
      have nDa : D1 ≠ a := hP1.free hD1
      refine lc_it walk_range (fun i H' => ∃ l : List Int, SameBut a H1 H' ∧ PotAt H' a (c + 1 + i) ∧ H' D1 = some (.lst (l.map V.int)) ∧ l.Pairwise (· < ·) ∧ (∀ x ∈ l, (0 : Int) ≤ x ∧ x < (0 : Int) + (i : Int)) ∧ l.length ≤ i)
        ⟨[], SameBut.of (same_new hD1), hP1.mono (same_new hD1), upd_same, .nil, fun x hx => (nomatch hx), Nat.le_refl _⟩ (fun _ _ _ _ => trivial) ?_ ?_
      · rintro i x H2 H3 hi ⟨l, s2, hP2, hD2, asc, bnd, ll⟩ ⟨eH, ex⟩
        subst eH
        have ex' : x = .int ((0 : Int) + (i : Int)) := ex
        subst ex'
        refine ⟨rfl, _, rfl, a, 2, c + 1 + i, rfl, hP2, by decide, by decide, by omega, fun d H5 hd s5 hP5 => ?_⟩
        refine ⟨rfl, _, rfl, ?_⟩
        have hD5 := s5 _ _ nDa hD2
        refine itE (m := 0) (fun hz => ?_) (fun hz => ?_)
        · refine ⟨_, rfl, _, hD5, szl (by rw [List.length_map]; omega), l ++ [(0 : Int) + (i : Int)], (s2.trans s5).mut hD1, ?_, by rw [upd_same, List.map_append]; rfl, ?_, fun x hx => ?_, by rw [List.length_append, List.length_singleton]; omega⟩
          · obtain ⟨A0, B0, C0, h1, h2⟩ := hP5
            exact ⟨A0, B0, C0, by rw [upd_ne nDa.symm]; exact h1, h2⟩
          · rw [List.pairwise_append]
            exact ⟨asc, List.pairwise_singleton .., fun x hx y hy => by rw [List.mem_singleton.mp hy]; exact (bnd x hx).2⟩
          · rcases List.mem_append.mp hx with h | h
            · have := bnd x h; omega
            · rw [List.mem_singleton.mp h]; omega
        · exact ⟨l, s2.trans s5, hP5, hD5, asc, fun x hx => by have := bnd x hx; omega, by omega⟩
      · rintro H2 ⟨l, s2, hP2, hD2, asc, bnd, ll⟩
        refine ⟨_, rfl, Nat.zero_le _, fun e0 he0 => ?_⟩
        have se : Same H2 (upd H2 e0 (.lst [])) := same_new he0
        refine ⟨_, _, .lst (SqL.of (se _ _ hD2)) (dp_ints l), .lst (SqL.of upd_same) .nil, shaped_intsL l, rfl, _, rfl, ?_⟩
        by_cases hl : l = []
        · subst hl
          refine iteF ⟨_, rfl, _, rfl, sz (by show 3 ≤ 100000; decide), fun t2 ht2 => ?_⟩
          have st2 := se.trans (same_new (o := .lst [vn wn, .int 0, .int 1]) ht2)
          refine ⟨a, t2, [vn wn, .int 0, .int 1], c + 1 + (wn + 1), rfl, hP2.mono st2, upd_same, (hP2.mono se).free ht2, by simp, by show 3 < 1000; decide, by omega, fun v2 H4 hv2 s4 hP4 => ?_⟩
          obtain ⟨o, rfl, o1, o2⟩ : ∃ o : Int, v2 = .int o ∧ 0 ≤ o ∧ o ≤ 6 := by
            simp only [List.mem_cons, List.not_mem_nil, or_false] at hv2
            rcases hv2 with h | h | h
            · exact ⟨(wn : Int), h, by omega, by omega⟩
            · exact ⟨0, h, by decide, by decide⟩
            · exact ⟨1, h, by decide, by decide⟩
          refine ⟨sz (by show 1 ≤ 100000; decide), fun Dx hDxn => ?_⟩
          obtain ⟨l2, el2⟩ : ∃ l2 : List Int, l2 = [o] := ⟨_, rfl⟩
          have hDx : (upd H4 Dx (.lst [V.int o])) Dx = some (.lst (l2.map V.int)) := by rw [upd_same, el2]; rfl
          have s5 : SameBut a H (upd H4 Dx (.lst [V.int o])) := (((SameBut.of st).trans s1).trans (s2.trans (SameBut.of st2))).trans (s4.trans (SameBut.of (same_new hDxn)))
          have hP5 := hP4.mono (same_new (o := .lst [V.int o]) hDxn)
          generalize upd H4 Dx (.lst [V.int o]) = H5 at hDx s5 hP5 ⊢
          have hne : l2 ≠ [] := by rw [el2]; simp
          have asc2 : l2.Pairwise (· < ·) := by rw [el2]; exact List.pairwise_singleton ..
          have bnd2 : ∀ x ∈ l2, -6 ≤ x ∧ x ≤ 6 := fun x hx => by rw [el2] at hx; rw [List.mem_singleton.mp hx]; omega
          have ll2 : l2.length ≤ 13 := by rw [el2]; show 1 ≤ 13; decide
          refine ⟨_, rfl, rfl, _, rfl, ?_⟩
          rw [kd_walls]
          refine iteT ⟨_, rfl, _, rfl, Dx, rfl, ⟨_, SqL.of hDx⟩, fun D2 hD2 => lc_it (walk_list (xs := l2.map V.int)) (fun j H6 => H6 = upd H5 D2 (.lst (((l2.take j).map fun x => -1 * x).map V.int))) rfl (fun j H6 _ h => by rw [h]; exact slist (same_new hD2) (SqL.of hDx)) ?_ ?_⟩
          · rintro j x H6 H7 hj rfl ⟨rfl, ex⟩
            obtain ⟨o, eo, rfl⟩ := map_at ex
            refine ⟨rfl, 1, rfl, _, rfl, -1, o, rfl, rfl, .inl ⟨by decide, by decide⟩, _, upd_same, szl ?_, ?_⟩
            · rw [List.length_map, List.length_map, List.length_take]; omega
            · rw [upd_upd, take_succ eo, List.map_append, List.map_append]; rfl
          · rintro H6 rfl
            rw [List.length_map, List.take_length]
            have s6 : Same H5 (upd H5 D2 (.lst ((l2.map fun x => -1 * x).map V.int))) := same_new hD2
            refine ⟨Dx, D2, _, _, rfl, rfl, s6 _ _ hDx, upd_same, sz (by rw [List.length_map, List.length_map, List.length_map]; omega), fun q hq => ?_⟩
            have s7 := same_new (o := .lst (l2.map V.int ++ (l2.map fun x => -1 * x).map V.int)) hq
            have hQ : (upd (upd H5 D2 (.lst ((l2.map fun x => -1 * x).map V.int))) q (.lst (l2.map V.int ++ (l2.map fun x => -1 * x).map V.int))) q = some (.lst ((l2 ++ l2.map fun x => -1 * x).map V.int)) := by rw [upd_same, List.map_append]
            have s57 := s6.trans s7
            generalize upd (upd H5 D2 (.lst ((l2.map fun x => -1 * x).map V.int))) q (.lst (l2.map V.int ++ (l2.map fun x => -1 * x).map V.int)) = H7 at s57 hQ
            have hln : (l2 ++ l2.map fun x => -1 * x).length ≤ 30 := by rw [List.length_append, List.length_map]; omega
            refine ⟨q, _, rfl, SqL.of hQ, by omega, fun p c hp hc => ?_⟩
            refine ⟨p, _, c, rfl, upd_same, by omega, fun ys r asc mem len hr => ?_⟩
            have mem2 : ∀ x, x ∈ ys ↔ (x ∈ l2 ∨ -x ∈ l2) := fun x => by
              rw [mem x, decide_eq_true_eq, List.mem_append, List.mem_map]
              constructor
              · rintro (h | ⟨y, hy, rfl⟩)
                · exact .inl h
                · exact .inr (by rw [show -(-1 * y) = y by omega]; exact hy)
              · rintro (h | h)
                · exact .inl h
                · exact .inr ⟨-x, h, by omega⟩
            have RO : RuleOk false ys := by
              refine ⟨fun e => ?_, asc, fun o ho => ?_, by omega, fun _ => ?_⟩
              · obtain ⟨x, hx⟩ := List.exists_mem_of_ne_nil _ hne
                have := (mem2 x).mpr (.inl hx)
                rw [e] at this; cases this
              · rcases (mem2 o).mp ho with h | h
                · have := bnd2 _ h; omega
                · have := bnd2 _ h; omega
              · refine asc_ext asc ?_ fun x => ?_
                · rw [List.pairwise_map, List.pairwise_reverse]
                  exact asc.imp (by omega)
                · rw [List.mem_map]
                  constructor
                  · intro hx
                    refine ⟨-x, List.mem_reverse.mpr ((mem2 _).mpr ?_), by omega⟩
                    rcases (mem2 x).mp hx with h | h
                    · exact .inr (by rw [Int.neg_neg]; exact h)
                    · exact .inl h
                  · rintro ⟨y, hy, rfl⟩
                    refine (mem2 _).mpr ?_
                    rcases (mem2 y).mp (List.mem_reverse.mp hy) with h | h
                    · exact .inr (by rw [Int.neg_neg]; exact h)
                    · exact .inl h
            have s8 : Same H7 (upd H7 p (SetO w p (fun j => decide (j ∈ l2 ++ l2.map fun x => -1 * x)) c)) := same_new hp
            have s9 := snew (s57.trans s8) (o := .lst (ys.map V.int)) hr
            refine ⟨_, rfl, r, _, rfl, .inl ⟨SqL.of upd_same, fun z hz => ?_⟩⟩
            have s10 := s9.trans (same_new (o := .tup (ys.map V.int)) hz)
            exact k ys z _ RO (s5.trans (SameBut.of s10)) ((hP5.mono s10).le (by omega)) (s5.free (hP5.free (s9.free hz)) (s9.free hz)) upd_same
        · have ev : PyData.eqv (.list (l.map PyData.int)) (.list []) = false := by
            cases l with
            | nil => exact absurd rfl hl
            | cons n ns => rfl
          rw [ev]
          refine iteT ⟨_, rfl, ?_⟩
          obtain ⟨Dx, eDx⟩ : ∃ Dx, Dx = D1 := ⟨_, rfl⟩
          obtain ⟨l2, el2⟩ : ∃ l2 : List Int, l2 = l := ⟨_, rfl⟩
          have hDx := se _ _ hD2
          rw [← eDx, ← el2] at hDx
          rw [← eDx]
          have s5 : SameBut a H (upd H2 e0 (.lst [])) := ((SameBut.of st).trans s1).trans (s2.trans (SameBut.of se))
          have hP5 := hP2.mono se
          generalize upd H2 e0 (.lst []) = H5 at hDx s5 hP5 ⊢
          have hne : l2 ≠ [] := by rw [el2]; exact hl
          have asc2 : l2.Pairwise (· < ·) := by rw [el2]; exact asc
          have bnd2 : ∀ x ∈ l2, -6 ≤ x ∧ x ≤ 6 := fun x hx => by rw [el2] at hx; have := bnd x hx; omega
          have ll2 : l2.length ≤ 13 := by rw [el2]; omega
          refine ⟨_, rfl, rfl, _, rfl, ?_⟩
          rw [kd_walls]
          refine iteT ⟨_, rfl, _, rfl, Dx, rfl, ⟨_, SqL.of hDx⟩, fun D2 hD2 => lc_it (walk_list (xs := l2.map V.int)) (fun j H6 => H6 = upd H5 D2 (.lst (((l2.take j).map fun x => -1 * x).map V.int))) rfl (fun j H6 _ h => by rw [h]; exact slist (same_new hD2) (SqL.of hDx)) ?_ ?_⟩
          · rintro j x H6 H7 hj rfl ⟨rfl, ex⟩
            obtain ⟨o, eo, rfl⟩ := map_at ex
            refine ⟨rfl, 1, rfl, _, rfl, -1, o, rfl, rfl, .inl ⟨by decide, by decide⟩, _, upd_same, szl ?_, ?_⟩
            · rw [List.length_map, List.length_map, List.length_take]; omega
            · rw [upd_upd, take_succ eo, List.map_append, List.map_append]; rfl
          · rintro H6 rfl
            rw [List.length_map, List.take_length]
            have s6 : Same H5 (upd H5 D2 (.lst ((l2.map fun x => -1 * x).map V.int))) := same_new hD2
            refine ⟨Dx, D2, _, _, rfl, rfl, s6 _ _ hDx, upd_same, sz (by rw [List.length_map, List.length_map, List.length_map]; omega), fun q hq => ?_⟩
            have s7 := same_new (o := .lst (l2.map V.int ++ (l2.map fun x => -1 * x).map V.int)) hq
            have hQ : (upd (upd H5 D2 (.lst ((l2.map fun x => -1 * x).map V.int))) q (.lst (l2.map V.int ++ (l2.map fun x => -1 * x).map V.int))) q = some (.lst ((l2 ++ l2.map fun x => -1 * x).map V.int)) := by rw [upd_same, List.map_append]
            have s57 := s6.trans s7
            generalize upd (upd H5 D2 (.lst ((l2.map fun x => -1 * x).map V.int))) q (.lst (l2.map V.int ++ (l2.map fun x => -1 * x).map V.int)) = H7 at s57 hQ
            have hln : (l2 ++ l2.map fun x => -1 * x).length ≤ 30 := by rw [List.length_append, List.length_map]; omega
            refine ⟨q, _, rfl, SqL.of hQ, by omega, fun p c hp hc => ?_⟩
            refine ⟨p, _, c, rfl, upd_same, by omega, fun ys r asc mem len hr => ?_⟩
            have mem2 : ∀ x, x ∈ ys ↔ (x ∈ l2 ∨ -x ∈ l2) := fun x => by
              rw [mem x, decide_eq_true_eq, List.mem_append, List.mem_map]
              constructor
              · rintro (h | ⟨y, hy, rfl⟩)
                · exact .inl h
                · exact .inr (by rw [show -(-1 * y) = y by omega]; exact hy)
              · rintro (h | h)
                · exact .inl h
                · exact .inr ⟨-x, h, by omega⟩
            have RO : RuleOk false ys := by
              refine ⟨fun e => ?_, asc, fun o ho => ?_, by omega, fun _ => ?_⟩
              · obtain ⟨x, hx⟩ := List.exists_mem_of_ne_nil _ hne
                have := (mem2 x).mpr (.inl hx)
                rw [e] at this; cases this
              · rcases (mem2 o).mp ho with h | h
                · have := bnd2 _ h; omega
                · have := bnd2 _ h; omega
              · refine asc_ext asc ?_ fun x => ?_
                · rw [List.pairwise_map, List.pairwise_reverse]
                  exact asc.imp (by omega)
                · rw [List.mem_map]
                  constructor
                  · intro hx
                    refine ⟨-x, List.mem_reverse.mpr ((mem2 _).mpr ?_), by omega⟩
                    rcases (mem2 x).mp hx with h | h
                    · exact .inr (by rw [Int.neg_neg]; exact h)
                    · exact .inl h
                  · rintro ⟨y, hy, rfl⟩
                    refine (mem2 _).mpr ?_
                    rcases (mem2 y).mp (List.mem_reverse.mp hy) with h | h
                    · exact .inr (by rw [Int.neg_neg]; exact h)
                    · exact .inl h
            have s8 : Same H7 (upd H7 p (SetO w p (fun j => decide (j ∈ l2 ++ l2.map fun x => -1 * x)) c)) := same_new hp
            have s9 := snew (s57.trans s8) (o := .lst (ys.map V.int)) hr
            refine ⟨_, rfl, r, _, rfl, .inl ⟨SqL.of upd_same, fun z hz => ?_⟩⟩
            have s10 := s9.trans (same_new (o := .tup (ys.map V.int)) hz)
            exact k ys z _ RO (s5.trans (SameBut.of s10)) ((hP5.mono s10).le (by omega)) (s5.free (hP5.free (s9.free hz)) (s9.free hz)) upd_same

end
end K71
end

section
set_option maxHeartbeats 4000000
/-! the walk: the law's rows -/
namespace K71
open PySem PySem.Spec PyProof.Rows L2 KM RZ
/-- what a row must be for the law to hold of it -/
structure RowFacts (ring : Bool) (ru : List Int) (n b : Nat) : Prop where
  f1 : tailM (ownM (beat ring ru n) n b) = 0 ↔ depM ring (onceM ru (wd ring n)) n b = none
  f2 : (Spn.of (cols ring (onceM ru (wd ring n)) n 1)).num b = none ↔ depM ring (onceM ru (wd ring n)) n b = some 0
  f3 : ∀ t, depM ring (onceM ru (wd ring n)) n b = some t → t < n ∧ (Spn.of (cols ring (onceM ru (wd ring n)) n t)).num b ≠ none ∧ (Spn.of (cols ring (onceM ru (wd ring n)) n (t + 1))).num b = none
  f5 : depM ring (onceM ru (wd ring n)) n (byOff ring (wof ring ru n (tailM (ownM (beat ring ru n) n b))) n b) = none
  f5b : tailM (ownM (beat ring ru n) n (byOff ring (wof ring ru n (tailM (ownM (beat ring ru n) n b))) n b)) = 0
  f6 : periodM (ownM (beat ring ru n) n (byOff ring (wof ring ru n (tailM (ownM (beat ring ru n) n b))) n b)) = periodM (ownM (beat ring ru n) n b)
  f7 : itr (beat ring ru n) (tailM (ownM (beat ring ru n) n b)) b = byOff ring (wof ring ru n (tailM (ownM (beat ring ru n) n b))) n b ∧
    ∀ j, j < tailM (ownM (beat ring ru n) n b) → itr (beat ring ru n) j b ≠ byOff ring (wof ring ru n (tailM (ownM (beat ring ru n) n b))) n b
  f8 : ∃ s, (Spn.of (cols ring (onceM ru (wd ring n)) n (10 ^ 30))).num (byOff ring (wof ring ru n (tailM (ownM (beat ring ru n) n b))) n b) = some s ∧ s < 2 ^ n ∧
    ∀ c, (∀ v, v < 2 ^ wd ring n → Act (rho (wd ring n)) c v = itr (Act (rho (wd ring n)) (onceM ru (wd ring n))) (10 ^ 30) v) → byA ring c n s = byOff ring (wof ring ru n (tailM (ownM (beat ring ru n) n b))) n b
theorem eqv_always : PyData.eqv (.tuple [.str "always"]) (.tuple [.str "always"]) = true := by decide +kernel
theorem eqv_beats (t : Int) (x : Str) : PyData.eqv (.tuple [.str "beats", .int t, .str x]) (.tuple [.str "always"]) = false := by
  have h : PyData.eqv (.str "beats") (.str "always") = false := by decide +kernel
  show (PyData.eqv (.str "beats") (.str "always") && PyData.eqvAll [.int t, .str x] []) = false
  rw [h]; rfl
theorem shp_always : SeqAt.shaped (.tuple [.str "always"]) = true := by decide +kernel
theorem txt_ok (b n : Nat) : PyData.strOk (txt b n) = true := by
  unfold PyData.strOk
  rw [← Array.all_toList, List.all_eq_true]
  intro x hx
  have hx : x ∈ (List.range n).map fun p => if b.testBit p = true then 49 else 48 := hx
  obtain ⟨i, _, rfl⟩ := List.mem_map.mp hx
  split <;> decide
theorem shp_beats (t : Int) (b n : Nat) : SeqAt.shaped (.tuple [.str "beats", .int t, .str (txt b n)]) = true := by
  have h : PyData.strOk ("beats" : Str) = true := by decide +kernel
  show ((PyData.strOk ("beats" : Str) && (true && (PyData.strOk (txt b n) && true))) && true) = true
  rw [h, txt_ok]; rfl
theorem bl_ne (a b : Bool) : (!decide (V.bl a = V.bl b)) = (a != b) := by cases a <;> cases b <;> rfl
theorem e30 : ((10 : Int) ^ (30 : Int).toNat) = ((10 ^ 30 : Nat) : Int) := by decide +kernel
theorem c30 : (Builtin.Int.intBits 10 : Int) * 30 ≤ 2 ^ 27 := by decide +kernel
section
variable {P : Program} {w : World} {K : PySem.W.Frag} {mg : Str → Option Value} {base : Heap}
def q__law_is_row_right (K : PySem.W.Frag) : Sp := fun vs H Q _ => ∃ (ring : Bool) (a : Addr) (ru : List Int) (n b : Nat), vs = [.str (kd ring), .ref a, vn n, .str (txt b n)] ∧ H a = some (.tup (ru.map V.int)) ∧ RuleOk ring ru ∧ 0 < n ∧ n ≤ 14 ∧ b < 2 ^ n ∧ RowFacts ring ru n b ∧
  ∀ H', Same H H' → Q (.bl true) H'
theorem ok__law_is_row_right (D : Ok K mg) : FnOk P w K mg base CX0 10 (He.ga K "_law_is_row_right") (fdA K (He.ga K "_law_is_row_right")) ["_law_kind_here", "_law_rule_here", "_law_size", "_law_row"] (q__law_is_row_right K) := by
  refine D.f__law_is_row_right.ok sc__law_is_row_right (fun vs H Q E h => ?_) (fun cdv A outer s H vs Q E hr h => ?_)
  · obtain ⟨_, _, _, _, _, rfl, _⟩ := h
    rfl
  · refine ⟨_, PSs.nox (pss_cons (ps_par3 (i := 4) (j := 5) (l := 6) (by rfl) sc__law_is_row_right.nd rfl rfl rfl (by decide) (by decide) (by decide) rfl rfl rfl (pa_cons (pe_call (ok_tail D) (hr.mono (by decide)) rfl D.m_tail D.f_tail.kp D.b_tail .nil pass0 (pa_cons (pv 0) (pa_cons (pv 1) (pa_cons (pv 3) pa_nil)))) (pa_cons (pe_call (ok_period D) (hr.mono (by decide)) rfl D.m_period D.f_period.kp D.b_period .nil pass0 (pa_cons (pv 0) (pa_cons (pv 1) (pa_cons (pv 3) pa_nil)))) (pa_cons (pe_call (ok_depth D) (hr.mono (by decide)) rfl D.m_depth D.f_depth.kp D.b_depth .nil pass0 (pa_cons (pv 0) (pa_cons (pv 1) (pa_cons (pv 3) pa_nil)))) pa_nil))) (by rfl))
  (pss_cons (ps_if (pt_cmpR op_ne (pe_cmpR op_eq (pv 4) pe_int (nomark _)) (pe_cmpR (op_eqD hr.units) (pv 6) (pe_tup (pa_cons pe_str pa_nil)) (nomark _)) (nomark _)) (pss_one (ps_ret pe_bl)) pss_nil)
  (pss_cons (ps_if (pt_cmpR op_ne (pe_cmpR op_eq (pe_ix ix_tup (pe_call (ok_ahead D) (hr.mono (by decide)) rfl D.m_ahead D.f_ahead.kp D.b_ahead .nil pass0 (pa_cons (pv 0) (pa_cons (pv 1) (pa_cons (pv 3) pa_nil)))) pe_int (fun _ _ => rfl)) pe_str (nomark _)) (pe_and (pe_cmpR op_eq (pe_ix ix_tup (pv 6) pe_int (fun _ _ => rfl)) pe_str (nomark _)) (pe_one (pe_cmpR op_eq (pe_ix ix_tup (pv 6) pe_int (fun _ _ => rfl)) pe_int (nomark _)))) (nomark _)) (pss_one (ps_ret pe_bl)) pss_nil)
  (pss_cons (ps_if (pt_cmpR op_eq (pe_ix ix_tup (pv 6) pe_int (fun _ _ => rfl)) pe_str (nomark _)) (pss_cons (ps_if (PW.pt (pw_or (pt_cmpR op_ne (pe_ix ix_tup (pe_call (ok_before D) (hr.mono (by decide)) rfl D.m_before D.f_before.kp D.b_before .nil pass0 (pa_cons (pv 0) (pa_cons (pv 1) (pa_cons (pv 3) (pa_cons (pe_ix ix_tup (pv 6) pe_int (fun _ _ => rfl)) pa_nil))))) pe_int (fun _ _ => rfl)) pe_str (nomark _)) (pw_or1 (pt_cmpR op_ne (pe_ix ix_tup (pe_call (ok_before D) (hr.mono (by decide)) rfl D.m_before D.f_before.kp D.b_before .nil pass0 (pa_cons (pv 0) (pa_cons (pv 1) (pa_cons (pv 3) (pa_cons (pe_op oad (pe_ix ix_tup (pv 6) pe_int (fun _ _ => rfl)) pe_int) pa_nil))))) pe_int (fun _ _ => rfl)) pe_str (nomark _))))) (pss_one (ps_ret pe_bl)) pss_nil)
  (pss_one (ps_if (pt_cmpR op_notBl (pe_call (ok_shows_before D) (hr.mono (by decide)) rfl D.m_shows_before D.f_shows_before.kp D.b_shows_before .nil pass0 (pa_cons (pv 0) (pa_cons (pv 1) (pa_cons (pv 3) (pa_cons (pe_op oad (pe_ix ix_tup (pv 6) pe_int (fun _ _ => rfl)) pe_int) (pa_cons (pe_tup (pa_cons pe_str (pa_cons (pe_ix ix_tup (pv 6) pe_int (fun _ _ => rfl)) pa_nil))) pa_nil)))))) pe_bl (nomark _)) (pss_one (ps_ret pe_bl)) pss_nil))) pss_nil)
  (pss_cons (ps_set (i := 7) sc__law_is_row_right.nd rfl (.inl rfl) (pe_call (ok_after D) (hr.mono (by decide)) rfl D.m_after D.f_after.kp D.b_after .nil pass0 (pa_cons (pv 0) (pa_cons (pv 1) (pa_cons (pv 3) (pa_cons (pv 4) pa_nil))))))
  (pss_cons (ps_if (PW.pt (pw_or (pt_cmpR (op_neD hr.units) (pe_call (ok_depth D) (hr.mono (by decide)) rfl D.m_depth D.f_depth.kp D.b_depth .nil pass0 (pa_cons (pv 0) (pa_cons (pv 1) (pa_cons (pv 7) pa_nil)))) (pe_tup (pa_cons pe_str pa_nil)) (nomark _)) (pw_or1 (pt_cmpR op_ne (pe_call (ok_tail D) (hr.mono (by decide)) rfl D.m_tail D.f_tail.kp D.b_tail .nil pass0 (pa_cons (pv 0) (pa_cons (pv 1) (pa_cons (pv 7) pa_nil)))) pe_int (nomark _))))) (pss_one (ps_ret pe_bl)) pss_nil)
  (pss_cons (ps_if (pt_cmpR op_ne (pe_call (ok_period D) (hr.mono (by decide)) rfl D.m_period D.f_period.kp D.b_period .nil pass0 (pa_cons (pv 0) (pa_cons (pv 1) (pa_cons (pv 7) pa_nil)))) (pv 5) (nomark _)) (pss_one (ps_ret pe_bl)) pss_nil)
  (pss_cons (ps_if (PW.pt (pw_and (pt_cmpR op_lt (pe_op oad (pv 4) (pv 5)) pe_int (nomark _)) (pw_and1 (pt_cmpR op_ne (pe_call (ok_comes_to D) (hr.mono (by decide)) rfl D.m_comes_to D.f_comes_to.kp D.b_comes_to .nil pass0 (pa_cons (pv 0) (pa_cons (pv 1) (pa_cons (pv 3) (pa_cons (pv 7) pa_nil))))) (pv 4) (nomark _))))) (pss_one (ps_ret pe_bl)) pss_nil)
  (pss_cons (ps_set (i := 8) sc__law_is_row_right.nd rfl (.inl rfl) (pe_call (ok_before D) (hr.mono (by decide)) rfl D.m_before D.f_before.kp D.b_before .nil pass0 (pa_cons (pv 0) (pa_cons (pv 1) (pa_cons (pv 7) (pa_cons (pe_op opw pe_int pe_int) pa_nil))))))
  (pss_cons (ps_if (pt_cmpR op_ne (pe_ix ix_tup (pv 8) pe_int (fun _ _ => rfl)) pe_str (nomark _)) (pss_one (ps_ret pe_bl)) pss_nil)
  (pss_cons (ps_set (i := 9) sc__law_is_row_right.nd rfl (.inl rfl) (pe_call (ok__law_after D) (hr.mono (by decide)) rfl D.m__law_after D.f__law_after.kp D.b__law_after .nil pass0 (pa_cons (pv 0) (pa_cons (pv 1) (pa_cons (pv 2) (pa_cons (pe_call (ok__law_bits D) (hr.mono (by decide)) rfl D.m__law_bits D.f__law_bits.kp D.b__law_bits .nil pass0 (pa_cons (pe_ix ix_tup (pv 8) pe_int (fun _ _ => rfl)) pa_nil)) (pa_cons (pe_op opw pe_int pe_int) pa_nil)))))))
  (pss_one (ps_ret (pe_cmpR op_eq (pe_call (ok__law_text D) (hr.mono (by decide)) rfl D.m__law_text D.f__law_text.kp D.b__law_text .nil pass0 (pa_cons (pv 9) (pa_cons (pv 2) pa_nil))) (pv 7) (nomark _))))))))))))))), ?_⟩
    obtain ⟨ring, a, ru, n, b, rfl, ha, R, h0, h14, hb, RF, k⟩ := h
    obtain ⟨f1, f2, f3, f5a, f5b, f6, f7, sv, f8, f8a, f8b⟩ := RF
    have hlt := byOff_lt ring (wof ring ru n (tailM (ownM (beat ring ru n) n b))) hb
    obtain ⟨o1, o2⟩ := own_lt (beat_lt ring ru n) hb
    obtain ⟨far, efar⟩ : ∃ far, tailM (ownM (beat ring ru n) n b) = far := ⟨_, rfl⟩
    obtain ⟨later, elater⟩ : ∃ later, byOff ring (wof ring ru n far) n b = later := ⟨_, rfl⟩
    rw [efar] at f1 f5a f5b f6 f7 f8 f8b hlt
    rw [elater] at f5a f5b f6 f7 f8 f8b hlt
    have hfar30 : far ≤ 10 ^ 30 := by
      have : far ≤ 15 := by rw [← efar]; unfold tailM; omega
      omega
    refine ⟨_, rfl, _, rfl, _, rfl, ring, a, ru, n, b, rfl, ha, R, h0, h14, hb, fun H1 s1 => ?_⟩
    rw [efar]
    refine ⟨_, rfl, _, rfl, _, rfl, ring, a, ru, n, b, rfl, s1 _ _ ha, R, h0, h14, hb, fun H2 s2 => ?_⟩
    have s12 := s1.trans s2
    refine ⟨_, rfl, _, rfl, _, rfl, ring, a, ru, n, b, rfl, s12 _ _ ha, R, h0, h14, hb, fun p H3 s3 hp hP => ?_⟩
    refine ⟨_, _, _, rfl, ?_⟩
    have s13 := s12.trans s3
    refine ⟨_, rfl, rfl, _, rfl, sz (by show 1 ≤ 100000; decide), fun e0 he0 => ?_⟩
    have s4 : Same H3 (upd H3 e0 (.tup [.str "always"])) := same_new he0
    have s14 := s13.trans s4
    unfold depT at hP
    cases hd : depM ring (onceM ru (wd ring n)) n b with
    | none =>
      rw [hd] at hP f1 f2
      have hP : H3 p = some (.tup [.str "always"]) := hP
      refine ⟨_, _, .tup (SqT.of (s4 _ _ hP)) (.cons (.str _) .nil), .tup (SqT.of upd_same) (.cons (.str _) .nil), shp_always, shp_always, rfl, _, rfl, ?_⟩
      have z : far = 0 := f1.mpr rfl
      have d0 : decide (V.int (far : Int) = V.int 0) = true := decide_eq_true (by rw [z]; rfl)
      rw [eqv_always, d0, bl_ne]
      refine iteF ⟨_, rfl, _, rfl, _, rfl, ring, a, ru, n, b, rfl, s14 _ _ ha, R, h0, h14, hb, fun p5 H5 s5 hp5 hP5 => ?_⟩
      have nn : (Spn.of (cols ring (onceM ru (wd ring n)) n 1)).num b ≠ none := fun z => nomatch f2.mp z
      obtain ⟨v5, e5⟩ := Option.ne_none_iff_exists'.mp nn
      unfold toldM at hP5
      rw [e5] at hP5
      have hP5 : H5 p5 = some (.tup [.str "row", .str (txt v5 n)]) := hP5
      have hPa := s5 _ _ (s4 _ _ hP)
      refine ⟨p5, _, 0, _, rfl, rfl, SqT.of hP5, rfl, rfl, _, rfl, p, _, 0, _, rfl, rfl, SqT.of hPa, rfl, rfl, _, rfl, ?_⟩
      have g1 : decide (V.str "always" = V.str "beats") = false := by decide +kernel
      have g2 : decide (V.str "row" = V.str "garden") = false := by decide +kernel
      rw [g1, g2]
      refine iteF ⟨rfl, _, rfl, ?_⟩
      rw [bl_ne]
      refine iteF ⟨_, rfl, p, _, 0, _, rfl, rfl, SqT.of hPa, rfl, rfl, _, rfl, ?_⟩
      rw [g1]
      refine iteF ?_
      have s15 := s14.trans s5
      refine ⟨_, rfl, _, rfl, _, rfl, _, rfl, ring, a, ru, n, b, far, rfl, s15 _ _ ha, R, h0, h14, hb, hfar30, fun G1 t1 => ?_⟩
      rw [elater]
      have u1 := s15.trans t1
      refine ⟨_, rfl, _, rfl, _, rfl, ring, a, ru, n, later, rfl, u1 _ _ ha, R, h0, h14, hlt, fun p2 G2 t2 hp2 hP2 => ?_⟩
      unfold depT at hP2
      rw [f5a] at hP2
      refine ⟨sz (by show 1 ≤ 100000; decide), fun p3 hp3 => ?_⟩
      have t3 : Same G2 (upd G2 p3 (.tup [.str "always"])) := same_new hp3
      refine ⟨_, _, .tup (SqT.of (t3 _ _ hP2)) (.cons (.str _) .nil), .tup (SqT.of upd_same) (.cons (.str _) .nil), shp_always, shp_always, _, rfl, ?_⟩
      rw [eqv_always]
      have u3 := (u1.trans t2).trans t3
      refine iteF ⟨_, rfl, _, rfl, _, rfl, ring, a, ru, n, later, rfl, u3 _ _ ha, R, h0, h14, hlt, fun G4 t4 => ?_⟩
      refine ⟨rfl, _, rfl, ?_⟩
      have u4 := u3.trans t4
      refine itNe (m := 0) (fun z => absurd f5b z) (fun _ => ?_)
      refine ⟨_, rfl, _, rfl, _, rfl, ring, a, ru, n, later, rfl, u4 _ _ ha, R, h0, h14, hlt, fun G5 t5 => ?_⟩
      refine ⟨_, rfl, rfl, _, rfl, ?_⟩
      have u5 := u4.trans t5
      refine itNe (fun z => absurd f6 z) (fun _ => ?_)
      refine ⟨_, rfl, _, rfl, _, _, rfl, rfl, _, _, rfl, rfl, _, rfl, ?_⟩
      refine itI (fun hq => ?_) (fun hq => ?_)
      · have hq : far + periodM (ownM (beat ring ru n) n b) ≤ 4096 := by omega
        obtain ⟨g1, g2⟩ := f7
        have pp := period_pos (ownM (beat ring ru n) n b)
        refine ⟨_, rfl, _, rfl, _, rfl, _, rfl, ring, a, ru, n, b, later, far, rfl, u5 _ _ ha, R, h0, h14, hb, hlt, by rw [efar]; exact hq, by rw [efar]; omega, g1, g2, fun G6 t6 => ?_⟩
        refine ⟨_, rfl, rfl, _, rfl, ?_⟩
        have u6 := u5.trans t6
        refine itNe (fun z => absurd rfl z) (fun _ => ?_)
        refine ⟨_, rfl, _, rfl, _, rfl, 10, 30, rfl, rfl, ⟨by decide, c30⟩, ring, a, ru, n, later, 10 ^ 30, by show [V.str (kd ring), V.ref a, V.str (txt later n), V.int ((10 : Int) ^ (30 : Int).toNat)] = _; rw [e30], u6 _ _ ha, R, h0, h14, hlt, Nat.le_refl _, fun p7 H7 s7 hp7 hP7 => ?_⟩
        unfold toldM at hP7
        rw [f8] at hP7
        refine ⟨_, rfl, p7, _, 0, _, rfl, rfl, SqT.of hP7, rfl, rfl, _, rfl, ?_⟩
        rw [decide_eq_true rfl]
        refine iteF ⟨_, rfl, _, rfl, _, rfl, _, rfl, p7, _, 1, _, rfl, rfl, SqT.of hP7, rfl, sv, n, rfl, by omega, f8a, fun H8 s8 => ?_⟩
        have s08 := (u6.trans s7).trans s8
        refine ⟨10, 30, rfl, rfl, ⟨by decide, c30⟩, ring, a, ru, n, sv, 10 ^ 30, by show [V.str (kd ring), V.ref a, vn n, vn sv, V.int ((10 : Int) ^ (30 : Int).toNat)] = _; rw [e30], s08 _ _ ha, R.len, h0, h14, f8a, fun c9 H9 hc9 s9 => ?_⟩
        refine ⟨_, rfl, _, rfl, _, n, rfl, by omega, fun H10 s10 => ?_⟩
        refine ⟨_, rfl, rfl, ?_⟩
        rw [f8b c9 hc9, decide_eq_true rfl]
        exact k _ ((s08.trans s9).trans s10)
      · refine ⟨_, rfl, _, rfl, _, rfl, 10, 30, rfl, rfl, ⟨by decide, c30⟩, ring, a, ru, n, later, 10 ^ 30, by show [V.str (kd ring), V.ref a, V.str (txt later n), V.int ((10 : Int) ^ (30 : Int).toNat)] = _; rw [e30], u5 _ _ ha, R, h0, h14, hlt, Nat.le_refl _, fun p7 H7 s7 hp7 hP7 => ?_⟩
        unfold toldM at hP7
        rw [f8] at hP7
        refine ⟨_, rfl, p7, _, 0, _, rfl, rfl, SqT.of hP7, rfl, rfl, _, rfl, ?_⟩
        rw [decide_eq_true rfl]
        refine iteF ⟨_, rfl, _, rfl, _, rfl, _, rfl, p7, _, 1, _, rfl, rfl, SqT.of hP7, rfl, sv, n, rfl, by omega, f8a, fun H8 s8 => ?_⟩
        have s08 := (u5.trans s7).trans s8
        refine ⟨10, 30, rfl, rfl, ⟨by decide, c30⟩, ring, a, ru, n, sv, 10 ^ 30, by show [V.str (kd ring), V.ref a, vn n, vn sv, V.int ((10 : Int) ^ (30 : Int).toNat)] = _; rw [e30], s08 _ _ ha, R.len, h0, h14, f8a, fun c9 H9 hc9 s9 => ?_⟩
        refine ⟨_, rfl, _, rfl, _, n, rfl, by omega, fun H10 s10 => ?_⟩
        refine ⟨_, rfl, rfl, ?_⟩
        rw [f8b c9 hc9, decide_eq_true rfl]
        exact k _ ((s08.trans s9).trans s10)

    | some t =>
      rw [hd] at hP f1 f2
      obtain ⟨q1, q2, q3⟩ := f3 t hd
      have hP : H3 p = some (.tup [.str "beats", vn t, .str (txt (barFor (Spn.of (cols ring (onceM ru (wd ring n)) n (t + 1))).leads b) n)]) := hP
      obtain ⟨bar1, bar2, bar3, bar4, bar5⟩ := (span_pre (cols_lt ring (onceM ru (wd ring n)) n (t + 1))).bar (fun p _ => combR_lt (cols_lt _ _ _ _) p) hb q3
      have meets : ∀ c ∈ cols ring (onceM ru (wd ring n)) n (t + 1), par (barFor (Spn.of (cols ring (onceM ru (wd ring n)) n (t + 1))).leads b &&& c) = 0 := fun c hc => by
        obtain ⟨i, hi⟩ := List.mem_iff_getElem?.mp hc
        have il : i < (cols ring (onceM ru (wd ring n)) n (t + 1)).length := (List.getElem?_eq_some_iff.mp hi).1
        have := bar4 (2 ^ i) (Nat.pow_lt_pow_of_lt (by decide) il)
        rw [combR_pow _ i c hi] at this
        exact this
      generalize barFor (Spn.of (cols ring (onceM ru (wd ring n)) n (t + 1))).leads b = mk at hP bar3 bar5 meets
      refine ⟨_, _, .tup (SqT.of (s4 _ _ hP)) (.cons (.str _) (.cons (.int _) (.cons (.str _) .nil))), .tup (SqT.of upd_same) (.cons (.str _) .nil), shp_beats _ _ _, shp_always, rfl, _, rfl, ?_⟩
      have z : far ≠ 0 := fun q => nomatch f1.mp q
      have d0 : decide (V.int (far : Int) = V.int 0) = false := decide_eq_false fun q => z (Int.ofNat.inj (V.int.inj q))
      rw [eqv_beats, d0, bl_ne]
      refine iteF ⟨_, rfl, _, rfl, _, rfl, ring, a, ru, n, b, rfl, s14 _ _ ha, R, h0, h14, hb, fun p5 H5 s5 hp5 hP5 => ?_⟩
      have hPa := s5 _ _ (s4 _ _ hP)
      have g1 : decide (V.str "beats" = V.str "beats") = true := decide_eq_true rfl
      have g2 : decide (V.str "row" = V.str "garden") = false := by decide +kernel
      have g3 : decide (V.str "garden" = V.str "garden") = true := decide_eq_true rfl
      obtain ⟨w5, x5, hP5', hg⟩ : ∃ (w5 : Str) (x5 : V), H5 p5 = some (.tup [.str w5, x5]) ∧ decide (V.str w5 = V.str "garden") = decide (V.int (t : Int) = V.int 0) := by
        unfold toldM at hP5
        cases hn : (Spn.of (cols ring (onceM ru (wd ring n)) n 1)).num b with
        | none =>
          rw [hn] at hP5
          have t0 : t = 0 := Option.some.inj (f2.mp hn)
          exact ⟨_, _, hP5, by rw [g3, t0]; rfl⟩
        | some v =>
          rw [hn] at hP5
          have t0 : t ≠ 0 := fun q => by
            have := f2.mpr (by rw [q])
            rw [hn] at this; cases this
          refine ⟨_, _, hP5, ?_⟩
          have g4 : decide (V.int (t : Int) = V.int 0) = false := decide_eq_false fun q => t0 (Int.ofNat.inj (V.int.inj q))
          rw [g2, g4]
      refine ⟨p5, _, 0, _, rfl, rfl, SqT.of hP5', rfl, rfl, _, rfl, p, _, 0, _, rfl, rfl, SqT.of hPa, rfl, rfl, _, rfl, ?_⟩
      rw [g1]
      refine iteT ⟨_, rfl, p, _, 1, _, rfl, rfl, SqT.of hPa, rfl, rfl, ?_⟩
      refine ⟨rfl, _, rfl, ?_⟩
      rw [hg, bl_ne, bne_self_eq_false]
      refine iteF ⟨_, rfl, p, _, 0, _, rfl, rfl, SqT.of hPa, rfl, rfl, _, rfl, ?_⟩
      rw [g1]
      refine iteT ?_
      have s15 := s14.trans s5
      refine ⟨_, rfl, _, rfl, _, rfl, _, rfl, p, _, 1, _, rfl, rfl, SqT.of hPa, rfl, ring, a, ru, n, b, t, rfl, s15 _ _ ha, R, h0, h14, hb, by omega, fun p6 H6 s6 hp6 hP6 => ?_⟩
      unfold toldM at hP6
      obtain ⟨v6, e6⟩ := Option.ne_none_iff_exists'.mp q2
      rw [e6] at hP6
      have hP6 : H6 p6 = some (.tup [.str "row", .str (txt v6 n)]) := hP6
      refine ⟨p6, _, 0, _, rfl, rfl, SqT.of hP6, rfl, rfl, _, rfl, ?_⟩
      rw [decide_eq_true rfl]
      have hPb := s6 _ _ hPa
      refine iteF ⟨_, rfl, _, rfl, _, rfl, _, rfl, p, _, 1, _, rfl, rfl, SqT.of hPb, rfl, _, 1, rfl, rfl, ring, a, ru, n, b, t + 1, rfl, (s15.trans s6) _ _ ha, R, h0, h14, hb, by omega, fun p7 H7 s7 hp7 hP7 => ?_⟩
      unfold toldM at hP7
      rw [q3] at hP7
      have hP7 : H7 p7 = some (.tup [.str "garden", .str _]) := hP7
      refine ⟨p7, _, 0, _, rfl, rfl, SqT.of hP7, rfl, rfl, _, rfl, ?_⟩
      rw [g3]
      have hPc := s7 _ _ hPb
      have s17 := (s15.trans s6).trans s7
      refine iteF ⟨_, rfl, _, rfl, _, rfl, _, rfl, p, _, 1, _, rfl, rfl, SqT.of hPc, rfl, _, 1, rfl, rfl, _, rfl, p, _, 2, _, rfl, rfl, SqT.of hPc, rfl, sz (by show 2 ≤ 100000; decide), fun p8 hp8 => ?_⟩
      have s8 : Same H7 (upd H7 p8 (.tup [.str "garden", .str (txt mk n)])) := same_new hp8
      refine ⟨ring, a, p8, ru, n, b, mk, t + 1, rfl, (s17.trans s8) _ _ ha, R, h0, h14, hb, bar3, by omega, upd_same, meets, bar5, fun H9 s9 => ?_⟩
      refine ⟨_, _, rfl, rfl, _, rfl, ?_⟩
      refine iteF ?_
      have s19 := (s17.trans s8).trans s9
      refine ⟨_, rfl, _, rfl, _, rfl, _, rfl, ring, a, ru, n, b, far, rfl, s19 _ _ ha, R, h0, h14, hb, hfar30, fun G1 t1 => ?_⟩
      rw [elater]
      have u1 := s19.trans t1
      refine ⟨_, rfl, _, rfl, _, rfl, ring, a, ru, n, later, rfl, u1 _ _ ha, R, h0, h14, hlt, fun p2 G2 t2 hp2 hP2 => ?_⟩
      unfold depT at hP2
      rw [f5a] at hP2
      refine ⟨sz (by show 1 ≤ 100000; decide), fun p3 hp3 => ?_⟩
      have t3 : Same G2 (upd G2 p3 (.tup [.str "always"])) := same_new hp3
      refine ⟨_, _, .tup (SqT.of (t3 _ _ hP2)) (.cons (.str _) .nil), .tup (SqT.of upd_same) (.cons (.str _) .nil), shp_always, shp_always, _, rfl, ?_⟩
      rw [eqv_always]
      have u3 := (u1.trans t2).trans t3
      refine iteF ⟨_, rfl, _, rfl, _, rfl, ring, a, ru, n, later, rfl, u3 _ _ ha, R, h0, h14, hlt, fun G4 t4 => ?_⟩
      refine ⟨rfl, _, rfl, ?_⟩
      have u4 := u3.trans t4
      refine itNe (m := 0) (fun z => absurd f5b z) (fun _ => ?_)
      refine ⟨_, rfl, _, rfl, _, rfl, ring, a, ru, n, later, rfl, u4 _ _ ha, R, h0, h14, hlt, fun G5 t5 => ?_⟩
      refine ⟨_, rfl, rfl, _, rfl, ?_⟩
      have u5 := u4.trans t5
      refine itNe (fun z => absurd f6 z) (fun _ => ?_)
      refine ⟨_, rfl, _, rfl, _, _, rfl, rfl, _, _, rfl, rfl, _, rfl, ?_⟩
      refine itI (fun hq => ?_) (fun hq => ?_)
      · have hq : far + periodM (ownM (beat ring ru n) n b) ≤ 4096 := by omega
        obtain ⟨g1, g2⟩ := f7
        have pp := period_pos (ownM (beat ring ru n) n b)
        refine ⟨_, rfl, _, rfl, _, rfl, _, rfl, ring, a, ru, n, b, later, far, rfl, u5 _ _ ha, R, h0, h14, hb, hlt, by rw [efar]; exact hq, by rw [efar]; omega, g1, g2, fun G6 t6 => ?_⟩
        refine ⟨_, rfl, rfl, _, rfl, ?_⟩
        have u6 := u5.trans t6
        refine itNe (fun z => absurd rfl z) (fun _ => ?_)
        refine ⟨_, rfl, _, rfl, _, rfl, 10, 30, rfl, rfl, ⟨by decide, c30⟩, ring, a, ru, n, later, 10 ^ 30, by show [V.str (kd ring), V.ref a, V.str (txt later n), V.int ((10 : Int) ^ (30 : Int).toNat)] = _; rw [e30], u6 _ _ ha, R, h0, h14, hlt, Nat.le_refl _, fun p7 H7 s7 hp7 hP7 => ?_⟩
        unfold toldM at hP7
        rw [f8] at hP7
        refine ⟨_, rfl, p7, _, 0, _, rfl, rfl, SqT.of hP7, rfl, rfl, _, rfl, ?_⟩
        rw [decide_eq_true rfl]
        refine iteF ⟨_, rfl, _, rfl, _, rfl, _, rfl, p7, _, 1, _, rfl, rfl, SqT.of hP7, rfl, sv, n, rfl, by omega, f8a, fun H8 s8 => ?_⟩
        have s08 := (u6.trans s7).trans s8
        refine ⟨10, 30, rfl, rfl, ⟨by decide, c30⟩, ring, a, ru, n, sv, 10 ^ 30, by show [V.str (kd ring), V.ref a, vn n, vn sv, V.int ((10 : Int) ^ (30 : Int).toNat)] = _; rw [e30], s08 _ _ ha, R.len, h0, h14, f8a, fun c9 H9 hc9 s9 => ?_⟩
        refine ⟨_, rfl, _, rfl, _, n, rfl, by omega, fun H10 s10 => ?_⟩
        refine ⟨_, rfl, rfl, ?_⟩
        rw [f8b c9 hc9, decide_eq_true rfl]
        exact k _ ((s08.trans s9).trans s10)
      · refine ⟨_, rfl, _, rfl, _, rfl, 10, 30, rfl, rfl, ⟨by decide, c30⟩, ring, a, ru, n, later, 10 ^ 30, by show [V.str (kd ring), V.ref a, V.str (txt later n), V.int ((10 : Int) ^ (30 : Int).toNat)] = _; rw [e30], u5 _ _ ha, R, h0, h14, hlt, Nat.le_refl _, fun p7 H7 s7 hp7 hP7 => ?_⟩
        unfold toldM at hP7
        rw [f8] at hP7
        refine ⟨_, rfl, p7, _, 0, _, rfl, rfl, SqT.of hP7, rfl, rfl, _, rfl, ?_⟩
        rw [decide_eq_true rfl]
        refine iteF ⟨_, rfl, _, rfl, _, rfl, _, rfl, p7, _, 1, _, rfl, rfl, SqT.of hP7, rfl, sv, n, rfl, by omega, f8a, fun H8 s8 => ?_⟩
        have s08 := (u5.trans s7).trans s8
        refine ⟨10, 30, rfl, rfl, ⟨by decide, c30⟩, ring, a, ru, n, sv, 10 ^ 30, by show [V.str (kd ring), V.ref a, vn n, vn sv, V.int ((10 : Int) ^ (30 : Int).toNat)] = _; rw [e30], s08 _ _ ha, R.len, h0, h14, f8a, fun c9 H9 hc9 s9 => ?_⟩
        refine ⟨_, rfl, _, rfl, _, n, rfl, by omega, fun H10 s10 => ?_⟩
        refine ⟨_, rfl, rfl, ?_⟩
        rw [f8b c9 hc9, decide_eq_true rfl]
        exact k _ ((s08.trans s9).trans s10)

end
end K71
end

section
set_option maxHeartbeats 4000000
/-! the walk: the law -/
namespace K71
open PySem PySem.Spec PyProof.Rows L2 KM RZ
/-- what is due of a small world -/
structure AllFacts (ring : Bool) (ru : List Int) (n : Nat) : Prop where
  p : periodM (ownM (beat ring ru n) n 1) ≤ 1000
  sum : ((((loopsM ring (onceM ru (wd ring n)) n).filter fun e => decide (0 < e.2)).map fun e => (e.1, e.2.fdiv e.1)).map fun e => (e.1 : Int) * e.2).sum = ((((List.range (2 ^ n)).filter fun b => decide (tailM (ownM (beat ring ru n) n b) = 0)).length : Nat) : Int)
/-- what is due of a size -/
structure SizeFacts (ring : Bool) (ru : List Int) (n : Nat) : Prop where
  k1 : tailM (ownM (beat ring ru n) n 1) = 0 ↔ n - (Spn.of (cols ring (onceM ru (wd ring n)) n 1)).leads.length = 0
  k2 : 0 ∈ pw (ownM (beat ring ru n) n 1) ↔ n - (Spn.of (cols ring (onceM ru (wd ring n)) n 1)).leads.length = 0
  all : n < 5 → AllFacts ring ru n
theorem loops_keys_pos (ring : Bool) (o n : Nat) : ∀ e ∈ loopsM ring o n, e.1 ≤ periodM (ownM (byOff ring (offB o (wd ring n) 1) n) n 1) := fun e he => by
  have h := lpGo_keys ring o n (divs (periodM (ownM (byOff ring (offB o (wd ring n) 1) n) n 1))) []
  have m : e.1 ∈ (loopsM ring o n).map (·.1) := List.mem_map_of_mem he
  unfold loopsM at m
  rw [h] at m
  exact ((divs_mem _ _).mp m).2.1
section
variable {P : Program} {w : World} {K : PySem.W.Frag} {mg : Str → Option Value} {base : Heap}
def q__law_are_all_right (K : PySem.W.Frag) : Sp := fun vs H Q _ => ∃ (ring : Bool) (a : Addr) (ru : List Int) (n : Nat), vs = [.str (kd ring), .ref a, vn n] ∧ H a = some (.tup (ru.map V.int)) ∧ RuleOk ring ru ∧ 0 < n ∧ n < 5 ∧ AllFacts ring ru n ∧ ∀ H', Same H H' → Q (.bl true) H'
theorem ok__law_are_all_right (D : Ok K mg) : FnOk P w K mg base CX0 11 (He.ga K "_law_are_all_right") (fdA K (He.ga K "_law_are_all_right")) ["_law_kind_here", "_law_rule_here", "_law_size"] (q__law_are_all_right K) := by
  refine D.f__law_are_all_right.ok sc__law_are_all_right (fun vs H Q E h => ?_) (fun cdv A outer s H vs Q E hr h => ?_)
  · obtain ⟨_, _, _, _, rfl, _⟩ := h
    rfl
  · refine ⟨_, PSs.nox (pss_cons (ps_setLc (i := 3) (own := [("_law_bits_here", 5)]) (by rfl) sc__law_are_all_right.nd rfl rfl (sw_true rfl rfl rfl (by decide +kernel)) (pi_range1 (by rfl) D.z_range (pa_cons (pe_op osl pe_int (pv 2)) pa_nil)) (blkOk_by (own := [("_law_bits_here", 5)]) (N := ["_law_kind_here", "_law_rule_here", "_law_size", "_law_rows_here", "_law_due", "_law_bits_here", "_law_row", "_law_around", "_law_amount"]) (sc := defScope s__law_are_all_right) (by decide +kernel)) (fun _ _ _ _ _ => (pg_name (i := 5) sc__law_are_all_right.nd rfl (.inl rfl))) (fun _ _ _ _ _ => pts_nil) (fun _ _ _ _ _ => (pe_call (ok__law_text D) (hr.mono (by decide)) rfl D.m__law_text D.f__law_text.kp D.b__law_text .nil pass0 (pa_cons (pv 5) (pa_cons (pv 2) pa_nil)))))
  (pss_cons (ps_set (i := 4) sc__law_are_all_right.nd rfl (.inl rfl) (pe_callB call_len_seq (by rfl) D.z_len (by decide +kernel) (pa_cons (pe_lc (own := [("_law_row", 6)]) (by rfl) sc__law_are_all_right.nd (pi_list (pv 3)) (blkOk_by (own := [("_law_row", 6)]) (N := ["_law_kind_here", "_law_rule_here", "_law_size", "_law_rows_here", "_law_due", "_law_bits_here", "_law_row", "_law_around", "_law_amount"]) (sc := defScope s__law_are_all_right) (by decide +kernel)) (fun _ _ _ _ _ => (pg_name (i := 6) sc__law_are_all_right.nd rfl (.inl rfl))) (fun _ _ _ _ _ => pts_one (pt_cmpR op_eq (pe_call (ok_tail D) (hr.mono (by decide)) rfl D.m_tail D.f_tail.kp D.b_tail .nil pass0 (pa_cons (pv 0) (pa_cons (pv 1) (pa_cons (pv 6) pa_nil)))) pe_int (nomark _))) (fun _ _ _ _ _ => (pv 6))) pa_nil)))
  (pss_one (ps_ret (pe_cmpR op_eq (pe_callB (cr_sum rfl) (by rfl) D.z_sum (by decide +kernel) (pa_cons (pe_lc (own := [("_law_around", 7), ("_law_amount", 8)]) (g := gTup K 2 (gCons (gName 7) (gCons (gName 8) gNil))) (by rfl) sc__law_are_all_right.nd (pi_tup (pe_call (ok_loops D) (hr.mono (by decide)) rfl D.m_loops D.f_loops.kp D.b_loops .nil pass0 (pa_cons (pv 0) (pa_cons (pv 1) (pa_cons (pv 2) pa_nil))))) (blkOk_by (own := [("_law_around", 7), ("_law_amount", 8)]) (N := ["_law_kind_here", "_law_rule_here", "_law_size", "_law_rows_here", "_law_due", "_law_bits_here", "_law_row", "_law_around", "_law_amount"]) (sc := defScope s__law_are_all_right) (by decide +kernel)) (fun _ _ _ _ _ => (pg_tup (by rfl) (pgs_cons (pg_name (i := 7) sc__law_are_all_right.nd rfl (.inl rfl)) (pgs_cons (pg_name (i := 8) sc__law_are_all_right.nd rfl (.inl rfl)) pgs_nil)))) (fun _ _ _ _ _ => pts_nil) (fun _ _ _ _ _ => (pe_op op_mul (pv 7) (pv 8)))) pa_nil)) (pv 4) (nomark _)))))), ?_⟩
    obtain ⟨ring, a, ru, n, rfl, ha, R, h0, h5, AF, k⟩ := h
    have p16 : (1 <<< n) ≤ 16 := by
      rw [one_shl]
      exact Nat.pow_le_pow_right (n := 2) (by decide) (by omega : n ≤ 4)
    refine ⟨_, rfl, 1, n, rfl, rfl, ⟨by decide, by omega⟩, ((1 <<< n : Nat) : Int), rfl, Int.le_trans (by decide) (Int.natCast_nonneg _), Int.lt_of_le_of_lt (Int.ofNat_le.mpr p16) (by decide), fun D1 hD1 => ?_⟩
    rw [Int.toNat_natCast]
    refine lc_it walk_range (fun i H' => Same H H' ∧ H' D1 = some (.lst ((List.range i).map fun b => V.str (txt b n)))) ⟨same_new hD1, upd_same⟩ (fun _ _ _ _ => trivial) ?_ ?_
    · rintro i x H2 H3 hi ⟨s2, h2⟩ ⟨eH, ex⟩
      subst eH
      have ex' : x = vn i := by
        rw [ex]
        show V.int ((0 : Int) + (i : Int)) = V.int (i : Int)
        rw [Int.zero_add]
      subst ex'
      refine ⟨rfl, _, rfl, _, rfl, i, n, rfl, by omega, fun H4 s4 => ?_⟩
      refine ⟨_, s4 _ _ h2, szl (by rw [List.length_map, List.length_range]; omega), smut (s2.trans s4) hD1, ?_⟩
      rw [upd_same, List.range_succ, List.map_append]; rfl
    · rintro H2 ⟨s2, h2⟩
      rw [one_shl] at h2 p16
      refine ⟨_, rfl, D1, rfl, ⟨_, SqL.of h2⟩, fun D2 hD2 => lc_it (walk_list (xs := (List.range (2 ^ n)).map fun b => V.str (txt b n))) (fun i H' => Same H2 H' ∧ H' D2 = some (.lst (((List.range i).filter fun b => decide (tailM (ownM (beat ring ru n) n b) = 0)).map fun b => V.str (txt b n)))) ⟨same_new hD2, upd_same⟩ (fun i H' _ h => slist h.1 (SqL.of h2)) ?_ ?_⟩
      · rintro i x H3 H4 hi ⟨s3, h3⟩ ⟨eH, ex⟩
        subst eH
        obtain ⟨b, eb, rfl⟩ := map_at ex
        rw [List.length_map, List.length_range] at hi
        rw [List.getElem?_range hi] at eb
        obtain rfl : i = b := Option.some.inj eb
        have key := range_filter_snoc i fun b => decide (tailM (ownM (beat ring ru n) n b) = 0)
        refine ⟨rfl, _, rfl, _, rfl, _, rfl, ring, a, ru, n, i, rfl, s3 _ _ (s2 _ _ ha), R, h0, by omega, hi, fun H5 s5 => ?_⟩
        refine ⟨rfl, _, rfl, ?_⟩
        refine itE (m := 0) (fun hz => ?_) (fun hz => ?_)
        · rw [if_pos (decide_eq_true hz)] at key
          refine ⟨_, rfl, _, s5 _ _ h3, szl ?_, smut (s3.trans s5) hD2, ?_⟩
          · have := List.length_filter_le (fun b => decide (tailM (ownM (beat ring ru n) n b) = 0)) (List.range i)
            rw [List.length_range] at this
            rw [List.length_map]; omega
          · rw [upd_same, key, List.map_append]; rfl
        · rw [if_neg (by rw [decide_eq_false hz]; decide), List.append_nil] at key
          exact ⟨s3.trans s5, by rw [key]; exact s5 _ _ h3⟩
      · rintro H3 ⟨s3, h3⟩
        rw [List.length_map, List.length_range] at h3
        refine ⟨D2, _, rfl, .inl (SqL.of h3), ?_⟩
        have s23 := s2.trans s3
        rw [List.length_map]
        have hsum := AF.sum
        generalize ((List.range (2 ^ n)).filter fun b => decide (tailM (ownM (beat ring ru n) n b) = 0)).length = due at hsum
        refine ⟨_, rfl, _, rfl, _, rfl, ring, a, ru, n, rfl, s23 _ _ ha, R, h0, by omega, AF.p, fun p H4 us s4 hp hP hU => ?_⟩
        have hkp : ∀ e ∈ (((loopsM ring (onceM ru (wd ring n)) n).filter fun e => decide (0 < e.2)).map fun e => (e.1, e.2.fdiv e.1)), e.1 ≤ 1000 := fun e he => by
          obtain ⟨x, hx, rfl⟩ := List.mem_map.mp he
          exact Nat.le_trans (loops_keys_pos _ _ _ x (List.mem_filter.mp hx).1) AF.p
        have hll : (((loopsM ring (onceM ru (wd ring n)) n).filter fun e => decide (0 < e.2)).map fun e => (e.1, e.2.fdiv e.1)).length ≤ 1001 := by
          rw [List.length_map]
          have h1 := List.length_filter_le (fun e : Nat × Int => decide (0 < e.2)) (loopsM ring (onceM ru (wd ring n)) n)
          have h2 := congrArg List.length (lpGo_keys ring (onceM ru (wd ring n)) n (divs (periodM (ownM (beat ring ru n) n 1))) [])
          rw [List.length_map] at h2
          have h3 := List.length_filter_le (fun d => decide (0 < d) && decide (periodM (ownM (beat ring ru n) n 1) % d = 0)) (List.range (periodM (ownM (beat ring ru n) n 1) + 1))
          rw [List.length_range] at h3
          have h2 : (loopsM ring (onceM ru (wd ring n)) n).length = (divs (periodM (ownM (beat ring ru n) n 1))).length := h2
          have h3 : (divs (periodM (ownM (beat ring ru n) n 1))).length ≤ _ := h3
          have := AF.p
          omega
        generalize (((loopsM ring (onceM ru (wd ring n)) n).filter fun e => decide (0 < e.2)).map fun e => (e.1, e.2.fdiv e.1)) = lps at hU hsum hkp hll
        have hul := prd_len hU
        refine ⟨p, rfl, ⟨_, SqT.of hP⟩, fun D3 hD3 => lc_it (walk_tup (xs := us)) (fun i H' => H' = upd H4 D3 (.lst (((lps.take i).map fun e => (e.1 : Int) * e.2).map V.int))) rfl (fun i H' _ h => by rw [h]; exact stup (same_new hD3) (SqT.of hP)) ?_ ?_⟩
        · rintro i x H5 H6 hi rfl ⟨rfl, ex⟩
          obtain ⟨e, ee, t, rfl, ht⟩ := prd_at hU ex
          have hk := hkp e (List.mem_of_getElem? ee)
          have ht2 := same_new (o := .lst (((lps.take i).map fun e => (e.1 : Int) * e.2).map V.int)) hD3 _ _ ht
          refine ⟨t, _, rfl, SqT.of ht2, rfl, _, _, rfl, _, _, rfl, rfl, rfl, _, rfl, _, rfl, (e.1 : Int), e.2, rfl, rfl, .inl ⟨by omega, by omega⟩, _, upd_same, szl ?_, ?_⟩
          · rw [List.length_map, List.length_map, List.length_take]; omega
          · rw [upd_upd, take_succ ee, List.map_append, List.map_append]; rfl
        · rintro H5 rfl
          rw [hul, List.take_length]
          refine ⟨D3, _, rfl, SqL.of upd_same, _, rfl, rfl, ?_⟩
          rw [hsum, decide_eq_true rfl]
          exact k _ ((s23.trans s4).trans (same_new hD3))
theorem kept_dec {x y : Nat} (h : x = 0 ↔ y = 0) : decide (V.int (x : Int) = V.int 0) = decide (V.int (y : Int) = V.int 0) := by
  have := dec_vn x 0
  have := dec_vn y 0
  refine decide_eq_decide.mpr ?_
  constructor
  · intro q
    have := h.mp (Int.ofNat.inj (V.int.inj q))
    rw [this]; rfl
  · intro q
    have := h.mpr (Int.ofNat.inj (V.int.inj q))
    rw [this]; rfl
theorem itSame {a b : Bool} {A B : Prop} (h : a = b) (q : B) : if (!decide (V.bl a = V.bl b)) = true then A else B := by
  subst h
  rw [decide_eq_true rfl]
  exact iteF q
theorem flat_vns (l : List Nat) : (vns l).all flatV = true := by
  rw [List.all_eq_true]
  intro x hx
  obtain ⟨y, _, rfl⟩ := List.mem_map.mp hx
  rfl
theorem in_zero {l : List Nat} {y : Nat} (h : 0 ∈ l ↔ y = 0) : inV (V.int 0) (vns l) = decide (V.int (y : Int) = V.int 0) := by
  have e : inV (V.int 0) (vns l) = decide (0 ∈ l) := by
    rw [Bool.eq_iff_iff, decide_eq_true_eq]
    unfold inV
    rw [List.any_eq_true]
    constructor
    · rintro ⟨y, hy, he⟩
      obtain ⟨z, hz, rfl⟩ := List.mem_map.mp hy
      have he : ((z : Int) == 0) = true := he
      have : z = 0 := Int.ofNat.inj (of_decide_eq_true he)
      rw [← this]; exact hz
    · intro hm
      exact ⟨vn 0, List.mem_map_of_mem hm, by show ((0 : Int) == 0) = true; rfl⟩
  rw [e]
  refine decide_eq_decide.mpr ?_
  constructor
  · intro q
    rw [h.mp q]; rfl
  · intro q
    exact h.mpr (Int.ofNat.inj (V.int.inj q))
/-- the law's world: all that is due of it -/
def Due (ring : Bool) (ru : List Int) (n : Nat) : Prop := SizeFacts ring ru n ∧ ∀ b, b < 2 ^ n → RowFacts ring ru n b
def q__law_right (K : PySem.W.Frag) : Sp := fun vs H Q _ => ∃ (a : Addr) (c : Nat), vs = [.ref a] ∧ PotAt H a c ∧ c ≤ 700000 ∧ (∀ ring ru n, RuleOk ring ru → 0 < n → n ≤ 14 → Due ring ru n) ∧ ∀ H', SameBut a H H' → PotAt H' a (c + 100) → Q (.bl true) H'
theorem ok__law_right (D : Ok K mg) : FnOk P w K mg base CX0 12 (He.ga K "_law_right") (fdA K (He.ga K "_law_right")) ["_law_pot_here"] (q__law_right K) := by
  refine D.f__law_right.ok sc__law_right (fun vs H Q E h => ?_) (fun cdv A outer s H vs Q E hr h => ?_)
  · obtain ⟨_, _, rfl, _⟩ := h
    rfl
  · refine ⟨_, PSs.nox (pss_cons (ps_asg (pe_tup (pa_cons (pe_call (ok__law_kind D) (hr.mono (by decide)) rfl D.m__law_kind D.f__law_kind.kp D.b__law_kind .nil pass0 (pa_cons (pv 0) pa_nil)) (pa_cons (pe_op oad pe_int (pe_call (ok__law_take D) (hr.mono (by decide)) rfl D.m__law_take D.f__law_take.kp D.b__law_take .nil pass0 (pa_cons (pv 0) (pa_cons (pe_call (ok__law_of D) (hr.mono (by decide)) rfl D.m__law_of D.f__law_of.kp D.b__law_of .nil pass0 (pa_cons (pv 0) (pa_cons (pe_lst (pa_cons pe_int (pa_cons pe_int (pa_cons pe_int pa_nil)))) pa_nil))) pa_nil)))) pa_nil))) (pg_tup (by rfl) (pgs_cons (pg_name (i := 1) sc__law_right.nd rfl (.inr rfl)) (pgs_cons (pg_name (i := 2) sc__law_right.nd rfl (.inr rfl)) pgs_nil))))
  (pss_cons (ps_set (i := 3) sc__law_right.nd rfl (.inr rfl) (pe_call (ok__law_rule D) (hr.mono (by decide)) rfl D.m__law_rule D.f__law_rule.kp D.b__law_rule .nil pass0 (pa_cons (pv 0) (pa_cons (pv 1) pa_nil))))
  (pss_cons (ps_set (i := 4) sc__law_right.nd rfl (.inl rfl) (pe_cmpR op_eq (pe_call (ok_lost D) (hr.mono (by decide)) rfl D.m_lost D.f_lost.kp D.b_lost .nil pass0 (pa_cons (pv 1) (pa_cons (pv 3) (pa_cons (pv 2) pa_nil)))) pe_int (nomark _)))
  (pss_cons (ps_if (PW.pt (pw_or (pt_cmpR op_ne (pe_cmpR op_eq (pe_call (ok_tails D) (hr.mono (by decide)) rfl D.m_tails D.f_tails.kp D.b_tails .nil pass0 (pa_cons (pv 1) (pa_cons (pv 3) (pa_cons (pv 2) pa_nil)))) pe_int (nomark _)) (pv 4) (nomark _)) (pw_or1 (pt_cmpR op_ne (pe_cmpR op_in_seq pe_int (pe_call (ok_own D) (hr.mono (by decide)) rfl D.m_own D.f_own.kp D.b_own .nil pass0 (pa_cons (pv 1) (pa_cons (pv 3) (pa_cons (pv 2) pa_nil)))) (by rfl)) (pv 4) (nomark _))))) (pss_one (ps_ret pe_bl)) pss_nil)
  (pss_cons (ps_if (PW.pt (pw_and (pt_cmpR op_lt (pv 2) pe_int (nomark _)) (pw_and1 (pt_not (pt_val (pe_call (ok__law_are_all_right D) (hr.mono (by decide)) rfl D.m__law_are_all_right D.f__law_are_all_right.kp D.b__law_are_all_right .nil pass0 (pa_cons (pv 1) (pa_cons (pv 3) (pa_cons (pv 2) pa_nil))))))))) (pss_one (ps_ret pe_bl)) pss_nil)
  (pss_cons (ps_set (i := 5) sc__law_right.nd rfl (.inl rfl) (pe_call (ok__law_any_bits D) (hr.mono (by decide)) rfl D.m__law_any_bits D.f__law_any_bits.kp D.b__law_any_bits .nil pass0 (pa_cons (pv 0) (pa_cons (pv 2) pa_nil))))
  (pss_cons (ps_set (i := 6) sc__law_right.nd rfl (.inl rfl) (pe_lst (pa_cons (pv 5) (pa_cons (pe_call (ok__law_byT D) (hr.mono (by decide)) rfl D.m__law_by D.f__law_by.kp D.b__law_by .nil pass0 (pa_cons (pv 1) (pa_cons (pv 3) (pa_cons (pv 2) (pa_cons (pv 5) pa_nil))))) (pa_cons pe_int pa_nil)))))
  (pss_one (ps_ret (pe_callB (cr_all rfl) (by rfl) D.z_all (by decide +kernel) (pa_cons (pe_lc (own := [("_law_one", 7)]) (by rfl) sc__law_right.nd (pi_list (pv 6)) (blkOk_by (own := [("_law_one", 7)]) (N := ["_law_pot_here", "_law_kind_here", "_law_size", "_law_rule_here", "_law_is_kept", "_law_bits_here", "_law_some", "_law_one"]) (sc := defScope s__law_right) (by decide +kernel)) (fun _ _ _ _ _ => (pg_name (i := 7) sc__law_right.nd rfl (.inl rfl))) (fun _ _ _ _ _ => pts_nil) (fun _ _ _ _ _ => (pe_call (ok__law_is_row_right D) (hr.mono (by decide)) rfl D.m__law_is_row_right D.f__law_is_row_right.kp D.b__law_is_row_right .nil pass0 (pa_cons (pv 1) (pa_cons (pv 3) (pa_cons (pv 2) (pa_cons (pe_call (ok__law_text D) (hr.mono (by decide)) rfl D.m__law_text D.f__law_text.kp D.b__law_text .nil pass0 (pa_cons (pv 7) (pa_cons (pv 2) pa_nil))) pa_nil))))))) pa_nil))))))))))), ?_⟩
    obtain ⟨a, c, rfl, hP, hc, due, k⟩ := h
    refine ⟨_, rfl, a, c, rfl, hP, by omega, fun ring H1 s1 hP1 => ?_⟩
    refine ⟨_, rfl, _, rfl, sz (by show 3 ≤ 100000; decide), fun t ht => ?_⟩
    have st : Same H1 (upd H1 t (.lst [.int 5, .int 9, .int 14])) := same_new ht
    refine ⟨a, t, [.int 5, .int 9, .int 14], c + 1, rfl, hP1.mono st, upd_same, hP1.free ht, by simp, by show 3 < 1000; decide, by omega, fun v H2 hv s2 hP2 => ?_⟩
    obtain ⟨u, rfl, u1, u2⟩ : ∃ u : Nat, v = vn u ∧ 0 < u ∧ u ≤ 14 := by
      simp only [List.mem_cons, List.not_mem_nil, or_false] at hv
      rcases hv with h | h | h
      · exact ⟨5, h, by decide, by decide⟩
      · exact ⟨9, h, by decide, by decide⟩
      · exact ⟨14, h, by decide, by decide⟩
    refine ⟨a, u, c + 1 + 1, rfl, hP2, u1, by omega, by omega, fun d H3 hd s3 hP3 => ?_⟩
    refine ⟨1, d, rfl, rfl, sz (by show 2 ≤ 100000; decide), fun T hT => ?_⟩
    have sT : Same H3 (upd H3 T (.tup [.str (kd ring), vn (1 + d)])) := same_new hT
    refine ⟨T, _, rfl, SqT.of upd_same, rfl, _, _, rfl, _, _, rfl, rfl, ?_⟩
    have s03 := ((s1.trans (SameBut.of st)).trans s2).trans (s3.trans (SameBut.of sT))
    have hP4 := hP3.mono sT
    generalize upd H3 T (.tup [.str (kd ring), vn (1 + d)]) = H4 at s03 hP4 ⊢
    have h0 : 0 < 1 + d := by omega
    have h14 : 1 + d ≤ 14 := by omega
    refine ⟨_, rfl, _, rfl, a, ring, c + 1 + 1 + 1, rfl, hP4, by omega, fun ru p H5 R s5 hP5 hpn hp => ?_⟩
    obtain ⟨⟨k1, k2, kall⟩, rows⟩ := due ring ru (1 + d) R h0 h14
    have npa : p ≠ a := hP5.ne_tup hp
    have s05 := s03.trans s5
    refine ⟨_, rfl, _, rfl, _, rfl, ring, p, ru, 1 + d, rfl, hp, R, h0, h14, fun H6 s6 => ?_⟩
    refine ⟨rfl, ?_⟩
    have hp6 := s6 _ _ hp
    refine ⟨_, rfl, _, rfl, _, rfl, ring, p, ru, 1 + d, rfl, hp6, R, h0, h14, fun H7 s7 => ?_⟩
    refine ⟨rfl, _, rfl, rfl, _, rfl, ?_⟩
    have hp7 := s7 _ _ hp6
    refine itSame (kept_dec k1) ⟨_, rfl, _, rfl, _, rfl, ring, p, ru, 1 + d, rfl, hp7, R, h0, h14, fun q H8 s8 hq hQ => ?_⟩
    refine ⟨q, _, rfl, .inr (SqT.of hQ), rfl, flat_vns _, _, rfl, rfl, _, rfl, ?_⟩
    have hp8 := s8 _ _ hp7
    have s58 := (s6.trans s7).trans s8
    have hP8 := (hP5.mono s58).le (show c + 1 + 1 + 1 + 20 ≤ c + 50 by omega)
    have s08 := s05.trans (SameBut.of s58)
    refine itSame (in_zero k2) ⟨_, rfl, _, _, rfl, rfl, _, rfl, ?_⟩
    refine itI (fun h5 => ?_) (fun h5 => ?_)
    · have h5 : 1 + d < 5 := by omega
      refine ⟨_, rfl, _, rfl, _, rfl, ring, p, ru, 1 + d, rfl, hp8, R, h0, h5, kall h5, fun H9 s9 => ?_⟩
      refine ⟨_, rfl, iteF ?_⟩
      have hp9 := s9 _ _ hp8
      have hP9 := hP8.mono s9
      have s09 := s08.trans (SameBut.of s9)
      refine ⟨_, rfl, _, rfl, a, 1 + d, c + 50, rfl, hP9, h14, by omega, fun b G1 hb t1 hQ1 => ?_⟩
      have hp1 := t1 _ _ npa hp9
      have u1 := s09.trans t1
      refine ⟨_, rfl, _, rfl, _, rfl, _, rfl, _, rfl, ring, p, ru, 1 + d, b, rfl, SqT.of hp1, h0, h14, hb, fun G2 t2 => ?_⟩
      have hb2 : byA ring (xrl (ru.map fun o : Int => (o % ((wd ring (1 + d) : Nat) : Int)).toNat)) (1 + d) b < 2 ^ (1 + d) := by
        have hon : onceM ru (wd ring (1 + d)) < 2 ^ wd ring (1 + d) := onceM_lt ru (by cases ring <;> show 0 < _ <;> unfold wd <;> simp <;> omega)
        have := byOff_act (ring := ring) hon hb
        have l2 := byOff_lt ring (onceM ru (wd ring (1 + d))) hb
        rw [this] at l2
        exact l2
      generalize byA ring (xrl (ru.map fun o : Int => (o % ((wd ring (1 + d) : Nat) : Int)).toNat)) (1 + d) b = b2 at hb2
      refine ⟨sz (by show 3 ≤ 100000; decide), fun Lx hLx => ?_⟩
      have t3 : Same G2 (upd G2 Lx (.lst [vn b, vn b2, .int 0])) := same_new hLx
      have hL3 : (upd G2 Lx (.lst [vn b, vn b2, .int 0])) Lx = some (.lst [vn b, vn b2, .int 0]) := upd_same
      have u3 := u1.trans (SameBut.of (t2.trans t3))
      have hQ3 := (hQ1.mono t2).mono t3
      have hp3 := t3 _ _ (t2 _ _ hp1)
      generalize upd G2 Lx (.lst [vn b, vn b2, .int 0]) = G3 at hL3 u3 hQ3 hp3
      refine ⟨_, rfl, Lx, rfl, ⟨_, SqL.of hL3⟩, fun D1 hD1 => lc_it (walk_list (xs := [vn b, vn b2, .int 0])) (fun i H' => Same G3 H' ∧ H' D1 = some (.lst (trues i))) ⟨same_new hD1, upd_same⟩ (fun i H' _ h => slist h.1 (SqL.of hL3)) ?_ ?_⟩
      · rintro i x G4 G5 hi ⟨t4, h4⟩ ⟨eH, ex⟩
        subst eH
        obtain ⟨y, rfl, hy⟩ : ∃ y : Nat, x = vn y ∧ y < 2 ^ (1 + d) := by
          have hm := List.mem_of_getElem? ex
          simp only [List.mem_cons, List.not_mem_nil, or_false] at hm
          rcases hm with h | h | h
          · exact ⟨b, h, hb⟩
          · exact ⟨b2, h, hb2⟩
          · exact ⟨0, h, Nat.two_pow_pos _⟩
        refine ⟨rfl, _, rfl, _, rfl, _, rfl, _, rfl, _, rfl, y, 1 + d, rfl, by omega, fun G6 t6 => ?_⟩
        refine ⟨ring, p, ru, 1 + d, y, rfl, t6 _ _ (t4 _ _ hp3), R, h0, h14, hy, rows y hy, fun G7 t7 => ?_⟩
        refine ⟨_, t7 _ _ (t6 _ _ h4), szl (by rw [List.length_replicate]; exact Nat.lt_trans hi (by show 3 < 100000; decide)), smut ((t4.trans t6).trans t7) hD1, ?_⟩
        rw [upd_same, trues_snoc]
      · rintro G4 ⟨t4, h4⟩
        refine ⟨D1, List.replicate 3 true, rfl, SqL.of (by rw [h4, ← trues_map]; rfl), ?_⟩
        rw [trues_all]
        exact k _ (u3.trans (SameBut.of t4)) ((hQ3.mono t4).le (by omega))
    · refine iteF ?_
      refine ⟨_, rfl, _, rfl, a, 1 + d, c + 50, rfl, hP8, h14, by omega, fun b G1 hb t1 hQ1 => ?_⟩
      have hp1 := t1 _ _ npa hp8
      have u1 := s08.trans t1
      refine ⟨_, rfl, _, rfl, _, rfl, _, rfl, _, rfl, ring, p, ru, 1 + d, b, rfl, SqT.of hp1, h0, h14, hb, fun G2 t2 => ?_⟩
      have hb2 : byA ring (xrl (ru.map fun o : Int => (o % ((wd ring (1 + d) : Nat) : Int)).toNat)) (1 + d) b < 2 ^ (1 + d) := by
        have hon : onceM ru (wd ring (1 + d)) < 2 ^ wd ring (1 + d) := onceM_lt ru (by cases ring <;> show 0 < _ <;> unfold wd <;> simp <;> omega)
        have := byOff_act (ring := ring) hon hb
        have l2 := byOff_lt ring (onceM ru (wd ring (1 + d))) hb
        rw [this] at l2
        exact l2
      generalize byA ring (xrl (ru.map fun o : Int => (o % ((wd ring (1 + d) : Nat) : Int)).toNat)) (1 + d) b = b2 at hb2
      refine ⟨sz (by show 3 ≤ 100000; decide), fun Lx hLx => ?_⟩
      have t3 : Same G2 (upd G2 Lx (.lst [vn b, vn b2, .int 0])) := same_new hLx
      have hL3 : (upd G2 Lx (.lst [vn b, vn b2, .int 0])) Lx = some (.lst [vn b, vn b2, .int 0]) := upd_same
      have u3 := u1.trans (SameBut.of (t2.trans t3))
      have hQ3 := (hQ1.mono t2).mono t3
      have hp3 := t3 _ _ (t2 _ _ hp1)
      generalize upd G2 Lx (.lst [vn b, vn b2, .int 0]) = G3 at hL3 u3 hQ3 hp3
      refine ⟨_, rfl, Lx, rfl, ⟨_, SqL.of hL3⟩, fun D1 hD1 => lc_it (walk_list (xs := [vn b, vn b2, .int 0])) (fun i H' => Same G3 H' ∧ H' D1 = some (.lst (trues i))) ⟨same_new hD1, upd_same⟩ (fun i H' _ h => slist h.1 (SqL.of hL3)) ?_ ?_⟩
      · rintro i x G4 G5 hi ⟨t4, h4⟩ ⟨eH, ex⟩
        subst eH
        obtain ⟨y, rfl, hy⟩ : ∃ y : Nat, x = vn y ∧ y < 2 ^ (1 + d) := by
          have hm := List.mem_of_getElem? ex
          simp only [List.mem_cons, List.not_mem_nil, or_false] at hm
          rcases hm with h | h | h
          · exact ⟨b, h, hb⟩
          · exact ⟨b2, h, hb2⟩
          · exact ⟨0, h, Nat.two_pow_pos _⟩
        refine ⟨rfl, _, rfl, _, rfl, _, rfl, _, rfl, _, rfl, y, 1 + d, rfl, by omega, fun G6 t6 => ?_⟩
        refine ⟨ring, p, ru, 1 + d, y, rfl, t6 _ _ (t4 _ _ hp3), R, h0, h14, hy, rows y hy, fun G7 t7 => ?_⟩
        refine ⟨_, t7 _ _ (t6 _ _ h4), szl (by rw [List.length_replicate]; exact Nat.lt_trans hi (by show 3 < 100000; decide)), smut ((t4.trans t6).trans t7) hD1, ?_⟩
        rw [upd_same, trues_snoc]
      · rintro G4 ⟨t4, h4⟩
        refine ⟨D1, List.replicate 3 true, rfl, SqL.of (by rw [h4, ← trues_map]; rfl), ?_⟩
        rw [trues_all]
        exact k _ (u3.trans (SameBut.of t4)) ((hQ3.mono t4).le (by omega))
def q_law (K : PySem.W.Frag) : Sp := fun vs H Q _ => ∃ (a : Addr) (xs : List Int), vs = [.ref a] ∧ SqL K H a (xs.map V.int) ∧ (∀ ring ru n, RuleOk ring ru → 0 < n → n ≤ 14 → Due ring ru n) ∧ ∀ H', Same H H' → Q (.bl true) H'
theorem ok_law (D : Ok K mg) : FnOk P w K mg base CX0 13 (He.ga K "law") (fdA K (He.ga K "law")) ["_law_script"] (q_law K) := by
  refine D.f_law.ok sc_law (fun vs H Q E h => ?_) (fun cdv A outer s H vs Q E hr h => ?_)
  · obtain ⟨_, _, rfl, _⟩ := h
    rfl
  · refine ⟨_, PSs.nox (pss_cons (ps_for PassesOwn.never rfl (pi_list (pe_call (ok__law_cells D) (hr.mono (by decide)) rfl D.m__law_cells D.f__law_cells.kp D.b__law_cells .nil pass0 (pa_cons (pv 0) (pa_cons pe_int pa_nil)))) (pg_name (i := 1) sc_law.nd rfl (.inl rfl))
    (pss_cons (ps_set (i := 2) sc_law.nd rfl (.inr rfl) (pe_call (ok__law_pot D) (hr.mono (by decide)) rfl D.m__law_pot D.f__law_pot.kp D.b__law_pot .nil pass0 (pa_cons (pv 0) (pa_cons (pv 1) pa_nil))))
  (pss_one (ps_if (pt_not (pt_val (pe_callB (cr_all rfl) (by rfl) D.z_all (by decide +kernel) (pa_cons (pe_lc (own := [("_law_lap", 3)]) (by rfl) sc_law.nd (pi_range1 (by rfl) D.z_range (pa_cons pe_int pa_nil)) (blkOk_by (own := [("_law_lap", 3)]) (N := ["_law_script", "_law_place", "_law_pot_here", "_law_lap"]) (sc := defScope s_law) (by decide +kernel)) (fun _ _ _ _ _ => (pg_name (i := 3) sc_law.nd rfl (.inl rfl))) (fun _ _ _ _ _ => pts_nil) (fun _ _ _ _ _ => (pe_call (ok__law_right D) (hr.mono (by decide)) rfl D.m__law_right D.f__law_right.kp D.b__law_right .nil pass0 (pa_cons (pv 2) pa_nil)))) pa_nil)))) (pss_one (ps_ret pe_bl)) pss_nil))))
  (pss_one (ps_ret pe_bl))), ?_⟩
    obtain ⟨a, xs, rfl, hS, due, k⟩ := h
    refine ⟨_, rfl, a, _, rfl, hS, fun L n H1 hn s1 hL hT => ?_⟩
    refine ⟨L, rfl, ⟨_, SqL.of hT⟩, for_it (walk_list (xs := vns (List.range n))) (fun i σ H' => Same H1 H' ∧ ∃ y1 y2, σ = [some (.ref a), y1, y2, none]) ⟨Same.refl _, none, none, rfl⟩ (fun i σ H' _ h => slist h.1 (SqL.of hT)) ?_ ?_⟩
    · rintro i x σ H2 H3 hi ⟨s2, y1, y2, rfl⟩ ⟨eH, ex⟩
      subst eH
      obtain ⟨pl, ep, rfl⟩ := vns_at ex
      have hpl : pl ≤ 10 := by
        have := List.mem_range.mp (List.mem_of_getElem? ep)
        omega
      have s12 := s1.trans s2
      refine ⟨_, rfl, _, rfl, a, xs, pl, rfl, slist s12 hS, hpl, fun pt H4 s4 hpn hPot => ?_⟩
      refine ⟨(2 : Int), rfl, by decide, by decide, fun D1 hD1 => ?_⟩
      have nDp : D1 ≠ pt := hPot.free hD1
      rw [show (2 : Int).toNat = 2 from rfl]
      refine lc_it walk_range (fun j H' => SameBut pt H4 H' ∧ PotAt H' pt (100 * j) ∧ H' D1 = some (.lst (trues j)) ∧ j ≤ 2) ⟨SameBut.of (same_new hD1), hPot.mono (same_new hD1), upd_same, by decide⟩ (fun _ _ _ _ => trivial) ?_ ?_
      · rintro j x H5 H6 hj ⟨s5, hP5, h5, j2⟩ ⟨eH, ex⟩
        subst eH
        refine ⟨rfl, _, rfl, pt, 100 * j, rfl, hP5, by omega, due, fun H7 s7 hP7 => ?_⟩
        have h7 := s7 _ _ nDp h5
        refine ⟨_, h7, szl (by rw [List.length_replicate]; omega), (s5.trans s7).mut hD1, ?_, by rw [upd_same, trues_snoc], by omega⟩
        obtain ⟨A0, B0, C0, q1, q2⟩ := hP7
        exact ⟨A0, B0, C0, by rw [upd_ne nDp.symm]; exact q1, q2⟩
      · rintro H5 ⟨s5, hP5, h5, _⟩
        refine ⟨D1, List.replicate 2 true, rfl, SqL.of (by rw [h5, ← trues_map]), ?_⟩
        rw [trues_all]
        refine ⟨_, rfl, iteF ?_⟩
        exact ⟨SameBut.same (s2.trans s4) (s2.free hpn) s5, _, _, rfl⟩
    · rintro σ H2 ⟨s2, y1, y2, rfl⟩
      exact k _ (s1.trans s2)
end
end K71
end

section
set_option maxHeartbeats 4000000
/-! plain mathematics: walls; a beat taken many times -/
namespace KM
theorem mod2 {x N : Nat} (h : x < 2 * N) : x % N = if x < N then x else x - N := by
  by_cases c : x < N
  · rw [if_pos c, Nat.mod_eq_of_lt c]
  · rw [if_neg c, Nat.mod_eq_sub_mod (by omega), Nat.mod_eq_of_lt (by omega)]
/-- turned about -/
def refl (N w : Nat) : Nat := xrl ((List.range N).filter fun i => w.testBit ((N - i) % N))
theorem refl_tb {N : Nat} (w : Nat) {i : Nat} (hi : i < N) : (refl N w).testBit i = w.testBit ((N - i) % N) := by
  unfold refl
  rw [xrl_tb (List.Nodup.sublist List.filter_sublist List.nodup_range), Bool.eq_iff_iff, decide_eq_true_eq, List.mem_filter, List.mem_range]
  exact ⟨fun h => h.2, fun h => ⟨hi, h⟩⟩
theorem refl_lt (N w : Nat) : refl N w < 2 ^ N := xrl_lt fun p hp => List.mem_range.mp (List.mem_filter.mp hp).1
theorem refl_lin (N : Nat) : Lin (refl N) := fun a b => eq_of_bits (refl_lt ..) (Nat.xor_lt_two_pow (refl_lt ..) (refl_lt ..)) fun i hi => by
  rw [refl_tb _ hi, Nat.testBit_xor, Nat.testBit_xor, refl_tb _ hi, refl_tb _ hi]
/-- the contrary of a turn -/
def ngo (N p : Nat) : Nat := (N - p) % N
theorem refl_turn {N w p : Nat} (hw : w < 2 ^ N) (hp : p < N) : refl N (itr (rho N) p w) = itr (rho N) (ngo N p) (refl N w) := by
  have hN : 0 < N := by omega
  refine eq_of_bits (refl_lt ..) (itb (fun v h => rho_lt h) _ _ (refl_lt ..)) fun i hi => ?_
  have l1 : (N - i) % N < N := Nat.mod_lt _ hN
  have l2 : (i + ngo N p) % N < N := Nat.mod_lt _ hN
  rw [refl_tb _ hi, itr_rho_tb' hN hw p _ l1, itr_rho_tb' hN (refl_lt N w) _ i hi, refl_tb _ l2]
  congr 1
  unfold ngo
  have e1 := mod2 (x := N - i) (N := N) (by omega)
  have e2 := mod2 (x := N - p) (N := N) (by omega)
  have lp : (N - p) % N < N := Nat.mod_lt _ hN
  have e3 := mod2 (x := i + (N - p) % N) (N := N) (by omega)
  have e4 := mod2 (x := (N - i) % N + p) (N := N) (by omega)
  have e5 := mod2 (x := N - (i + (N - p) % N) % N) (N := N) (by omega)
  rw [e4, e5, e3, e1, e2]
  split <;> split <;> split <;> split <;> (try split) <;> omega
theorem refl_act {N : Nat} : ∀ (l : List Nat) (w : Nat), (∀ p ∈ l, p < N) → w < 2 ^ N → refl N (actL N l w) = actL N (l.map (ngo N)) (refl N w)
  | [], w, _, _ => (refl_lin N).zero
  | p :: l, w, hl, hw => by
    rw [List.map_cons, actL_cons, actL_cons, refl_lin N, refl_turn hw (hl p (List.mem_cons_self ..)), refl_act l w (fun q hq => hl q (List.mem_cons_of_mem _ hq)) hw]
/-- the rows that walls make -/
def Sy (N u : Nat) : Prop := ∃ w, w < 2 ^ N ∧ u = w ^^^ refl N w
theorem Sy.lt {N u : Nat} (h : Sy N u) : u < 2 ^ N := by
  obtain ⟨w, hw, rfl⟩ := h
  exact Nat.xor_lt_two_pow hw (refl_lt ..)
theorem Sy.act {N u : Nat} {l : List Nat} (hl : ∀ p ∈ l, p < N) (he : (l.map (ngo N)).Perm l) (h : Sy N u) : Sy N (actL N l u) := by
  obtain ⟨w, hw, rfl⟩ := h
  refine ⟨actL N l w, actL_lt l hw, ?_⟩
  rw [refl_act l w hl hw, actL_lin N l]
  congr 1
  unfold actL
  rw [xrl_perm he]
/-- folded -/
def fld (n u : Nat) : Nat := (u >>> 1) &&& ((1 <<< n) - 1)
theorem fld_lt (n u : Nat) : fld n u < 2 ^ n := by
  unfold fld; rw [and_mask]; exact Nat.mod_lt _ (Nat.two_pow_pos n)
theorem fld_tb {n u i : Nat} (hi : i < n) : (fld n u).testBit i = u.testBit (i + 1) := by
  unfold fld
  rw [and_mask, Nat.testBit_mod_two_pow, decide_eq_true hi, Bool.true_and, Nat.testBit_shiftRight, Nat.add_comm]
theorem fld_lin (n : Nat) : Lin (fld n) := fun a b => by
  unfold fld
  have e : (a ^^^ b) >>> 1 = a >>> 1 ^^^ b >>> 1 := shr_lin 1 a b
  rw [and_mask, and_mask, and_mask, e, mod_xor]
theorem fld_unf {n v : Nat} (hv : v < 2 ^ n) : fld n (unf n v) = v := eq_of_bits (fld_lt ..) hv fun i hi => by
  rw [fld_tb hi, unf_tb hv, decide_eq_true (by omega : 1 ≤ i + 1), decide_eq_false (by omega : ¬ n + 2 ≤ i + 1), Bool.true_and, Bool.false_and, Bool.false_and, Bool.or_false, Nat.add_sub_cancel]
theorem unf_sy {n v : Nat} (hv : v < 2 ^ n) : Sy (2 * n + 2) (unf n v) := by
  have l2 : v <<< 1 < 2 ^ (n + 1) := by
    rw [Nat.shiftLeft_eq, Nat.pow_succ]
    exact Nat.mul_lt_mul_of_pos_right hv (by decide)
  have lt : v <<< 1 < 2 ^ (2 * n + 2) := Nat.lt_of_lt_of_le l2 (Nat.pow_le_pow_right (by decide) (by omega))
  refine ⟨v <<< 1, lt, eq_of_bits (unf_lt hv) (Nat.xor_lt_two_pow lt (refl_lt ..)) fun j hj => ?_⟩
  rw [unf_tb hv, Nat.testBit_xor, refl_tb _ hj, Nat.testBit_shiftLeft, Nat.testBit_shiftLeft, mod2 (x := 2 * n + 2 - j) (N := 2 * n + 2) (by omega)]
  by_cases c0 : j = 0
  · subst c0
    rw [if_neg (by omega)]
    simp
  · rw [if_pos (by omega)]
    by_cases c1 : j ≤ n
    · rw [tb_ge hv (i := 2 * n + 2 - j - 1) (by omega), decide_eq_false (by omega : ¬ n + 2 ≤ j)]
      simp
    · rw [tb_ge hv (i := j - 1) (by omega)]
      by_cases c2 : j = n + 1
      · subst c2
        rw [decide_eq_false (by omega : ¬ n + 2 ≤ n + 1), tb_ge hv (i := 2 * n + 2 - (n + 1) - 1) (by omega)]
        simp
      · rw [decide_eq_true (by omega : n + 2 ≤ j), decide_eq_true (by omega : j ≤ 2 * n + 1), decide_eq_true (by omega : 2 * n + 2 - j ≥ 1), show 2 * n + 2 - j - 1 = 2 * n + 1 - j by omega]
        simp
theorem unf_fld {n u : Nat} (h : Sy (2 * n + 2) u) : unf n (fld n u) = u := by
  refine eq_of_bits (unf_lt (fld_lt ..)) h.lt fun j hj => ?_
  obtain ⟨w, hw, rfl⟩ := h
  have sy : ∀ i, i < 2 * n + 2 → (w ^^^ refl (2 * n + 2) w).testBit i = (w.testBit i ^^ w.testBit ((2 * n + 2 - i) % (2 * n + 2))) := fun i hi => by
    rw [Nat.testBit_xor, refl_tb _ hi]
  rw [unf_tb (fld_lt ..)]
  by_cases c0 : j = 0
  · subst c0
    rw [sy 0 hj, mod2 (by omega), if_neg (by omega)]
    simp
  · by_cases c1 : j ≤ n
    · rw [decide_eq_true (by omega : 1 ≤ j), decide_eq_false (by omega : ¬ n + 2 ≤ j), fld_tb (by omega : j - 1 < n), show j - 1 + 1 = j by omega]
      simp
    · rw [tb_ge (fld_lt n _) (i := j - 1) (by omega)]
      by_cases c2 : j = n + 1
      · subst c2
        rw [decide_eq_false (by omega : ¬ n + 2 ≤ n + 1), sy _ hj, mod2 (by omega), if_pos (by omega), show 2 * n + 2 - (n + 1) = n + 1 by omega]
        simp
      · rw [decide_eq_true (by omega : n + 2 ≤ j), decide_eq_true (by omega : j ≤ 2 * n + 1), fld_tb (by omega : 2 * n + 1 - j < n), sy _ (by omega), sy _ hj, mod2 (by omega), mod2 (by omega), if_pos (by omega), if_pos (by omega)]
        rw [show 2 * n + 1 - j + 1 = 2 * n + 2 - j by omega, show 2 * n + 2 - (2 * n + 2 - j) = j by omega]
        simp [Bool.xor_comm]
end KM
end

section
set_option maxHeartbeats 4000000
/-! plain mathematics: a beat as a linear map; rows -/
namespace KM
theorem unf_xor {n a b : Nat} (ha : a < 2 ^ n) (hb : b < 2 ^ n) : unf n (a ^^^ b) = unf n a ^^^ unf n b := by
  refine eq_of_bits (unf_lt (Nat.xor_lt_two_pow ha hb)) (Nat.xor_lt_two_pow (unf_lt ha) (unf_lt hb)) fun j hj => ?_
  rw [Nat.testBit_xor, unf_tb (Nat.xor_lt_two_pow ha hb), unf_tb ha, unf_tb hb, Nat.testBit_xor, Nat.testBit_xor]
  by_cases c1 : j ≤ n
  · rw [decide_eq_false (by omega : ¬ n + 2 ≤ j)]
    cases decide (1 ≤ j) <;> simp
  · rw [tb_ge ha (i := j - 1) (by omega), tb_ge hb (i := j - 1) (by omega)]
    cases decide (n + 2 ≤ j) <;> cases decide (j ≤ 2 * n + 1) <;> simp
theorem wd_pos {ring : Bool} {n : Nat} (h : 0 < n) : 0 < wd ring n := by
  cases ring
  · show 0 < 2 * n + 2; omega
  · exact h
theorem byA_lt {ring : Bool} {p n b : Nat} (hb : b < 2 ^ n) : byA ring p n b < 2 ^ n := by
  unfold byA
  cases ring with
  | true => exact act_lt (fun v h => rho_lt h) _ _ hb
  | false => exact fld_lt n _
theorem byA_xor {ring : Bool} {p n a b : Nat} (ha : a < 2 ^ n) (hb : b < 2 ^ n) : byA ring p n (a ^^^ b) = byA ring p n a ^^^ byA ring p n b := by
  unfold byA
  cases ring with
  | true => exact act_lin (rho_lin n) p a b
  | false =>
    show fld n (Act (rho (2 * n + 2)) p (unf n (a ^^^ b))) = fld n _ ^^^ fld n _
    rw [unf_xor ha hb, act_lin (rho_lin _) p, fld_lin n]
theorem itr_congr {S T : Nat → Nat} {n : Nat} (h : ∀ v, v < 2 ^ n → S v = T v) (hT : ∀ v, v < 2 ^ n → T v < 2 ^ n) : ∀ k v, v < 2 ^ n → itr S k v = itr T k v
  | 0, _, _ => rfl
  | k + 1, v, hv => by
    show itr S k (S v) = itr T k (T v)
    rw [h v hv, itr_congr h hT k _ (hT v hv)]
/-- offsets that walls stand -/
structure Offs (ring : Bool) (n : Nat) (l : List Nat) : Prop where
  pos : 0 < n
  lt : ∀ p ∈ l, p < wd ring n
  sym : ring = false → (l.map (ngo (wd ring n))).Perm l
section
variable {ring : Bool} {n : Nat} {l : List Nat}
theorem walls_iter (O : Offs false n l) : ∀ (t u : Nat), Sy (2 * n + 2) u → itr (byA false (xrl l) n) t (fld n u) = fld n (itr (Act (rho (2 * n + 2)) (xrl l)) t u)
  | 0, _, _ => rfl
  | t + 1, u, hu => by
    have e : byA false (xrl l) n (fld n u) = fld n (Act (rho (2 * n + 2)) (xrl l) u) := by
      show fld n (Act (rho (2 * n + 2)) (xrl l) (unf n (fld n u))) = _
      rw [unf_fld hu]
    show itr _ t (byA false (xrl l) n (fld n u)) = fld n (itr _ t (Act _ _ u))
    rw [e]
    exact walls_iter O t _ (hu.act (N := 2 * n + 2) (l := l) O.lt (O.sym rfl))
/-- a polynomial that does what t beats do -/
theorem byA_iter (O : Offs ring n l) {c t s : Nat} (hc : ∀ v, v < 2 ^ wd ring n → Act (rho (wd ring n)) c v = itr (Act (rho (wd ring n)) (xrl l)) t v) (hs : s < 2 ^ n) : byA ring c n s = itr (byA ring (xrl l) n) t s := by
  cases ring with
  | true => exact hc s hs
  | false =>
    have h := walls_iter O t (unf n s) (unf_sy hs)
    rw [fld_unf hs] at h
    rw [h]
    show fld n (Act (rho (2 * n + 2)) c (unf n s)) = _
    have hc : Act (rho (2 * n + 2)) c (unf n s) = itr (Act (rho (2 * n + 2)) (xrl l)) t (unf n s) := hc _ (unf_lt hs)
    rw [hc]
/-- the beat, of any number -/
def bt (ring : Bool) (l : List Nat) (n v : Nat) : Nat := byA ring (xrl l) n (v % 2 ^ n)
theorem bt_lin (ring : Bool) (l : List Nat) (n : Nat) : Lin (bt ring l n) := fun a b => by
  unfold bt
  rw [mod_xor]
  exact byA_xor (Nat.mod_lt _ (Nat.two_pow_pos n)) (Nat.mod_lt _ (Nat.two_pow_pos n))
theorem bt_lt (ring : Bool) (l : List Nat) (n v : Nat) : bt ring l n v < 2 ^ n := byA_lt (Nat.mod_lt _ (Nat.two_pow_pos n))
theorem bt_eq {v : Nat} (hv : v < 2 ^ n) : bt ring l n v = byA ring (xrl l) n v := by
  unfold bt; rw [Nat.mod_eq_of_lt hv]
theorem bt_iter (O : Offs ring n l) {c t s : Nat} (hc : ∀ v, v < 2 ^ wd ring n → Act (rho (wd ring n)) c v = itr (Act (rho (wd ring n)) (xrl l)) t v) (hs : s < 2 ^ n) : byA ring c n s = itr (bt ring l n) t s := by
  rw [byA_iter O hc hs]
  exact itr_congr (fun v hv => (bt_eq hv).symm) (fun v _ => bt_lt ring l n v) t s hs
theorem off_iter (O : Offs ring n l) (t : Nat) {s : Nat} (hs : s < 2 ^ n) : byOff ring (offB (xrl l) (wd ring n) t) n s = itr (bt ring l n) t s := by
  rw [byOff_act (offB_lt _ _ _) hs]
  exact bt_iter O (fun v hv => offB_act (wd_pos O.pos) _ t hv) hs
theorem one_beat (O : Offs ring n l) {s : Nat} (hs : s < 2 ^ n) : byOff ring (offB (xrl l) (wd ring n) 1) n s = bt ring l n s := off_iter O 1 hs
theorem itr_bt_lt {t s : Nat} (hs : s < 2 ^ n) : itr (bt ring l n) t s < 2 ^ n := itb (fun v _ => bt_lt ring l n v) t s hs
/-! ### the columns -/
theorem lin_agree {S T : Nat → Nat} (hS : Lin S) (hT : Lin T) : ∀ n, (∀ i, i < n → S (2 ^ i) = T (2 ^ i)) → ∀ v, v < 2 ^ n → S v = T v
  | 0, _, v, hv => by
    have : v = 0 := by omega
    rw [this, hS.zero, hT.zero]
  | n + 1, h, v, hv => by
    rcases pow_split hv with hv | ⟨q, hq, rfl⟩
    · exact lin_agree hS hT n (fun i hi => h i (by omega)) v hv
    · rw [hS, hT, lin_agree hS hT n (fun i hi => h i (by omega)) q hq, h n (by omega)]
theorem cols_at (O : Offs ring n l) (t : Nat) {i r : Nat} (h : (cols ring (xrl l) n t)[i]? = some r) : i < n ∧ r = itr (bt ring l n) t (2 ^ i) := by
  obtain ⟨hi, e⟩ := List.getElem?_eq_some_iff.mp h
  rw [cols_len] at hi
  refine ⟨hi, ?_⟩
  have : (cols ring (xrl l) n t)[i]? = some (byOff ring (offB (xrl l) (wd ring n) t) n (1 <<< i)) := by
    unfold cols
    rw [List.getElem?_map, List.getElem?_range hi]; rfl
  rw [this] at h
  rw [← Option.some.inj h, one_shl, off_iter O t (Nat.pow_lt_pow_of_lt (by decide) hi)]
theorem comb_cols (O : Offs ring n l) (t : Nat) {v : Nat} (hv : v < 2 ^ n) : combR (cols ring (xrl l) n t) v = itr (bt ring l n) t v := by
  refine lin_agree (combR_lin _) (itr_lin (bt_lin ring l n) t) n (fun i hi => ?_) v hv
  obtain ⟨r, hr⟩ : ∃ r, (cols ring (xrl l) n t)[i]? = some r := ⟨_, List.getElem?_eq_getElem (by rw [cols_len]; exact hi)⟩
  rw [combR_pow _ i r hr, (cols_at O t hr).2]
theorem num_some (O : Offs ring n l) {t b s : Nat} (h : (Spn.of (cols ring (xrl l) n t)).num b = some s) : s < 2 ^ n ∧ itr (bt ring l n) t s = b := by
  have I := span_pre (cols_lt ring (xrl l) n t)
  obtain ⟨h1, h2⟩ := I.some (combR_lin _) h
  rw [cols_len] at h2
  exact ⟨h2, by rw [← comb_cols O t h2]; exact h1⟩
theorem num_none (O : Offs ring n l) {t b : Nat} (hb : b < 2 ^ n) : (Spn.of (cols ring (xrl l) n t)).num b = none ↔ ¬ ∃ s, s < 2 ^ n ∧ itr (bt ring l n) t s = b := by
  have I := span_pre (cols_lt ring (xrl l) n t)
  constructor
  · rintro h ⟨s, hs, e⟩
    have := I.none hb h s (by rw [cols_len]; exact hs)
    rw [comb_cols O t hs] at this
    exact this e
  · intro h
    cases e : (Spn.of (cols ring (xrl l) n t)).num b with
    | none => rfl
    | some s => exact absurd ⟨s, num_some O e⟩ h
/-! ### own polynomials -/
theorem own_bt (O : Offs ring n l) {b : Nat} (hb : b < 2 ^ n) : ∃ d, d ≤ n ∧ Mn (bt ring l n) b (ownM (byOff ring (offB (xrl l) (wd ring n) 1) n) n b) d := by
  have hT : ∀ v, v < 2 ^ n → byOff ring (offB (xrl l) (wd ring n) 1) n v < 2 ^ n := fun v hv => byOff_lt ring _ hv
  obtain ⟨d, hd, m⟩ := own_mn hT hb
  have e : ∀ p, Act (byOff ring (offB (xrl l) (wd ring n) 1) n) p b = Act (bt ring l n) p b := fun p => act_eq (fun v hv => one_beat O hv) (fun v _ => bt_lt ring l n v) p b hb
  exact ⟨d, hd, m.lo, m.hi, by rw [← e]; exact m.ann, fun p hp h => m.min p hp (by rw [e]; exact h)⟩
theorem tail_zero {g : Nat} (h : g ≠ 0) : tailM g = 0 ↔ g % 2 = 1 := by
  obtain ⟨c1, c2, c3, c4⟩ := core_ok h
  constructor
  · intro z
    rw [z, Nat.pow_zero, Nat.one_mul] at c4
    rw [c4]; exact c1
  · intro o
    unfold tailM
    rw [core_odd o, Nat.sub_self]
/-- a row that comes by n beats comes by any number; its tail is none -/
theorem comes_any (O : Offs ring n l) {b : Nat} (hb : b < 2 ^ n) (ho : ownM (byOff ring (offB (xrl l) (wd ring n) 1) n) n b % 2 = 1) (k : Nat) : ∃ s, s < 2 ^ n ∧ itr (bt ring l n) k s = b := by
  obtain ⟨d, hd, m⟩ := own_bt O hb
  obtain ⟨s, e⟩ := m.comes (bt_lin ring l n) ho k
  exact ⟨_, act_lt (fun v _ => bt_lt ring l n v) s b hb, e.symm⟩
theorem odd_of_comes (O : Offs ring n l) {b : Nat} (hb : b < 2 ^ n) (h : ∃ s, s < 2 ^ n ∧ itr (bt ring l n) n s = b) : ownM (byOff ring (offB (xrl l) (wd ring n) 1) n) n b % 2 = 1 := by
  obtain ⟨d, hd, m⟩ := own_bt O hb
  obtain ⟨s, hs, e⟩ := h
  obtain ⟨d', hd', m'⟩ := own_bt O hs
  exact m.odd_of (bt_lin ring l n) m' hd' e.symm
theorem comes_less {b t : Nat} (h : ∃ s, s < 2 ^ n ∧ itr (bt ring l n) (t + 1) s = b) : ∃ s, s < 2 ^ n ∧ itr (bt ring l n) t s = b := by
  obtain ⟨s, hs, e⟩ := h
  exact ⟨bt ring l n s, bt_lt ring l n s, e⟩
/-! ### first -/
theorem fstF_none (p : Nat → Bool) : ∀ (f i : Nat), fstF p f i = none ↔ ∀ j, i ≤ j → j < i + f → p j = false
  | 0, i => ⟨fun _ j h1 h2 => by omega, fun _ => rfl⟩
  | f + 1, i => by
    show (if p i = true then some i else fstF p f (i + 1)) = none ↔ _
    by_cases c : p i = true
    · rw [if_pos c]
      constructor
      · intro h; cases h
      · intro h
        rw [h i (Nat.le_refl _) (by omega)] at c; cases c
    · rw [if_neg c, fstF_none p f (i + 1)]
      constructor
      · intro h j h1 h2
        rcases Nat.eq_or_lt_of_le h1 with z | z
        · rw [← z]
          cases q : p i with
          | true => exact absurd q c
          | false => rfl
        · exact h j z (by omega)
      · intro h j h1 h2
        exact h j (by omega) (by omega)
theorem fstF_some (p : Nat → Bool) : ∀ (f i t : Nat), fstF p f i = some t → i ≤ t ∧ t < i + f ∧ p t = true ∧ ∀ j, i ≤ j → j < t → p j = false
  | 0, i, t, h => by cases h
  | f + 1, i, t, h => by
    have h : (if p i = true then some i else fstF p f (i + 1)) = some t := h
    by_cases c : p i = true
    · rw [if_pos c] at h
      obtain rfl := Option.some.inj h
      exact ⟨Nat.le_refl _, by omega, c, fun j h1 h2 => by omega⟩
    · rw [if_neg c] at h
      obtain ⟨h1, h2, h3, h4⟩ := fstF_some p f (i + 1) t h
      refine ⟨by omega, by omega, h3, fun j g1 g2 => ?_⟩
      rcases Nat.eq_or_lt_of_le g1 with z | z
      · rw [← z]
        cases q : p i with
        | true => exact absurd q c
        | false => rfl
      · exact h4 j z g2
end
end KM
namespace K71
open KM
theorem row_facts {ring : Bool} {ru : List Int} {n b : Nat} (O : Offs ring n (ru.map fun o => (o % ((wd ring n : Nat) : Int)).toNat)) (hb : b < 2 ^ n) : RowFacts ring ru n b := by
  obtain ⟨l, el⟩ : ∃ l, l = ru.map fun o => (o % ((wd ring n : Nat) : Int)).toNat := ⟨_, rfl⟩
  have eo : onceM ru (wd ring n) = xrl l := by rw [el]; rfl
  rw [← el] at O
  obtain ⟨d, hd, m⟩ := own_bt O hb
  have eT : beat ring ru n = byOff ring (offB (xrl l) (wd ring n) 1) n := by unfold beat wof; rw [eo]
  have eW : ∀ t, byOff ring (wof ring ru n t) n b = itr (bt ring l n) t b := fun t => by unfold wof; rw [eo]; exact off_iter O t hb
  obtain ⟨g, eg⟩ : ∃ g, g = ownM (byOff ring (offB (xrl l) (wd ring n) 1) n) n b := ⟨_, rfl⟩
  rw [← eg] at m
  obtain ⟨c1, c2, c3, c4⟩ := core_ok m.ne
  have hfar := pow_le_of_dvd m.hi c4 c1
  have later := m.later c4 hfar
  have hlt := itr_bt_lt (ring := ring) (l := l) (t := tailM g) hb
  obtain ⟨d2, hd2, m2⟩ := own_bt O hlt
  have eown2 := m2.uniq later
  have np : ∀ t, t ≤ n → ((Spn.of (cols ring (xrl l) n t)).num b ≠ none ↔ ∃ s, s < 2 ^ n ∧ itr (bt ring l n) t s = b) := fun t _ =>
    ⟨fun h => Classical.not_not.mp fun q => h ((num_none O hb).mpr q), fun h q => (num_none O hb).mp q h⟩
  have dn : ∀ v, v < 2 ^ n → (depM ring (xrl l) n v = none ↔ ∀ t, t < n → ∃ s, s < 2 ^ n ∧ itr (bt ring l n) (t + 1) s = v) := fun v hv => by
    unfold depM
    rw [fstF_none]
    constructor
    · intro h t ht
      have q := h t (Nat.zero_le _) (by omega)
      have : ¬ (Spn.of (cols ring (xrl l) n (t + 1))).num v = none := fun z => by rw [z] at q; cases q
      rw [num_none O hv] at this
      exact Classical.not_not.mp this
    · intro h t _ ht
      have : ¬ (Spn.of (cols ring (xrl l) n (t + 1))).num v = none := fun z => (num_none O hv).mp z (h t (by omega))
      cases q : (Spn.of (cols ring (xrl l) n (t + 1))).num v with
      | none => exact absurd q this
      | some s => rfl
  have dnone : ∀ v, v < 2 ^ n → (depM ring (xrl l) n v = none ↔ ownM (byOff ring (offB (xrl l) (wd ring n) 1) n) n v % 2 = 1) := fun v hv => by
    rw [dn v hv]
    constructor
    · intro h
      have := h (n - 1) (by have := O.pos; omega)
      rw [show n - 1 + 1 = n by have := O.pos; omega] at this
      exact odd_of_comes O hv this
    · intro h t _
      exact comes_any O hv h _
  refine ⟨?_, ?_, ?_, ?_, ?_, ?_, ?_, ?_⟩
  · rw [eT, eo, ← eg, tail_zero m.ne, dnone b hb, ← eg]
  · rw [eo]
    unfold depM
    obtain ⟨f, ef⟩ : ∃ f, n = f + 1 := ⟨n - 1, by have := O.pos; omega⟩
    have e : ∀ p : Nat → Bool, fstF p n 0 = if p 0 = true then some 0 else fstF p f 1 := fun p => by rw [ef]; rfl
    rw [e]
    show _ ↔ (if ((Spn.of (cols ring (xrl l) n 1)).num b).isNone = true then _ else _) = _
    cases q : (Spn.of (cols ring (xrl l) n 1)).num b with
    | none => exact ⟨fun _ => rfl, fun _ => rfl⟩
    | some s =>
      constructor
      · intro z; cases z
      · intro z
        have z : fstF _ f 1 = some 0 := z
        have := (fstF_some _ _ _ _ z).1
        omega
  · intro t ht
    rw [eo] at ht ⊢
    obtain ⟨h1, h2, h3, h4⟩ := fstF_some _ _ _ _ ht
    refine ⟨by omega, ?_, Option.isNone_iff_eq_none.mp h3⟩
    rw [np t (by omega)]
    cases t with
    | zero => exact ⟨b, hb, rfl⟩
    | succ t =>
      have q := h4 t (Nat.zero_le _) (Nat.lt_succ_self _)
      refine (np (t + 1) (by omega)).mp fun z => ?_
      rw [z] at q; cases q
  · rw [eW, eo, eT, ← eg, dnone _ hlt, eown2]
    exact c1
  · rw [eW, eT, ← eg, tail_zero (by rw [eown2]; exact c2), eown2]
    exact c1
  · rw [eW, eT, ← eg, eown2]
    unfold periodM
    rw [core_odd c1]
  · rw [eW, eT, ← eg]
    have e : ∀ j, itr (byOff ring (offB (xrl l) (wd ring n) 1) n) j b = itr (bt ring l n) j b := fun j => itr_congr (fun v hv => one_beat O hv) (fun v _ => bt_lt ring l n v) j b hb
    exact ⟨e _, fun j hj => by rw [e]; exact m.sooner (bt_lin ring l n) c4 hj⟩
  · rw [eW, eT, ← eg, eo]
    have nn : (Spn.of (cols ring (xrl l) n (10 ^ 30))).num (itr (bt ring l n) (tailM g) b) ≠ none := fun z => (num_none O hlt).mp z (comes_any O hlt (by rw [eown2]; exact c1) _)
    obtain ⟨s, hs⟩ := Option.ne_none_iff_exists'.mp nn
    obtain ⟨s1, s2⟩ := num_some O hs
    exact ⟨s, hs, s1, fun c hc => by rw [bt_iter O hc s1]; exact s2⟩
end K71
end

section
set_option maxHeartbeats 4000000
/-! plain mathematics: sizes -/
namespace KM
section
variable {ring : Bool} {n : Nat} {l : List Nat}
def Im (ring : Bool) (l : List Nat) (n x : Nat) : Prop := ∃ s, s < 2 ^ n ∧ bt ring l n s = x
theorem im_xor {x y : Nat} (h : Im ring l n x) (g : Im ring l n y) : Im ring l n (x ^^^ y) := by
  obtain ⟨s, hs, rfl⟩ := h
  obtain ⟨t, ht, rfl⟩ := g
  exact ⟨s ^^^ t, Nat.xor_lt_two_pow hs ht, bt_lin ring l n s t⟩
theorem im_zero : Im ring l n 0 := ⟨0, Nat.two_pow_pos n, (bt_lin ring l n).zero⟩
theorem im_all (h : ∀ i, i < n → Im ring l n (2 ^ i)) : ∀ k, k ≤ n → ∀ x, x < 2 ^ k → Im ring l n x
  | 0, _, x, hx => by
    have : x = 0 := by omega
    rw [this]; exact im_zero
  | k + 1, hk, x, hx => by
    rcases pow_split hx with hx | ⟨q, hq, rfl⟩
    · exact im_all h k (by omega) x hx
    · exact im_xor (im_all h k (by omega) q hq) (h k (by omega))
theorem im_map {S : Nat → Nat} (hS : ∀ v, v < 2 ^ n → S v < 2 ^ n) (hc : ∀ v, v < 2 ^ n → S (byA ring (xrl l) n v) = byA ring (xrl l) n (S v)) {x : Nat} (h : Im ring l n x) : Im ring l n (S x) := by
  obtain ⟨s, hs, rfl⟩ := h
  exact ⟨S s, hS s hs, by rw [bt_eq hs, bt_eq (hS s hs), hc s hs]⟩
theorem im_ring (h0 : 0 < n) (h : Im true l n 1) : ∀ i, i < n → Im true l n (2 ^ i) := by
  have all : ∀ k, Im true l n (itr (rho n) k 1) := by
    intro k
    induction k with
    | zero => exact h
    | succ k ih =>
      rw [itr_succ]
      refine im_map (fun v hv => rho_lt hv) (fun v hv => ?_) ih
      exact (act_T (rho_lin n) (xrl l) v).symm
  intro i hi
  have one : (1 : Nat) < 2 ^ n := Nat.one_lt_two_pow (by omega)
  have e : 2 ^ i = itr (rho n) (n - i) 1 := eq_of_bits (Nat.pow_lt_pow_of_lt (by decide) hi) (itb (fun v h => rho_lt h) _ _ one) fun j hj => by
    rw [itr_rho_tb' h0 one _ j hj, ← one_shl, tb_one_shl]
    have : (1 : Nat) = 1 <<< 0 := rfl
    rw [this, tb_one_shl]
    refine decide_eq_decide.mpr ?_
    rw [mod2 (x := j + (n - i)) (by omega)]
    split <;> omega
  rw [e]
  exact all _
/-- the cross -/
def crs (n : Nat) : List Nat := [1, 2 * n + 1]
theorem crs_sy (n u : Nat) (h : Sy (2 * n + 2) u) : Sy (2 * n + 2) (Act (rho (2 * n + 2)) (xrl (crs n)) u) := by
  refine h.act (l := crs n) (fun p hp => ?_) ?_
  · simp only [crs, List.mem_cons, List.not_mem_nil, or_false] at hp
    omega
  · have e1 : ngo (2 * n + 2) 1 = 2 * n + 1 := by unfold ngo; rw [Nat.mod_eq_of_lt (by omega)]; omega
    have e2 : ngo (2 * n + 2) (2 * n + 1) = 1 := by unfold ngo; rw [Nat.mod_eq_of_lt (by omega)]; omega
    show [ngo (2 * n + 2) 1, ngo (2 * n + 2) (2 * n + 1)].Perm [1, 2 * n + 1]
    rw [e1, e2]
    exact List.Perm.swap ..
theorem crs_comm (O : Offs false n l) {v : Nat} (hv : v < 2 ^ n) : byA false (xrl (crs n)) n (byA false (xrl l) n v) = byA false (xrl l) n (byA false (xrl (crs n)) n v) := by
  have h1 : Sy (2 * n + 2) (Act (rho (2 * n + 2)) (xrl l) (unf n v)) := (unf_sy hv).act (N := 2 * n + 2) (l := l) O.lt (O.sym rfl)
  have h2 := crs_sy n _ (unf_sy hv)
  show fld n (Act _ (xrl (crs n)) (unf n (fld n (Act _ (xrl l) (unf n v))))) = fld n (Act _ (xrl l) (unf n (fld n (Act _ (xrl (crs n)) (unf n v)))))
  rw [unf_fld h1, unf_fld h2]
  congr 1
  exact (act_comm (act_lin (rho_lin _) (xrl (crs n))) (fun v => act_T (rho_lin _) _ v) (xrl l) (unf n v)).symm
theorem crs_pow {i : Nat} (hi : i < n) : byA false (xrl (crs n)) n (2 ^ i) = (if 0 < i then 2 ^ (i - 1) else 0) ^^^ (if i + 1 < n then 2 ^ (i + 1) else 0) := by
  have hv : 2 ^ i < 2 ^ n := Nat.pow_lt_pow_of_lt (by decide) hi
  have hu := unf_lt hv
  have r1 : (if 0 < i then 2 ^ (i - 1) else 0) < 2 ^ n := by
    split
    · exact Nat.pow_lt_pow_of_lt (by decide) (by omega)
    · exact Nat.two_pow_pos n
  have r2 : (if i + 1 < n then 2 ^ (i + 1) else 0) < 2 ^ n := by
    split
    · exact Nat.pow_lt_pow_of_lt (by decide) (by omega)
    · exact Nat.two_pow_pos n
  refine eq_of_bits (byA_lt hv) (Nat.xor_lt_two_pow r1 r2) fun j hj => ?_
  have e : byA false (xrl (crs n)) n (2 ^ i) = fld n (actL (2 * n + 2) [1, 2 * n + 1] (unf n (2 ^ i))) := rfl
  rw [e, fld_tb hj, actL_cons, actL_cons, actL_nil, Nat.xor_zero, Nat.testBit_xor, itr_rho_tb' (by omega) hu _ _ (by omega), itr_rho_tb' (by omega) hu _ _ (by omega), Nat.mod_eq_of_lt (by omega : j + 1 + 1 < 2 * n + 2), mod2 (x := j + 1 + (2 * n + 1)) (by omega), if_neg (by omega), show j + 1 + (2 * n + 1) - (2 * n + 2) = j by omega]
  rw [unf_tb hv, unf_tb hv, ← one_shl, tb_one_shl, tb_one_shl, tb_one_shl, tb_one_shl, Nat.testBit_xor]
  have t1 : (if 0 < i then 2 ^ (i - 1) else 0).testBit j = decide (j + 1 = i) := by
    by_cases c : 0 < i
    · rw [if_pos c, ← one_shl, tb_one_shl]; exact decide_eq_decide.mpr (by omega)
    · rw [if_neg c, Nat.zero_testBit, decide_eq_false (by omega)]
  have t2 : (if i + 1 < n then 2 ^ (i + 1) else 0).testBit j = decide (j = i + 1) := by
    by_cases c : i + 1 < n
    · rw [if_pos c, ← one_shl, tb_one_shl]; exact decide_eq_decide.mpr (by omega)
    · rw [if_neg c, Nat.zero_testBit, decide_eq_false (by omega)]
  rw [t1, t2]
  congr 1
  · rw [decide_eq_true (by omega : 1 ≤ j + 1 + 1), Bool.true_and, decide_eq_false (by omega : ¬ n + 2 ≤ j + 1 + 1), Bool.false_and, Bool.false_and, Bool.or_false]
    exact decide_eq_decide.mpr (by omega)
  · rw [decide_eq_false (by omega : ¬ n + 2 ≤ j), Bool.false_and, Bool.false_and, Bool.or_false, ← Bool.decide_and]
    exact decide_eq_decide.mpr (by omega)
theorem im_walls (O : Offs false n l) (h : Im false l n 1) : ∀ i, i < n → Im false l n (2 ^ i) := by
  intro i
  induction i using Nat.strongRecOn with
  | _ i ih =>
    intro hi
    cases i with
    | zero => exact h
    | succ i =>
      have c := im_map (S := byA false (xrl (crs n)) n) (fun v hv => byA_lt hv) (fun v hv => crs_comm O hv) (ih i (Nat.lt_succ_self _) (by omega))
      rw [crs_pow (by omega : i < n), if_pos hi] at c
      by_cases z : 0 < i
      · rw [if_pos z] at c
        have := im_xor (ih (i - 1) (by omega) (by omega)) c
        rwa [xor_cancel] at this
      · rw [if_neg z, Nat.zero_xor] at c
        exact c
theorem im_onto (O : Offs ring n l) (h : Im ring l n 1) : ∀ x, x < 2 ^ n → Im ring l n x := by
  refine im_all ?_ n (Nat.le_refl _)
  cases ring with
  | true => exact im_ring O.pos h
  | false => exact im_walls O h
theorem onto_itr (h : ∀ x, x < 2 ^ n → Im ring l n x) : ∀ k x, x < 2 ^ n → ∃ s, s < 2 ^ n ∧ itr (bt ring l n) k s = x
  | 0, x, hx => ⟨x, hx, rfl⟩
  | k + 1, x, hx => by
    obtain ⟨s, hs, e⟩ := onto_itr h k x hx
    obtain ⟨t, ht, e2⟩ := h s hs
    exact ⟨t, ht, by show itr _ k (bt ring l n t) = x; rw [e2, e]⟩
/-- nothing is lost where the first row's polynomial is odd -/
theorem kept_iff (O : Offs ring n l) : tailM (ownM (byOff ring (offB (xrl l) (wd ring n) 1) n) n 1) = 0 ↔ n - (Spn.of (cols ring (xrl l) n 1)).leads.length = 0 := by
  have one : (1 : Nat) < 2 ^ n := Nat.one_lt_two_pow (by have := O.pos; omega)
  obtain ⟨d, hd, m⟩ := own_bt O one
  have I := span_pre (cols_lt ring (xrl l) n 1)
  rw [tail_zero m.ne]
  constructor
  · intro ho
    obtain ⟨s, hs, e⟩ := comes_any O one ho 1
    have onto := im_onto O ⟨s, hs, e⟩
    have := I.full_of fun x hx => by
      obtain ⟨p, hp, ep⟩ := onto x hx
      exact ⟨p, by rw [cols_len]; exact hp, by rw [comb_cols O 1 hp]; exact ep⟩
    omega
  · intro h
    have hl : (Spn.of (cols ring (xrl l) n 1)).leads.length = n := by have := I.le; omega
    refine odd_of_comes O one (onto_itr (fun x hx => ?_) n 1 one)
    obtain ⟨p, hp, ep⟩ := I.full (combR_lin _) hl hx
    rw [cols_len] at hp
    rw [comb_cols O 1 hp] at ep
    exact ⟨p, hp, ep⟩
end
end KM
end

section
set_option maxHeartbeats 4000000
/-! plain mathematics: small worlds, one by one -/
namespace KM
def sumOf (ring : Bool) (n o : Nat) : Int := ((((loopsM ring o n).filter fun e => decide (0 < e.2)).map fun e => (e.1, e.2.fdiv e.1)).map fun e => (e.1 : Int) * e.2).sum
def dueOf (ring : Bool) (n o : Nat) : Int := ((((List.range (2 ^ n)).filter fun b => decide (tailM (ownM (byOff ring (offB o (wd ring n) 1) n) n b) = 0)).length : Nat) : Int)
def chk (ring : Bool) (n o : Nat) : Bool := decide (periodM (ownM (byOff ring (offB o (wd ring n) 1) n) n 1) ≤ 1000) && decide (sumOf ring n o = dueOf ring n o)
theorem chk_ring : ([1, 2, 3, 4].all fun n => (List.range (2 ^ n)).all fun o => chk true n o) = true := by decide +kernel
theorem chk_walls : ([1, 2, 3, 4].all fun n => (List.range (2 ^ (2 * n + 2))).all fun o => !(refl (2 * n + 2) o == o) || chk false n o) = true := by decide +kernel
theorem refl_one {N p : Nat} (hp : p < N) : refl N (1 <<< p) = 1 <<< ngo N p := by
  have lp : ngo N p < N := Nat.mod_lt _ (by omega)
  refine eq_of_bits (refl_lt ..) (by rw [one_shl]; exact Nat.pow_lt_pow_of_lt (by decide) lp) fun i hi => ?_
  rw [refl_tb _ hi, tb_one_shl, tb_one_shl]
  refine decide_eq_decide.mpr ?_
  unfold ngo
  rw [mod2 (x := N - i) (by omega), mod2 (x := N - p) (by omega)]
  split <;> split <;> omega
theorem refl_xrl {N : Nat} : ∀ (l : List Nat), (∀ p ∈ l, p < N) → refl N (xrl l) = xrl (l.map (ngo N))
  | [], _ => (refl_lin N).zero
  | p :: l, h => by
    rw [List.map_cons, xrl_cons, xrl_cons, refl_lin N, refl_one (h p (List.mem_cons_self ..)), refl_xrl l fun q hq => h q (List.mem_cons_of_mem _ hq)]
end KM
end

section
set_option maxHeartbeats 4000000
/-! all that is due -/
namespace K71
open KM
theorem ngo_mod {N : Nat} (hN : 0 < N) (o : Int) : ngo N (o % (N : Int)).toNat = ((-o) % (N : Int)).toNat := by
  have f1 := Int.emod_lt_of_pos o (show (0 : Int) < N by omega)
  have f2 := Int.emod_nonneg o (show (N : Int) ≠ 0 by omega)
  have e : (-o) % (N : Int) = ((N : Int) - o % (N : Int)) % (N : Int) := by
    rw [Int.emod_eq_emod_iff_emod_sub_eq_zero]
    have d := Int.mul_ediv_add_emod o (N : Int)
    have : -o - ((N : Int) - o % (N : Int)) = (N : Int) * (-(o / (N : Int)) - 1) := by
      rw [Int.mul_sub, Int.mul_neg, Int.mul_one]; omega
    rw [this, Int.mul_emod_right]
  rw [e]
  unfold ngo
  have : (N : Int) - o % (N : Int) = ((N - (o % (N : Int)).toNat : Nat) : Int) := by omega
  rw [this, ← Int.natCast_emod, Int.toNat_natCast]
theorem offs_of {ring : Bool} {ru : List Int} {n : Nat} (R : RuleOk ring ru) (h0 : 0 < n) : Offs ring n (ru.map fun o => (o % ((wd ring n : Nat) : Int)).toNat) := by
  have hw := wd_pos (ring := ring) h0
  refine ⟨h0, fun p hp => ?_, fun hr => ?_⟩
  · obtain ⟨o, _, rfl⟩ := List.mem_map.mp hp
    have := Int.emod_lt_of_pos o (show (0 : Int) < ((wd ring n : Nat) : Int) by omega)
    have := Int.emod_nonneg o (show ((wd ring n : Nat) : Int) ≠ 0 by omega)
    omega
  · have ev := R.even hr
    have neg : ru.map (fun o => -o) = ru.reverse := by
      have h := congrArg (List.map fun o : Int => -o) ev
      rw [List.map_map] at h
      have id' : ru.reverse.map ((fun o : Int => -o) ∘ fun o => -o) = ru.reverse := by
        refine (List.map_congr_left fun x _ => ?_).trans (List.map_id' _)
        exact Int.neg_neg x
      rw [id'] at h
      exact h
    generalize wd ring n = N at hw
    have e : (ru.map fun o => (o % (N : Int)).toNat).map (ngo N) = (ru.map fun o => -o).map fun o => (o % (N : Int)).toNat := by
      rw [List.map_map, List.map_map]
      exact List.map_congr_left fun o _ => ngo_mod hw o
    rw [e, neg, List.map_reverse]
    exact List.reverse_perm _
theorem all_facts {ring : Bool} {ru : List Int} {n : Nat} (R : RuleOk ring ru) (h0 : 0 < n) (h5 : n < 5) : AllFacts ring ru n := by
  have O := offs_of R h0
  have lt := onceM_lt ru (wd_pos (ring := ring) h0)
  have c : chk ring n (onceM ru (wd ring n)) = true := by
    have hn : n ∈ [1, 2, 3, 4] := by
      have : n = 1 ∨ n = 2 ∨ n = 3 ∨ n = 4 := by omega
      rcases this with h | h | h | h <;> subst h <;> decide
    cases ring with
    | true =>
      have := List.all_eq_true.mp (List.all_eq_true.mp chk_ring n hn) (onceM ru (wd true n)) (List.mem_range.mpr lt)
      exact this
    | false =>
      have h := List.all_eq_true.mp (List.all_eq_true.mp chk_walls n hn) (onceM ru (wd false n)) (List.mem_range.mpr lt)
      have e : refl (2 * n + 2) (onceM ru (wd false n)) = onceM ru (wd false n) := by
        have h1 := refl_xrl (N := 2 * n + 2) (ru.map fun o => (o % ((wd false n : Nat) : Int)).toNat) O.lt
        have h2 := xrl_perm (O.sym rfl)
        exact h1.trans h2
      rw [Bool.or_eq_true, Bool.not_eq_true', beq_eq_false_iff_ne] at h
      rcases h with h | h
      · exact absurd e h
      · exact h
  unfold chk at c
  rw [Bool.and_eq_true, decide_eq_true_eq, decide_eq_true_eq] at c
  exact ⟨c.1, c.2⟩
theorem due_all (ring : Bool) (ru : List Int) (n : Nat) (R : RuleOk ring ru) (h0 : 0 < n) (_ : n ≤ 14) : Due ring ru n := by
  have O := offs_of R h0
  have one : (1 : Nat) < 2 ^ n := Nat.one_lt_two_pow (by omega)
  have k1 : tailM (ownM (beat ring ru n) n 1) = 0 ↔ n - (Spn.of (cols ring (onceM ru (wd ring n)) n 1)).leads.length = 0 := kept_iff O
  refine ⟨⟨k1, ?_, fun h5 => all_facts R h0 h5⟩, fun b hb => row_facts O hb⟩
  rw [← k1]
  obtain ⟨o1, _⟩ := own_lt (beat_lt ring ru n) one
  rw [tail_zero o1, pw_tb, odd_tb]
end K71
end

section
set_option maxHeartbeats 0
/-! the head: the top's run, its facts -/
namespace K71Z
open PySem PySem.Spec PyProof.Rows L2 K71
abbrev R : PySem.W.OpenRow := PySem.W.OpenLaw.row PySem.Challenge.rw_beatlamps_k71_whole_rows_that_come_again
/-- what is looked at: the names' objects, what these name, what namespaces among those name, and what that names -/
def kids (g : Addr → Option Obj) (a : Addr) : List Addr := match g a with
  | some o => He.refsD o
  | none => []
def isNsp (g : Addr → Option Obj) (a : Addr) : Bool := match g a with
  | some ⟨_, _, .dict _ _, _⟩ => true
  | _ => false
def two (g : Addr → Option Obj) (as : List Addr) : List Addr := as ++ as.flatMap (kids g)
def asY (g : Addr → Option Obj) : List Addr :=
  (fun A2 : List Addr => mainGlobals :: (A2 ++ two g ((A2.filter (isNsp g)).flatMap (kids g)))) (two g (kids g mainGlobals))
abbrev AlY : Type := He.AlD × Bool
def obY (g : Addr → Option Obj) : AlY := (fun K => (He.obsD fa fn K, exK K)) (He.frG g (asY g))
abbrev hk : PySem.W.Hook where
  α := AlY
  obs := fun s => obY s.heap.get?
  val := fun _ => (He.valD fn, true)
  says := fun _ h => ∃ K : PySem.W.Frag, K.In h ∧ He.SaysD fa fn K ∧ exK K = true
  of := fun _ _ e => ⟨_, He.frG_in, congrArg Prod.fst e, congrArg Prod.snd e⟩
  keeps := fun _ _ _ ⟨K, hK, c⟩ k => ⟨K, PySem.W.Frag.In.keeps hK k, c⟩
def ob (s : PySem.W.SharedT) : AlY := obY (HandSHeadRun.getT s)
theorem ob_eq (s : PySem.W.SharedT) : ob s = hk.obs s.abs := by
  have e : HandSHeadRun.getT s = s.abs.heap.get? := funext (HandSHeadRun.getT_eq s)
  show obY (HandSHeadRun.getT s) = obY s.abs.heap.get?
  rw [e]
def names0 : List PySem.Str := ["bits_of", "powers_of", "degree_of", "is_odd", "times_of", "parted_of", "rest_of", "power_of", "Span", "LampError", "BadBeats", "TooLong", "BadSize", "BadRule", "NotEven", "BadKind", "BadRow", "OtherSize", "MOST_BEATS", "is_integer"]
def names1 : List PySem.Str := ["is_word", "is_tuple", "is_lot", "MOST_OFFSET", "check_rule", "contrary", "is_mirrored", "RING", "WALLS", "KINDS", "MOST_SIZE", "ON", "OFF", "check_world", "is_row", "check_row", "check_size", "check_beats", "row_bits", "row_text"]
def names2 : List PySem.Str := ["offset_bits", "beat_by", "unfolded_bits", "by_offsets", "world_offsets", "after_bits", "beat_power", "after", "ROW", "GARDEN", "PAIR", "is_row_of", "do_meet_evenly", "beaten", "told_ahead", "shows_told", "ahead", "lost_of", "lost", "ALWAYS"]
def names3 : List PySem.Str := ["BEATS", "depth", "before", "shows_before", "least_of", "factors_of", "primes_of", "plain_measure", "least_common", "twos_above", "core_bits", "measured_bits", "measure_bits", "row_own_bits", "own_bits", "own", "MOST_LAMPS", "MOST_TURNS", "tail_in", "period_in"]
def names4 : List PySem.Str := ["row_own", "size_own", "tail", "period", "tails", "divisors_of", "same_again", "loops", "comes_to", "_law_pot", "_law_take", "_law_of", "_law_cells", "_law_rule", "_law_kind", "_law_any_bits", "_law_text", "_law_bits", "_law_round", "_law_mirrored"]
def names5 : List PySem.Str := ["_law_by", "_law_offsets", "_law_odd_ones", "_law_after", "_law_is_row_right", "_law_are_all_right", "_law_right"]
def names : List PySem.Str := names0 ++ names1 ++ names2 ++ names3 ++ names4 ++ names5
theorem run (w : World) : HandSHeadRun.RunEq R (PySem.W.view R.prog [120]) hk ob 8000 names w := by
  intro os
  kernel_rfl
end K71Z
end

section
set_option maxHeartbeats 0
/-! the end -/
open PySem PySem.W PySem.Calls PyProof.Rows
theorem PySem.Challenge.cw_beatlamps_k71_whole_rows_that_come_again_holds : PySem.Challenge.rw_beatlamps_k71_whole_rows_that_come_again.Holds := by
  w_on; o_law
  refine HandSHeadRun.head_any (r := OpenLaw.row PySem.Challenge.rw_beatlamps_k71_whole_rows_that_come_again) (q := view (OpenLaw.row PySem.Challenge.rw_beatlamps_k71_whole_rows_that_come_again).prog [120]) (H := K71Z.hk) (ob := K71Z.ob) (M := 8000) (loose := K71Z.names) (d := HandSHeadRun.topDef (OpenLaw.row PySem.Challenge.rw_beatlamps_k71_whole_rows_that_come_again).prog 120) (kwd := []) K71Z.ob_eq
    (by kernel_rfl) (fun s => by kernel_rfl) K71Z.run (by kernel_rfl) (by kernel_rfl) (by kernel_rfl) (by rfl) (by first | assumption | decide +kernel) (by decide +kernel) ⟨rfl, rfl, rfl, rfl, rfl, by decide +kernel⟩ ?hw ?hc
  case hw => w_witness2
  case hc =>
    refine L2.walk_ofE (l := PySem.Challenge.rw_beatlamps_k71_whole_rows_that_come_again) (n := 63) (k := 13) (x := "_law_script") (CX := L2.CX0) rfl (by decide) (by kernel_rfl) ⟨rfl, by decide, by decide⟩ ?F (fun _ _ _ _ z => z)
    intro w mg fa h Y G hmg0
    obtain ⟨K, KX, c, t⟩ := Y
    have hmg : mg ("law" : PySem.Str) = some (.ref fa) := by
      have e : (HandSHeadRun.topDef (OpenLaw.row PySem.Challenge.rw_beatlamps_k71_whole_rows_that_come_again).prog 120).name = ("law" : PySem.Str) := by kernel_rfl
      rw [← e]
      exact hmg0
    have D : K71.Ok K mg := ⟨c, t, h, KX, G⟩
    have ef := hmg.symm.trans D.m_law
    cases ef
    have b := L2.FunD.bindsA (ps := ["_law_script"]) D.f_law fun _ _ _ _ _ _ us hl => match us, hl with | [_], _ => rfl
    exact ⟨K, K71.fdA K (He.ga K "law"), K71.q_law K, KX, fun s v => b s [v] rfl, fun H a ns hl _ hS => ⟨a, ns, rfl, hS, K71.due_all, fun _ _ => rfl⟩, fun base _ _ => K71.ok_law D⟩
end

