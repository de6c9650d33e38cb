import PyProof.Rows.All
import Wide.All
import OpenK.AllK
import Wide.FinOn
import HandS.ForMost
import HandS.Defaults
import PySem.Challenge.RW_ringindexes_k72_whole_putters_beside_slo
import HandS.Exc
import HandS.IsInst
import HandS.Property
import HandS.MakeKwOnly
import HandS.MakeKw
import HandS.Codes
import HandS.Strs
import HandS.SetFor
import HandS.TupAny
import HandS.HeadHook2
import KE.KExcSuper
import HandS.ExcInit
import HandS.ExcField
import HandS.ExcOwn
import HandS.WordsExc
import KE.KStateDown
import Lean
import HandS.Head0
import HandS.Head1
import HandS.Head2
import HandS.HeadEnd
set_option Elab.async false
set_option linter.all false
set_option maxRecDepth 100000
set_option maxHeartbeats 4000000
/-! The text by places: each def's statement, its names by slot. -/
namespace RI
open PySem PySem.Spec PyProof.Rows L2
def top (i : Nat) : Stmt := PySem.Challenge.pw_ringindexes_k72_whole_putters_beside_slo.main.body.getD i (.Pass ⟨0, 0, 0, 0⟩)
abbrev s_is_whole : Stmt := top 14
abbrev n_is_whole : List Str := ["thing"]
abbrev p_is_whole : List Str := ["thing"]
theorem sc_is_whole : FnScope n_is_whole p_is_whole (defScope s_is_whole) := ⟨rfl, rfl, rfl, by decide +kernel, rfl, by decide +kernel, by decide +kernel⟩
abbrev s_is_between : Stmt := top 15
abbrev n_is_between : List Str := ["thing", "low", "high"]
abbrev p_is_between : List Str := ["thing", "low", "high"]
theorem sc_is_between : FnScope n_is_between p_is_between (defScope s_is_between) := ⟨rfl, rfl, rfl, by decide +kernel, rfl, by decide +kernel, by decide +kernel⟩
abbrev s_is_size : Stmt := top 16
abbrev n_is_size : List Str := ["thing"]
abbrev p_is_size : List Str := ["thing"]
theorem sc_is_size : FnScope n_is_size p_is_size (defScope s_is_size) := ⟨rfl, rfl, rfl, by decide +kernel, rfl, by decide +kernel, by decide +kernel⟩
abbrev s_form_init : Stmt := inClass (top 20) 0
abbrev n_form_init : List Str := ["self", "slope", "base"]
abbrev p_form_init : List Str := ["self", "slope", "base"]
theorem sc_form_init : FnScope n_form_init p_form_init (defScope s_form_init) := ⟨rfl, rfl, rfl, by decide +kernel, rfl, by decide +kernel, by decide +kernel⟩
abbrev s_scheme_init : Stmt := inClass (top 30) 0
abbrev n_scheme_init : List Str := ["self", "wrap", "slot", "empty", "full", "when", "truths"]
abbrev p_scheme_init : List Str := ["self", "wrap", "slot", "empty", "full", "when"]
theorem sc_scheme_init : FnScope n_scheme_init p_scheme_init (defScope s_scheme_init) := ⟨rfl, rfl, rfl, by decide +kernel, rfl, by decide +kernel, by decide +kernel⟩
abbrev s_g_wrap : Stmt := inClass (top 30) 1
abbrev n_g_wrap : List Str := ["self"]
abbrev p_g_wrap : List Str := ["self"]
theorem sc_g_wrap : FnScope n_g_wrap p_g_wrap (defScope s_g_wrap) := ⟨rfl, rfl, rfl, by decide +kernel, rfl, by decide +kernel, by decide +kernel⟩
abbrev s_g_slot : Stmt := inClass (top 30) 3
abbrev n_g_slot : List Str := ["self"]
abbrev p_g_slot : List Str := ["self"]
theorem sc_g_slot : FnScope n_g_slot p_g_slot (defScope s_g_slot) := ⟨rfl, rfl, rfl, by decide +kernel, rfl, by decide +kernel, by decide +kernel⟩
abbrev s_g_empty : Stmt := inClass (top 30) 5
abbrev n_g_empty : List Str := ["self"]
abbrev p_g_empty : List Str := ["self"]
theorem sc_g_empty : FnScope n_g_empty p_g_empty (defScope s_g_empty) := ⟨rfl, rfl, rfl, by decide +kernel, rfl, by decide +kernel, by decide +kernel⟩
abbrev s_g_full : Stmt := inClass (top 30) 7
abbrev n_g_full : List Str := ["self"]
abbrev p_g_full : List Str := ["self"]
theorem sc_g_full : FnScope n_g_full p_g_full (defScope s_g_full) := ⟨rfl, rfl, rfl, by decide +kernel, rfl, by decide +kernel, by decide +kernel⟩
abbrev s_g_when : Stmt := inClass (top 30) 9
abbrev n_g_when : List Str := ["self"]
abbrev p_g_when : List Str := ["self"]
theorem sc_g_when : FnScope n_g_when p_g_when (defScope s_g_when) := ⟨rfl, rfl, rfl, by decide +kernel, rfl, by decide +kernel, by decide +kernel⟩
abbrev s_row_of : Stmt := top 31
abbrev n_row_of : List Str := ["scheme"]
abbrev p_row_of : List Str := ["scheme"]
theorem sc_row_of : FnScope n_row_of p_row_of (defScope s_row_of) := ⟨rfl, rfl, rfl, by decide +kernel, rfl, by decide +kernel, by decide +kernel⟩
abbrev s_copy_of : Stmt := top 32
abbrev n_copy_of : List Str := ["scheme", "wrap", "slot", "empty", "full", "when"]
abbrev p_copy_of : List Str := ["scheme"]
theorem sc_copy_of : FnScope n_copy_of p_copy_of (defScope s_copy_of) := ⟨rfl, rfl, rfl, by decide +kernel, rfl, by decide +kernel, by decide +kernel⟩
abbrev s_is_word : Stmt := top 33
abbrev n_is_word : List Str := ["thing", "words"]
abbrev p_is_word : List Str := ["thing", "words"]
theorem sc_is_word : FnScope n_is_word p_is_word (defScope s_is_word) := ⟨rfl, rfl, rfl, by decide +kernel, rfl, by decide +kernel, by decide +kernel⟩
abbrev s_is_part_form : Stmt := top 34
abbrev n_is_part_form : List Str := ["thing"]
abbrev p_is_part_form : List Str := ["thing"]
theorem sc_is_part_form : FnScope n_is_part_form p_is_part_form (defScope s_is_part_form) := ⟨rfl, rfl, rfl, by decide +kernel, rfl, by decide +kernel, by decide +kernel⟩
abbrev s_is_wrap : Stmt := top 35
abbrev n_is_wrap : List Str := ["thing"]
abbrev p_is_wrap : List Str := ["thing"]
theorem sc_is_wrap : FnScope n_is_wrap p_is_wrap (defScope s_is_wrap) := ⟨rfl, rfl, rfl, by decide +kernel, rfl, by decide +kernel, by decide +kernel⟩
abbrev s_is_slot : Stmt := top 36
abbrev n_is_slot : List Str := ["thing", "wrap"]
abbrev p_is_slot : List Str := ["thing", "wrap"]
theorem sc_is_slot : FnScope n_is_slot p_is_slot (defScope s_is_slot) := ⟨rfl, rfl, rfl, by decide +kernel, rfl, by decide +kernel, by decide +kernel⟩
abbrev s_is_full_rule : Stmt := top 37
abbrev n_is_full_rule : List Str := ["thing"]
abbrev p_is_full_rule : List Str := ["thing"]
theorem sc_is_full_rule : FnScope n_is_full_rule p_is_full_rule (defScope s_is_full_rule) := ⟨rfl, rfl, rfl, by decide +kernel, rfl, by decide +kernel, by decide +kernel⟩
abbrev s_way_of : Stmt := top 43
abbrev n_way_of : List Str := ["scheme", "full"]
abbrev p_way_of : List Str := ["scheme"]
theorem sc_way_of : FnScope n_way_of p_way_of (defScope s_way_of) := ⟨rfl, rfl, rfl, by decide +kernel, rfl, by decide +kernel, by decide +kernel⟩
abbrev s_modulus_at : Stmt := top 45
abbrev n_modulus_at : List Str := ["wrap", "n"]
abbrev p_modulus_at : List Str := ["wrap", "n"]
theorem sc_modulus_at : FnScope n_modulus_at p_modulus_at (defScope s_modulus_at) := ⟨rfl, rfl, rfl, by decide +kernel, rfl, by decide +kernel, by decide +kernel⟩
abbrev s_has_outside : Stmt := top 46
abbrev n_has_outside : List Str := ["rule", "n", "modulus"]
abbrev p_has_outside : List Str := ["rule", "n", "modulus"]
theorem sc_has_outside : FnScope n_has_outside p_has_outside (defScope s_has_outside) := ⟨rfl, rfl, rfl, by decide +kernel, rfl, by decide +kernel, by decide +kernel⟩
abbrev s_mask_gap : Stmt := top 47
abbrev n_mask_gap : List Str := ["n", "modulus", "c", "kept", "free", "other"]
abbrev p_mask_gap : List Str := ["n", "modulus", "c"]
theorem sc_mask_gap : FnScope n_mask_gap p_mask_gap (defScope s_mask_gap) := ⟨rfl, rfl, rfl, by decide +kernel, rfl, by decide +kernel, by decide +kernel⟩
abbrev s_gap_at : Stmt := top 48
abbrev n_gap_at : List Str := ["rule", "n", "modulus", "c"]
abbrev p_gap_at : List Str := ["rule", "n", "modulus", "c"]
theorem sc_gap_at : FnScope n_gap_at p_gap_at (defScope s_gap_at) := ⟨rfl, rfl, rfl, by decide +kernel, rfl, by decide +kernel, by decide +kernel⟩
abbrev s_room_at : Stmt := top 50
abbrev n_room_at : List Str := ["full", "when", "n", "modulus", "limit"]
abbrev p_room_at : List Str := ["full", "when", "n", "modulus"]
theorem sc_room_at : FnScope n_room_at p_room_at (defScope s_room_at) := ⟨rfl, rfl, rfl, by decide +kernel, rfl, by decide +kernel, by decide +kernel⟩
abbrev s_alike_at : Stmt := top 63
abbrev n_alike_at : List Str := ["rule", "n", "modulus", "c"]
abbrev p_alike_at : List Str := ["rule", "n", "modulus"]
theorem sc_alike_at : FnScope n_alike_at p_alike_at (defScope s_alike_at) := ⟨rfl, rfl, rfl, by decide +kernel, rfl, by decide +kernel, by decide +kernel⟩
abbrev s_window_at : Stmt := top 64
abbrev n_window_at : List Str := ["rule", "n", "modulus", "found"]
abbrev p_window_at : List Str := ["rule", "n", "modulus"]
theorem sc_window_at : FnScope n_window_at p_window_at (defScope s_window_at) := ⟨rfl, rfl, rfl, by decide +kernel, rfl, by decide +kernel, by decide +kernel⟩
abbrev s_cause_at : Stmt := top 66
abbrev n_cause_at : List Str := ["scheme", "n", "modulus", "room"]
abbrev p_cause_at : List Str := ["scheme", "n", "modulus"]
theorem sc_cause_at : FnScope n_cause_at p_cause_at (defScope s_cause_at) := ⟨rfl, rfl, rfl, by decide +kernel, rfl, by decide +kernel, by decide +kernel⟩
abbrev s_breaking_run : Stmt := top 67
abbrev n_breaking_run : List Str := ["cause", "rule", "n", "modulus", "c", "gap"]
abbrev p_breaking_run : List Str := ["cause", "rule", "n", "modulus"]
theorem sc_breaking_run : FnScope n_breaking_run p_breaking_run (defScope s_breaking_run) := ⟨rfl, rfl, rfl, by decide +kernel, rfl, by decide +kernel, by decide +kernel⟩
abbrev s_verdict_init : Stmt := inClass (top 68) 0
abbrev n_verdict_init : List Str := ["self", "scheme", "n", "kept", "modulus"]
abbrev p_verdict_init : List Str := ["self", "scheme", "n"]
theorem sc_verdict_init : FnScope n_verdict_init p_verdict_init (defScope s_verdict_init) := ⟨rfl, rfl, rfl, by decide +kernel, rfl, by decide +kernel, by decide +kernel⟩
abbrev s_verdict_bool : Stmt := inClass (top 68) 1
abbrev n_verdict_bool : List Str := ["self"]
abbrev p_verdict_bool : List Str := ["self"]
theorem sc_verdict_bool : FnScope n_verdict_bool p_verdict_bool (defScope s_verdict_bool) := ⟨rfl, rfl, rfl, by decide +kernel, rfl, by decide +kernel, by decide +kernel⟩
abbrev s_g_room : Stmt := inClass (top 68) 3
abbrev n_g_room : List Str := ["self"]
abbrev p_g_room : List Str := ["self"]
theorem sc_g_room : FnScope n_g_room p_g_room (defScope s_g_room) := ⟨rfl, rfl, rfl, by decide +kernel, rfl, by decide +kernel, by decide +kernel⟩
abbrev s_verdict_of : Stmt := top 69
abbrev n_verdict_of : List Str := ["scheme", "n"]
abbrev p_verdict_of : List Str := ["scheme", "n"]
theorem sc_verdict_of : FnScope n_verdict_of p_verdict_of (defScope s_verdict_of) := ⟨rfl, rfl, rfl, by decide +kernel, rfl, by decide +kernel, by decide +kernel⟩
abbrev s_shared_verdict : Stmt := top 73
abbrev n_shared_verdict : List Str := ["scheme", "n", "verdict"]
abbrev p_shared_verdict : List Str := ["scheme", "n"]
theorem sc_shared_verdict : FnScope n_shared_verdict p_shared_verdict (defScope s_shared_verdict) := ⟨rfl, rfl, rfl, by decide +kernel, rfl, by decide +kernel, by decide +kernel⟩
abbrev s_look_at_many : Stmt := top 74
abbrev n_look_at_many : List Str := ["many"]
abbrev p_look_at_many : List Str := ["many"]
theorem sc_look_at_many : FnScope n_look_at_many p_look_at_many (defScope s_look_at_many) := ⟨rfl, rfl, rfl, by decide +kernel, rfl, by decide +kernel, by decide +kernel⟩
abbrev s_look_at_switches : Stmt := top 75
abbrev n_look_at_switches : List Str := ["many", "tell", "test"]
abbrev p_look_at_switches : List Str := ["many", "tell", "test"]
theorem sc_look_at_switches : FnScope n_look_at_switches p_look_at_switches (defScope s_look_at_switches) := ⟨rfl, rfl, rfl, by decide +kernel, rfl, by decide +kernel, by decide +kernel⟩
abbrev s_look_at_start : Stmt := top 76
abbrev n_look_at_start : List Str := ["at"]
abbrev p_look_at_start : List Str := ["at"]
theorem sc_look_at_start : FnScope n_look_at_start p_look_at_start (defScope s_look_at_start) := ⟨rfl, rfl, rfl, by decide +kernel, rfl, by decide +kernel, by decide +kernel⟩
abbrev s_side_init : Stmt := inClass (top 77) 0
abbrev n_side_init : List Str := ["self"]
abbrev p_side_init : List Str := ["self"]
theorem sc_side_init : FnScope n_side_init p_side_init (defScope s_side_init) := ⟨rfl, rfl, rfl, by decide +kernel, rfl, by decide +kernel, by decide +kernel⟩
abbrev s_putters_init : Stmt := inClass (top 78) 0
abbrev n_putters_init : List Str := ["self", "scheme", "n", "many", "tell", "test", "at", "verdict", "k"]
abbrev p_putters_init : List Str := ["self", "scheme", "n", "many", "tell", "test", "at"]
theorem sc_putters_init : FnScope n_putters_init p_putters_init (defScope s_putters_init) := ⟨rfl, rfl, rfl, by decide +kernel, rfl, by decide +kernel, by decide +kernel⟩
abbrev s_g_broken : Stmt := inClass (top 78) 1
abbrev n_g_broken : List Str := ["self"]
abbrev p_g_broken : List Str := ["self"]
theorem sc_g_broken : FnScope n_g_broken p_g_broken (defScope s_g_broken) := ⟨rfl, rfl, rfl, by decide +kernel, rfl, by decide +kernel, by decide +kernel⟩
abbrev s_g_levels : Stmt := inClass (top 78) 2
abbrev n_g_levels : List Str := ["self"]
abbrev p_g_levels : List Str := ["self"]
theorem sc_g_levels : FnScope n_g_levels p_g_levels (defScope s_g_levels) := ⟨rfl, rfl, rfl, by decide +kernel, rfl, by decide +kernel, by decide +kernel⟩
abbrev s_g_steps : Stmt := inClass (top 78) 3
abbrev n_g_steps : List Str := ["self"]
abbrev p_g_steps : List Str := ["self"]
theorem sc_g_steps : FnScope n_g_steps p_g_steps (defScope s_g_steps) := ⟨rfl, rfl, rfl, by decide +kernel, rfl, by decide +kernel, by decide +kernel⟩
abbrev s_step : Stmt := inClass (top 78) 4
abbrev n_step : List Str := ["self", "hand", "side", "name"]
abbrev p_step : List Str := ["self", "hand"]
theorem sc_step : FnScope n_step p_step (defScope s_step) := ⟨rfl, rfl, rfl, by decide +kernel, rfl, by decide +kernel, by decide +kernel⟩
abbrev s_waits : Stmt := inClass (top 78) 5
abbrev n_waits : List Str := ["self", "side", "name"]
abbrev p_waits : List Str := ["self", "side", "name"]
theorem sc_waits : FnScope n_waits p_waits (defScope s_waits) := ⟨rfl, rfl, rfl, by decide +kernel, rfl, by decide +kernel, by decide +kernel⟩
abbrev s_act : Stmt := inClass (top 78) 6
abbrev n_act : List Str := ["self", "side", "name"]
abbrev p_act : List Str := ["self", "side", "name"]
theorem sc_act : FnScope n_act p_act (defScope s_act) := ⟨rfl, rfl, rfl, by decide +kernel, rfl, by decide +kernel, by decide +kernel⟩
abbrev s_step_taker : Stmt := inClass (top 78) 7
abbrev n_step_taker : List Str := ["self", "name"]
abbrev p_step_taker : List Str := ["self"]
theorem sc_step_taker : FnScope n_step_taker p_step_taker (defScope s_step_taker) := ⟨rfl, rfl, rfl, by decide +kernel, rfl, by decide +kernel, by decide +kernel⟩
abbrev s_law_mixed : Stmt := top 80
abbrev n_law_mixed : List Str := ["_law_number", "_law_place", "_law_many", "_law_first", "_law_second"]
abbrev p_law_mixed : List Str := ["_law_number", "_law_place", "_law_many"]
theorem sc_law_mixed : FnScope n_law_mixed p_law_mixed (defScope s_law_mixed) := ⟨rfl, rfl, rfl, by decide +kernel, rfl, by decide +kernel, by decide +kernel⟩
abbrev s_law_pool : Stmt := top 81
abbrev n_law_pool : List Str := ["_law_script", "_law_cell"]
abbrev p_law_pool : List Str := ["_law_script"]
theorem sc_law_pool : FnScope n_law_pool p_law_pool (defScope s_law_pool) := ⟨rfl, rfl, rfl, by decide +kernel, rfl, by decide +kernel, by decide +kernel⟩
abbrev s_law_draw : Stmt := top 82
abbrev n_law_draw : List Str := ["_law_pool_here", "_law_many", "_law_cells", "_law_cell", "_law_told", "_law_last"]
abbrev p_law_draw : List Str := ["_law_pool_here", "_law_many"]
theorem sc_law_draw : FnScope n_law_draw p_law_draw (defScope s_law_draw) := ⟨rfl, rfl, rfl, by decide +kernel, rfl, by decide +kernel, by decide +kernel⟩
abbrev s_law_wide : Stmt := top 83
abbrev n_law_wide : List Str := ["_law_pool_here", "_law_most", "_law_kind", "_law_told"]
abbrev p_law_wide : List Str := ["_law_pool_here", "_law_most"]
theorem sc_law_wide : FnScope n_law_wide p_law_wide (defScope s_law_wide) := ⟨rfl, rfl, rfl, by decide +kernel, rfl, by decide +kernel, by decide +kernel⟩
abbrev s_law_made : Stmt := top 84
abbrev n_law_made : List Str := ["_law_row", "_law_manner", "_law_turn", "_law_rule", "_law_bare", "_law_brim"]
abbrev p_law_made : List Str := ["_law_row", "_law_manner"]
theorem sc_law_made : FnScope n_law_made p_law_made (defScope s_law_made) := ⟨rfl, rfl, rfl, by decide +kernel, rfl, by decide +kernel, by decide +kernel⟩
abbrev s_law_modulus : Stmt := top 85
abbrev n_law_modulus : List Str := ["_law_turn", "_law_n", "_law_modulus_here", "_law_k"]
abbrev p_law_modulus : List Str := ["_law_turn", "_law_n"]
theorem sc_law_modulus : FnScope n_law_modulus p_law_modulus (defScope s_law_modulus) := ⟨rfl, rfl, rfl, by decide +kernel, rfl, by decide +kernel, by decide +kernel⟩
abbrev s_law_slot : Stmt := top 86
abbrev n_law_slot : List Str := ["_law_rule", "_law_n", "_law_c"]
abbrev p_law_slot : List Str := ["_law_rule", "_law_n", "_law_c"]
theorem sc_law_slot : FnScope n_law_slot p_law_slot (defScope s_law_slot) := ⟨rfl, rfl, rfl, by decide +kernel, rfl, by decide +kernel, by decide +kernel⟩
abbrev s_law_room : Stmt := top 87
abbrev n_law_room : List Str := ["_law_brim", "_law_n", "_law_modulus_here", "_law_limit"]
abbrev p_law_room : List Str := ["_law_brim", "_law_n", "_law_modulus_here"]
theorem sc_law_room : FnScope n_law_room p_law_room (defScope s_law_room) := ⟨rfl, rfl, rfl, by decide +kernel, rfl, by decide +kernel, by decide +kernel⟩
abbrev s_law_window : Stmt := top 88
abbrev n_law_window : List Str := ["_law_rule", "_law_n", "_law_modulus_here", "_law_seen", "_law_least", "_law_step_here", "_law_lies"]
abbrev p_law_window : List Str := ["_law_rule", "_law_n", "_law_modulus_here"]
theorem sc_law_window : FnScope n_law_window p_law_window (defScope s_law_window) := ⟨rfl, rfl, rfl, by decide +kernel, rfl, by decide +kernel, by decide +kernel⟩
abbrev s_law_due : Stmt := top 89
abbrev n_law_due : List Str := ["_law_row", "_law_n", "_law_modulus_here", "_law_room_here", "_law_window_here", "_law_right"]
abbrev p_law_due : List Str := ["_law_row", "_law_n"]
theorem sc_law_due : FnScope n_law_due p_law_due (defScope s_law_due) := ⟨rfl, rfl, rfl, by decide +kernel, rfl, by decide +kernel, by decide +kernel⟩
abbrev s_law_good : Stmt := top 90
abbrev n_law_good : List Str := ["_law_pool_here", "_law_way", "_law_wide_here"]
abbrev p_law_good : List Str := ["_law_pool_here", "_law_way"]
theorem sc_law_good : FnScope n_law_good p_law_good (defScope s_law_good) := ⟨rfl, rfl, rfl, by decide +kernel, rfl, by decide +kernel, by decide +kernel⟩
abbrev s_law_right_size : Stmt := top 91
abbrev n_law_right_size : List Str := ["_law_row", "_law_first", "_law_k", "_law_n"]
abbrev p_law_right_size : List Str := ["_law_row", "_law_first"]
theorem sc_law_right_size : FnScope n_law_right_size p_law_right_size (defScope s_law_right_size) := ⟨rfl, rfl, rfl, by decide +kernel, rfl, by decide +kernel, by decide +kernel⟩
abbrev s_law_counter_row : Stmt := top 92
abbrev n_law_counter_row : List Str := ["_law_pool_here", "_law_row", "_law_n"]
abbrev p_law_counter_row : List Str := ["_law_pool_here"]
theorem sc_law_counter_row : FnScope n_law_counter_row p_law_counter_row (defScope s_law_counter_row) := ⟨rfl, rfl, rfl, by decide +kernel, rfl, by decide +kernel, by decide +kernel⟩
abbrev s_law_game : Stmt := top 93
abbrev n_law_game : List Str := ["_law_row", "_law_n", "_law_many", "_law_tell_word", "_law_test_word", "_law_room_here", "_law_base", "_law_modulus_here", "_law_cycle", "_law_game_here", "_law_k"]
abbrev p_law_game : List Str := ["_law_row", "_law_n", "_law_many", "_law_tell_word", "_law_test_word", "_law_room_here", "_law_base"]
theorem sc_law_game : FnScope n_law_game p_law_game (defScope s_law_game) := ⟨rfl, rfl, rfl, by decide +kernel, rfl, by decide +kernel, by decide +kernel⟩
abbrev s_law_cell_of : Stmt := top 94
abbrev n_law_cell_of : List Str := ["_law_game_here", "_law_number"]
abbrev p_law_cell_of : List Str := ["_law_game_here", "_law_number"]
theorem sc_law_cell_of : FnScope n_law_cell_of p_law_cell_of (defScope s_law_cell_of) := ⟨rfl, rfl, rfl, by decide +kernel, rfl, by decide +kernel, by decide +kernel⟩
abbrev s_law_put_step : Stmt := top 95
abbrev n_law_put_step : List Str := ["_law_game_here", "_law_k", "_law_hands", "_law_side", "_law_levels", "_law_cells", "_law_name", "_law_brimming"]
abbrev p_law_put_step : List Str := ["_law_game_here", "_law_k"]
theorem sc_law_put_step : FnScope n_law_put_step p_law_put_step (defScope s_law_put_step) := ⟨rfl, rfl, rfl, by decide +kernel, rfl, by decide +kernel, by decide +kernel⟩
abbrev s_law_take_step : Stmt := top 96
abbrev n_law_take_step : List Str := ["_law_game_here", "_law_levels", "_law_cells", "_law_place"]
abbrev p_law_take_step : List Str := ["_law_game_here"]
theorem sc_law_take_step : FnScope n_law_take_step p_law_take_step (defScope s_law_take_step) := ⟨rfl, rfl, rfl, by decide +kernel, rfl, by decide +kernel, by decide +kernel⟩
abbrev s_law_step : Stmt := top 97
abbrev n_law_step : List Str := ["_law_game_here", "_law_hand"]
abbrev p_law_step : List Str := ["_law_game_here", "_law_hand"]
theorem sc_law_step : FnScope n_law_step p_law_step (defScope s_law_step) := ⟨rfl, rfl, rfl, by decide +kernel, rfl, by decide +kernel, by decide +kernel⟩
abbrev s_law_refused : Stmt := top 98
abbrev n_law_refused : List Str := ["_law_ring", "_law_hand", "e"]
abbrev p_law_refused : List Str := ["_law_ring", "_law_hand"]
theorem sc_law_refused : FnScope n_law_refused p_law_refused (defScope s_law_refused) := ⟨rfl, rfl, rfl, by decide +kernel, rfl, by decide +kernel, by decide +kernel⟩
abbrev s_law : Stmt := top 99
abbrev n_law : List Str := ["_law_script", "_law_pool_here", "_law_row", "_law_n", "_law_room_here", "_law_many", "_law_telling", "_law_testing", "_law_base", "_law_ring", "_law_game_here", "_law_k", "_law_hand", "_law_j"]
abbrev p_law : List Str := ["_law_script"]
theorem sc_law : FnScope n_law p_law (defScope s_law) := ⟨rfl, rfl, rfl, by decide +kernel, rfl, by decide +kernel, by decide +kernel⟩
abbrev s_nosteps_init : Stmt := inClass (top 10) 0
abbrev n_nosteps_init : List Str := ["self", "at"]
abbrev p_nosteps_init : List Str := ["self", "at"]
end RI

set_option maxHeartbeats 4000000
/-! Words of one's own: a global def with its promise, a method, a getter, a maker; readings step by step. -/
namespace RI
open PySem PySem.Spec PyProof.Rows L2
/-! ### heaps -/
/-- all that was tracked is as it was, but for what stands at S -/
def Keep (S : List Addr) (H H' : Hp) : Prop := ∀ b o, H b = some o → b ∉ S → H' b = some o
theorem Keep.refl {S : List Addr} (H : Hp) : Keep S H H := fun _ _ h _ => h
theorem Keep.same {S : List Addr} {H H' : Hp} (k : Same H H') : Keep S H H' := fun b o h _ => k b o h
theorem Keep.trans {S : List Addr} {H H1 H2 : Hp} (a : Keep S H H1) (b : Keep S H1 H2) : Keep S H H2 := fun c o h n => b c o (a c o h n) n
theorem Keep.mono {S T : List Addr} {H H' : Hp} (a : Keep S H H') (h : ∀ b, b ∈ S → b ∈ T) : Keep T H H' := fun c o e n => a c o e fun z => n (h c z)
theorem Keep.set {S : List Addr} {H H' : Hp} {p : Addr} {o : HO} (a : Keep S H H') (h : p ∈ S) : Keep S H (upd H' p o) := fun c u e n => by
  have hc : c ≠ p := fun z => n (by rw [z]; exact h)
  rw [upd_ne hc]
  exact a c u e n
theorem Keep.new {S : List Addr} {H H' : Hp} {p : Addr} {o : HO} (a : Keep S H H') (h : H p = none) : Keep S H (upd H' p o) := fun c u e n => by
  rw [upd_ne (ne_of_none e h)]
  exact a c u e n
theorem Keep.newer {S : List Addr} {H H' : Hp} {p : Addr} {o : HO} (a : Keep S H H') (h : H' p = none) (hp : p ∉ S) : Keep S H (upd H' p o) := fun c u e n => by
  have q := a c u e n
  rw [upd_ne (ne_of_none q h)]
  exact q
theorem Same.new {H : Hp} {p : Addr} {o : HO} (h : H p = none) : Same H (upd H p o) := fun c u e => by
  rw [upd_ne (ne_of_none e h)]
  exact e
theorem Same.tup {K : PySem.W.Frag} {H H' : Hp} {a : Addr} {xs : List V} (e : Same H H') (h : SqT K H a xs) : SqT K H' a xs := by
  rcases h with (h | ⟨o, h⟩) | h
  · exact .inl (.inl (e _ _ h))
  · exact .inl (.inr ⟨o, e _ _ h⟩)
  · exact .inr h
/-! ### defs as they stand -/
structure FunG (K : PySem.W.Frag) (mg : Str → Option Value) (x : Str) (st : Stmt) : Prop where
  ex : ∃ f fd, FunD K x x (defArgs st) (defBody st) (defScope st) [] [] f fd ∧ mg x = some (.ref f)
structure FunM (K : PySem.W.Frag) (C : Addr) (x qual : Str) (st : Stmt) : Prop where
  ex : ∃ f fd, FunD K x qual (defArgs st) (defBody st) (defScope st) [] [] f fd ∧ Meth K C x f
structure FunI (K : PySem.W.Frag) (mg : Str → Option Value) (C : Addr) (cn qual : Str) (st : Stmt) (kws : List (Str × V)) : Prop where
  ex : ∃ f fd, FunD K "__init__" qual (defArgs st) (defBody st) (defScope st) [] kws f fd ∧ Mk K C f ∧ mg cn = some (.ref C)
structure FunP (K : PySem.W.Frag) (C : Addr) (x qual : Str) (st : Stmt) : Prop where
  ex : ∃ p f fd, FunD K x qual (defArgs st) (defBody st) (defScope st) [] [] f fd ∧ PropOf K C x p f
/-! ### .. with their promises -/
section
variable {P : Program} {w : World} {K : PySem.W.Frag} {mg : Str → Option Value} {base : Heap}
structure Glb (P : Program) (w : World) (K : PySem.W.Frag) (mg : Str → Option Value) (base : Heap) (k : Nat) (x : Str) (ps : List Str) (sp : Sp) : Prop where
  ex : ∃ f fd, FnOk P w K mg base CX0 k f fd ps sp ∧ mg x = some (.ref f) ∧ PySem.W.keepIn K (.ref f) = true ∧ Binds K fd ps []
structure MthOk (P : Program) (w : World) (K : PySem.W.Frag) (mg : Str → Option Value) (base : Heap) (k : Nat) (C : Addr) (m : Str) (ps : List Str) (sp : Sp) : Prop where
  ex : ∃ f fd, FnOk P w K mg base CX0 k f fd ps sp ∧ Meth K C m f ∧ Binds K fd ps []
structure PrpOk (P : Program) (w : World) (K : PySem.W.Frag) (mg : Str → Option Value) (base : Heap) (k : Nat) (C : Addr) (m : Str) (sp : Sp) : Prop where
  ex : ∃ p f fd, FnOk P w K mg base CX0 k f fd ["self"] sp ∧ PropOf K C m p f ∧ Binds K fd ["self"] []
structure MkOk (P : Program) (w : World) (K : PySem.W.Frag) (mg : Str → Option Value) (base : Heap) (k : Nat) (cn : Str) (C : Addr) (ps : List Str) (sp : Sp) : Prop where
  ex : ∃ f fd, FnOk P w K mg base CX0 k f fd ps sp ∧ Mk K C f ∧ mg cn = some (.ref C) ∧ Binds K fd ps []
/-- the body of a def that lets nothing out -/
abbrev Body (P : Program) (w : World) (K : PySem.W.Frag) (mg : Str → Option Value) (base : Heap) (N : List Str) (qual : Str) (st : Stmt) (k : Nat) (sp : Sp) : Prop :=
  ∀ (cdv : Value) (A : Around) (outer : List Env) (s : Shared) (H : Hp) (vs : List V) (Q : VK) (E : XK) (f : Addr), Room k (A.deeper (envOfC qual (defScope st) s.heap.objs.size f cdv)) → sp vs H Q E →
      ∃ t, PSs (cxOf CX0 P w K mg base N qual (defScope st) f cdv A outer s H E).nox (defBody st) t ∧ t { nx := fun _ H' => Q .non H', rt := Q } (start N vs) H
theorem FunG.ok {x : Str} {st : Stmt} {N ps : List Str} {k : Nat} {sp : Sp} (F : FunG K mg x st) (S : FnScope N ps (defScope st)) (len : ∀ vs H Q E, sp vs H Q E → vs.length = ps.length)
    (hb : ∀ (kV doc pm : Value) (an : Option Addr) (cdv ct : Value) (us : List Value), us.length = ps.length → bindArgs (PySem.W.fnOf x x (defArgs st) (defBody st) (defScope st) .none kV doc pm an cdv ct) ⟨us, []⟩ = pure (ps.zip us))
    (b : Body P w K mg base N x st k sp) : Glb P w K mg base (k + 1) x ps sp := by
  obtain ⟨f, fd, F, hm⟩ := F.ex
  refine ⟨f, fd, F.ok S len (fun cdv A outer s H vs Q E hr hsp => ?_), hm, F.kp, F.bindsN hb⟩
  obtain ⟨t, h, q⟩ := b cdv A outer s H vs Q E f hr hsp
  exact ⟨t, h.nox, q⟩
theorem FunM.ok {C : Addr} {x qual : Str} {st : Stmt} {N ps : List Str} {k : Nat} {sp : Sp} (F : FunM K C x qual st) (S : FnScope N ps (defScope st)) (len : ∀ vs H Q E, sp vs H Q E → vs.length = ps.length)
    (hb : ∀ (kV doc pm : Value) (an : Option Addr) (cdv ct : Value) (us : List Value), us.length = ps.length → bindArgs (PySem.W.fnOf x qual (defArgs st) (defBody st) (defScope st) .none kV doc pm an cdv ct) ⟨us, []⟩ = pure (ps.zip us))
    (b : Body P w K mg base N qual st k sp) : MthOk P w K mg base (k + 1) C x ps sp := by
  obtain ⟨f, fd, F, hm⟩ := F.ex
  refine ⟨f, fd, F.ok S len (fun cdv A outer s H vs Q E hr hsp => ?_), hm, F.bindsN hb⟩
  obtain ⟨t, h, q⟩ := b cdv A outer s H vs Q E f hr hsp
  exact ⟨t, h.nox, q⟩
theorem FunI.ok {C : Addr} {cn qual : Str} {st : Stmt} {N ps : List Str} {k : Nat} {sp : Sp} (F : FunI K mg C cn qual st []) (S : FnScope N ps (defScope st)) (len : ∀ vs H Q E, sp vs H Q E → vs.length = ps.length)
    (hb : ∀ (kV doc pm : Value) (an : Option Addr) (cdv ct : Value) (us : List Value), us.length = ps.length → bindArgs (PySem.W.fnOf "__init__" qual (defArgs st) (defBody st) (defScope st) .none kV doc pm an cdv ct) ⟨us, []⟩ = pure (ps.zip us))
    (b : Body P w K mg base N qual st k sp) : MkOk P w K mg base (k + 1) cn C ps sp := by
  obtain ⟨f, fd, F, hm, hc⟩ := F.ex
  refine ⟨f, fd, F.ok S len (fun cdv A outer s H vs Q E hr hsp => ?_), hm, hc, F.bindsN hb⟩
  obtain ⟨t, h, q⟩ := b cdv A outer s H vs Q E f hr hsp
  exact ⟨t, h.nox, q⟩
theorem FunP.ok {C : Addr} {x qual : Str} {st : Stmt} {N : List Str} {k : Nat} {sp : Sp} (F : FunP K C x qual st) (S : FnScope N ["self"] (defScope st)) (len : ∀ vs H Q E, sp vs H Q E → vs.length = 1)
    (hb : ∀ (kV doc pm : Value) (an : Option Addr) (cdv ct : Value) (us : List Value), us.length = 1 → bindArgs (PySem.W.fnOf x qual (defArgs st) (defBody st) (defScope st) .none kV doc pm an cdv ct) ⟨us, []⟩ = pure ((["self"] : List Str).zip us))
    (b : Body P w K mg base N qual st k sp) : PrpOk P w K mg base (k + 1) C x sp := by
  obtain ⟨p, f, fd, F, hm⟩ := F.ex
  refine ⟨p, f, fd, F.ok S len (fun cdv A outer s H vs Q E hr hsp => ?_), hm, F.bindsN hb⟩
  obtain ⟨t, h, q⟩ := b cdv A outer s H vs Q E f hr hsp
  exact ⟨t, h.nox, q⟩
end
section
variable {X : Cx} {k : Nat} {C : Addr} {ps : List Str} {sp : Sp} {x m : Str} {p pos apos : Pos} {e o : Expr} {es : List Expr} {ta : TE} {t : TA}
theorem pe_callG (G : Glb X.prog X.w X.K X.mg X.base k x ps sp) (hr : Room k X.A) (ha : PA X (e :: es) t) (hg : Gl X x := by rfl) (hdb : (x == ("__debug__" : Str)) = false := by decide)
    (he : starEach (e :: es) X.env = (false, eval e X.env) :: starEach es X.env := by rfl) (hpl : (backTo pos (starEach es X.env)).any (·.1) = false := by rfl) :
    PE X (.Call (.Name x p) (e :: es) [] pos) (tCall sp [] E0 t) := by
  obtain ⟨f, fd, F, hm, hk, hb⟩ := G.ex
  exact pe_call F hr hg hm hk hb .nil pass0 ha hdb he hpl
theorem pe_prpG (G : PrpOk X.prog X.w X.K X.mg X.base k C m sp) (hr : Room (k + 1) X.A) (c : Cls X.K C) (he : PE X e ta) (hab : attributeBase e m X.env (eval e X.env) = eval e X.env := by rfl) :
    PE X (.Attribute e m pos) (tProp C sp [] E0 ta) := by
  obtain ⟨pr, f, fd, F, hp, hb⟩ := G.ex
  exact pe_prop he c hp F hr hb .nil pass0 hab
theorem pe_mkG0 {cn : Str} (G : MkOk X.prog X.w X.K X.mg X.base k cn C ps sp) (hr : Room (k + 1) X.A) (hg : Gl X cn := by rfl) (hdb : (cn == ("__debug__" : Str)) = false := by decide) : PE X (.Call (.Name cn p) [] [] pos) (tMake C sp [] E0 tNil) := by
  obtain ⟨f, fd, F, hm, hc, hb⟩ := G.ex
  exact pe_make0 hm F hr hg hc hb .nil pass0 hdb
theorem pe_mkG {cn : Str} (G : MkOk X.prog X.w X.K X.mg X.base k cn C ps sp) (hr : Room (k + 1) X.A) (ha : PA X (e :: es) t) (hg : Gl X cn := by rfl) (hdb : (cn == ("__debug__" : Str)) = false := by decide)
    (he : starEach (e :: es) X.env = (false, eval e X.env) :: starEach es X.env := by rfl) (hpl : (backTo pos (starEach es X.env)).any (·.1) = false := by rfl) :
    PE X (.Call (.Name cn p) (e :: es) [] pos) (tMake C sp [] E0 t) := by
  obtain ⟨f, fd, F, hm, hc, hb⟩ := G.ex
  exact pe_make hm F hr hg hc hb .nil pass0 ha hdb he hpl
theorem pe_mthG {pl : Sem Bool} (he : PE X o ta) (c : Cls X.K C) (G : MthOk X.prog X.w X.K X.mg X.base k C m ps sp) (hr : Room k X.A) (ha : PA X (e :: es) t)
    (hst : starEach (e :: es) X.env = (false, eval e X.env) :: starEach es X.env := by rfl) (hpl : (backTo pos (starEach es X.env)).any (·.1) = false := by rfl)
    (ht : eval (.Call (.Attribute o m apos) (e :: es) [] pos) X.env = (do
      let ov ← eval o X.env
      standAt apos.atName
      let (f, first) ← holding [ov] (getMethod ov m pl)
      callWith pos f first (backTo pos (starEach (e :: es) X.env)) (backToKw pos (keywordEach [] X.env))) := by rfl) :
    PE X (.Call (.Attribute o m apos) (e :: es) [] pos) (tMeth C m sp [] E0 ta t) := by
  obtain ⟨f, fd, F, hm, hb⟩ := G.ex
  exact pe_meth (pl := pl) he c hm F hr hb .nil pass0 ha hst hpl ht
theorem pe_mthG0 {pl : Sem Bool} (he : PE X o ta) (c : Cls X.K C) (G : MthOk X.prog X.w X.K X.mg X.base k C m ps sp) (hr : Room k X.A)
    (ht : eval (.Call (.Attribute o m apos) [] [] pos) X.env = (do
      let ov ← eval o X.env
      standAt apos.atName
      let (f, first) ← holding [ov] (getMethod ov m pl)
      callWith pos f first (backTo pos (starEach [] X.env)) (backToKw pos (keywordEach [] X.env))) := by rfl) :
    PE X (.Call (.Attribute o m apos) [] [] pos) (tMeth C m sp [] E0 ta tNil) := by
  obtain ⟨f, fd, F, hm, hb⟩ := G.ex
  exact pe_meth0 (pl := pl) he c hm F hr hb .nil pass0 ht
end
/-! ### tests whose answer is known -/
theorem if_t {c : Bool} {A B : Prop} (hc : c = true) (h : A) : if c = true then A else B := by
  rw [if_pos hc]
  exact h
theorem if_f {c : Bool} {A B : Prop} (hc : c = false) (h : B) : if c = true then A else B := by
  rw [hc, if_neg Bool.false_ne_true]
  exact h
theorem if_d {c : Prop} [Decidable c] {A B : Prop} (h1 : c → A) (h2 : ¬ c → B) : if decide c = true then A else B := by
  by_cases h : c
  · exact if_t (decide_eq_true h) (h1 h)
  · exact if_f (decide_eq_false h) (h2 h)
end RI

set_option maxHeartbeats 4000000
/-! What the top has left, as the defs' proofs ask for it. -/
namespace RI
open PySem PySem.Spec PyProof.Rows L2
/-- an instance's class, for isinstance -/
structure IsiF (K : PySem.W.Frag) (C : Addr) : Prop where
  ha : PySem.W.findIn K (.ref C) "__class__" = some (some (.builtin "object.__class__"))
  hn : PySem.W.specialIn K (.builtin "object.__class__") "__get__" = some (some (.builtin "getset_descriptor.__get__"))
  ht : PySem.W.takesIn K (.builtin "object.__class__") = some true
  hm : PySem.W.mroIn K C (.type "object") = some true
abbrev aForm (K : PySem.W.Frag) : Addr := He.ga K "Form"
abbrev aScheme (K : PySem.W.Frag) : Addr := He.ga K "Scheme"
abbrev aVerdict (K : PySem.W.Frag) : Addr := He.ga K "Verdict"
abbrev aPutterSide (K : PySem.W.Frag) : Addr := He.ga K "PutterSide"
abbrev aPutters (K : PySem.W.Frag) : Addr := He.ga K "Putters"
structure Txt (K : PySem.W.Frag) (mg : Str → Option Value) : Prop where
  f_is_whole : FunG K mg "is_whole" s_is_whole
  f_is_between : FunG K mg "is_between" s_is_between
  f_is_size : FunG K mg "is_size" s_is_size
  f_row_of : FunG K mg "row_of" s_row_of
  f_copy_of : FunG K mg "copy_of" s_copy_of
  f_is_word : FunG K mg "is_word" s_is_word
  f_is_part_form : FunG K mg "is_part_form" s_is_part_form
  f_is_wrap : FunG K mg "is_wrap" s_is_wrap
  f_is_slot : FunG K mg "is_slot" s_is_slot
  f_is_full_rule : FunG K mg "is_full_rule" s_is_full_rule
  f_way_of : FunG K mg "way_of" s_way_of
  f_modulus_at : FunG K mg "modulus_at" s_modulus_at
  f_has_outside : FunG K mg "has_outside" s_has_outside
  f_mask_gap : FunG K mg "mask_gap" s_mask_gap
  f_gap_at : FunG K mg "gap_at" s_gap_at
  f_room_at : FunG K mg "room_at" s_room_at
  f_alike_at : FunG K mg "alike_at" s_alike_at
  f_window_at : FunG K mg "window_at" s_window_at
  f_cause_at : FunG K mg "cause_at" s_cause_at
  f_breaking_run : FunG K mg "breaking_run" s_breaking_run
  f_verdict_of : FunG K mg "verdict_of" s_verdict_of
  f_shared_verdict : FunG K mg "shared_verdict" s_shared_verdict
  f_look_at_many : FunG K mg "look_at_many" s_look_at_many
  f_look_at_switches : FunG K mg "look_at_switches" s_look_at_switches
  f_look_at_start : FunG K mg "look_at_start" s_look_at_start
  f_law_mixed : FunG K mg "_law_mixed" s_law_mixed
  f_law_pool : FunG K mg "_law_pool" s_law_pool
  f_law_draw : FunG K mg "_law_draw" s_law_draw
  f_law_wide : FunG K mg "_law_wide" s_law_wide
  f_law_made : FunG K mg "_law_made" s_law_made
  f_law_modulus : FunG K mg "_law_modulus" s_law_modulus
  f_law_slot : FunG K mg "_law_slot" s_law_slot
  f_law_room : FunG K mg "_law_room" s_law_room
  f_law_window : FunG K mg "_law_window" s_law_window
  f_law_due : FunG K mg "_law_due" s_law_due
  f_law_good : FunG K mg "_law_good" s_law_good
  f_law_right_size : FunG K mg "_law_right_size" s_law_right_size
  f_law_counter_row : FunG K mg "_law_counter_row" s_law_counter_row
  f_law_game : FunG K mg "_law_game" s_law_game
  f_law_cell_of : FunG K mg "_law_cell_of" s_law_cell_of
  f_law_put_step : FunG K mg "_law_put_step" s_law_put_step
  f_law_take_step : FunG K mg "_law_take_step" s_law_take_step
  f_law_step : FunG K mg "_law_step" s_law_step
  f_law_refused : FunG K mg "_law_refused" s_law_refused
  f_law : FunG K mg "law" s_law
  i_Form : FunI K mg (aForm K) "Form" "Form.__init__" s_form_init []
  i_Scheme : FunI K mg (aScheme K) "Scheme" "Scheme.__init__" s_scheme_init [("when", .str "refuse")]
  i_Verdict : FunI K mg (aVerdict K) "Verdict" "Verdict.__init__" s_verdict_init []
  i_PutterSide : FunI K mg (aPutterSide K) "PutterSide" "PutterSide.__init__" s_side_init []
  i_Putters : FunI K mg (aPutters K) "Putters" "Putters.__init__" s_putters_init [("tell", .str "turn"), ("test", .str "one"), ("at", .int 0)]
  m_step : FunM K (aPutters K) "step" "Putters.step" s_step
  m_waits : FunM K (aPutters K) "waits" "Putters.waits" s_waits
  m_act : FunM K (aPutters K) "act" "Putters.act" s_act
  m_step_taker : FunM K (aPutters K) "step_taker" "Putters.step_taker" s_step_taker
  m_verdict_bool : FunM K (aVerdict K) "__bool__" "Verdict.__bool__" s_verdict_bool
  p_g_wrap : FunP K (aScheme K) "wrap" "Scheme.wrap" s_g_wrap
  p_g_slot : FunP K (aScheme K) "slot" "Scheme.slot" s_g_slot
  p_g_empty : FunP K (aScheme K) "empty" "Scheme.empty" s_g_empty
  p_g_full : FunP K (aScheme K) "full" "Scheme.full" s_g_full
  p_g_when : FunP K (aScheme K) "when" "Scheme.when" s_g_when
  p_g_room : FunP K (aVerdict K) "room" "Verdict.room" s_g_room
  p_g_broken : FunP K (aPutters K) "broken" "Putters.broken" s_g_broken
  p_g_levels : FunP K (aPutters K) "levels" "Putters.levels" s_g_levels
  p_g_steps : FunP K (aPutters K) "steps" "Putters.steps" s_g_steps
  c_Form : Cls K (aForm K)
  mg_Form : mg "Form" = some (.ref (aForm K))
  n_Form_slope : NoAttr K (aForm K) "slope"
  n_Form_base : NoAttr K (aForm K) "base"
  c_Scheme : Cls K (aScheme K)
  mg_Scheme : mg "Scheme" = some (.ref (aScheme K))
  n_Scheme_own_wrap : NoAttr K (aScheme K) "own_wrap"
  n_Scheme_own_slot : NoAttr K (aScheme K) "own_slot"
  n_Scheme_own_empty : NoAttr K (aScheme K) "own_empty"
  n_Scheme_own_full : NoAttr K (aScheme K) "own_full"
  n_Scheme_own_when : NoAttr K (aScheme K) "own_when"
  c_Verdict : Cls K (aVerdict K)
  mg_Verdict : mg "Verdict" = some (.ref (aVerdict K))
  n_Verdict_own_cause : NoAttr K (aVerdict K) "own_cause"
  n_Verdict_own_room : NoAttr K (aVerdict K) "own_room"
  n_Verdict_own_window : NoAttr K (aVerdict K) "own_window"
  n_Verdict_own_run : NoAttr K (aVerdict K) "own_run"
  c_PutterSide : Cls K (aPutterSide K)
  mg_PutterSide : mg "PutterSide" = some (.ref (aPutterSide K))
  n_PutterSide_place : NoAttr K (aPutterSide K) "place"
  n_PutterSide_own_number : NoAttr K (aPutterSide K) "own_number"
  c_Putters : Cls K (aPutters K)
  mg_Putters : mg "Putters" = some (.ref (aPutters K))
  n_Putters_limit : NoAttr K (aPutters K) "limit"
  n_Putters_in_turn : NoAttr K (aPutters K) "in_turn"
  n_Putters_cycle : NoAttr K (aPutters K) "cycle"
  n_Putters_sides : NoAttr K (aPutters K) "sides"
  n_Putters_letters : NoAttr K (aPutters K) "letters"
  n_Putters_taker_place : NoAttr K (aPutters K) "taker_place"
  n_Putters_numbers_given : NoAttr K (aPutters K) "numbers_given"
  n_Putters_told : NoAttr K (aPutters K) "told"
  n_Putters_gone : NoAttr K (aPutters K) "gone"
  n_Putters_open_numbers : NoAttr K (aPutters K) "open_numbers"
  n_Putters_made : NoAttr K (aPutters K) "made"
  n_Putters_found : NoAttr K (aPutters K) "found"
  isF : IsiF K (aForm K)
  kFi : PySem.W.kitOne K (.ref (aForm K)) (.type "int") = some false
  kFF : PySem.W.kitOne K (.ref (aForm K)) (.ref (aForm K)) = some true
  b_isinstance : mg "isinstance" = none
  b_int : mg "int" = none
  b_bool : mg "bool" = none
  b_str : mg "str" = none
  b_tuple : mg "tuple" = none
  b_len : mg "len" = none
  b_list : mg "list" = none
  b_range : mg "range" = none
  v_LARGEST : ∃ t, mg "LARGEST" = some (.int (10 ^ 30) t)
  v_WIDEST : ∃ t, mg "WIDEST" = some (.int (100) t)
  v_FARTHEST : ∃ t, mg "FARTHEST" = some (.int (10 ^ 40) t)
  v_PUTTERS : mg "PUTTERS" = some (.ref (He.ga K "PUTTERS"))
  t_PUTTERS : ∀ H : Hp, SqT K H (He.ga K "PUTTERS") [.str "a", .str "b", .str "c", .str "d"]
  k_PUTTERS : ∃ o, K.lookup (He.ga K "PUTTERS") = some o ∧ o.cls = .type "tuple" ∧ o.dict = none
end RI

set_option maxHeartbeats 4000000
namespace RI
abbrev s_nst_init : PySem.Stmt := L2.inClass (top 10) 0
end RI
namespace PySem
namespace NstX
open PySem.W PySem.Calls PyProof.Rows PySem.HandSPX L2
/-- what the written part says of NoSteps, at C, of its __init__, at fI, and of the cell that names the class -/
structure NstTxt (P : Program) (K : Frag) (mg : Str → Option Value) (C fI cc cda : Addr) : Prop where
  gC : mg "NoSteps" = some (.ref C)
  ox : OexC K C
  noN : findIn K (.ref C) "at" = some none
  iC : findIn K (.ref C) "__init__" = some (some (.ref fI))
  tI : typeIn K (.ref fI) = some (.type "function")
  fn : ∃ (oc : Value) (od : Option Addr) (kV doc pm : Value) (an : Option Addr) (ct : Value) (osl : Array (Option Value)),
    K.lookup fI = some ⟨oc, od, .func (ksFn "__init__" "NoSteps.__init__" (defArgs RI.s_nst_init) (defBody RI.s_nst_init) (defScope RI.s_nst_init) .none kV doc pm an (.ref cda) ct cc), osl⟩ ∧ codeIn K (.ref cda) "NoSteps.__init__" = true
  code : ∃ (oc : Value) (od : Option Addr) (vs : Array Value) (file : Str) (tf : Tok) (osl : Array (Option Value)), K.lookup cda = some ⟨oc, od, .fields vs, osl⟩ ∧ vs[2]? = some (.str file tf) ∧ ((P.main.file : Str) == file) = true
  cell : ∃ (oc : Value) (od : Option Addr) (osl : Array (Option Value)), K.lookup cc = some ⟨oc, od, .cell (some (.ref C)), osl⟩
  sub : mroIn K C (.ref C) = some true
  opq : nsIn K cStatics "thirdparty.any" = some none
  sup : ks_superIn K C C "__init__" = some (some (.builtin "ValueError.__init__"))
  subV : subIn K (.ref C) (.type "ValueError") = some true
  gS : mg "super" = none
  top : (P.main.scope.names.lookup ("super" : Str)).isSome = false
structure InitEnd (h h' : Heap) (x C dx t1 : Addr) (v : Value) : Prop where
  keep : ∀ b o, b ≠ x → h.get? b = some o → h'.get? b = some o
  obj : h'.get? x = some { cls := .ref C, dict := some dx, data := .fields #[.ref t1, .none, .none, .none, .bool false, .none] }
  dbig : h.objs.size ≤ dx
  dne : dx ≠ x
  ns : h'.Ns1 dx (fun y => if y = "at" then some v else none)
section
variable {prog : Program} {w : World} {A : Around} {E : Value → Shared → Prop} {R : Result → Shared → Prop} {s : Shared} {K : Frag} {mg mb : Str → Option Value} {C fI cc cda : Addr}
theorem nst_init (T : NstTxt prog K mg C fI cc cda) {x t0 : Addr} {v : Value} (X : K.In s.heap) (hlim : s.heap.NoLimit) (G : s.heap.Ns mainGlobals mg) (B : s.heap.Ns builtinsNs mb) (hb : mb "super" = some (.type "super")) (hx : s.heap.get? x = some (excO C t0)) (hnx : K.lookup x = none) (hroom : A.depth < recursionLimit)
    (hq : ∀ h' tk dx t1, InitEnd s.heap h' x C dx t1 v → R (.ok (.ret .none)) { s with heap := h', toks := tk }) :
    codeAny (model prog w) A (.call (.ref fI) ⟨[.ref x, v], []⟩) R s := by
  obtain ⟨oc, od, kV, doc, pm, an, ct, osl, ho, hcd⟩ := T.fn
  obtain ⟨oc2, od2, vs, file, tf, osl2, ho2, hvs, hfile⟩ := T.code
  obtain ⟨oc3, od3, osl3, ho3⟩ := T.cell
  obtain ⟨nm, q, N, bs, bm, sn, sub, ab, col, dd, k0, k1, k2, k3, k5, hC, hbm⟩ := T.ox.cls
  have hcl : clsIn K C = some { name := nm, bases := bs, mro := .ref C :: bm, ns := N, qualname := q, hasDict := true, slotNames := sn, subclasses := sub, abstract := ab, collection := col, hasDel := false } := by unfold clsIn; rw [hC] <;> rfl
  have KF := kxs_ValueError
  refine ks_codeAny_call_defAt (fd := ksFn "__init__" "NoSteps.__init__" (defArgs RI.s_nst_init) (defBody RI.s_nst_init) (defScope RI.s_nst_init) .none kV doc pm an (.ref cda) ct cc) (body := defBody RI.s_nst_init) (binds := [("self", .ref x), ("at", v)]) hroom (X _ _ ho) rfl hlim (codeRec_of X hcd) rfl (BindsTo.of_eq (by first | rfl | with_unfolding_all rfl)) (show ∀ x ∈ (defScope RI.s_nst_init).names, x.2 ≠ .cell by decide) (locs rfl) (fun h₁ hn k => ?_)
  have hxL : s.heap.objs.size ≠ x := Nat.ne_of_gt (Heap.lt_size hx)
  have X₁ : K.In h₁ := X.keeps k
  have hx₁ := k _ _ hx
  have G1 := G.keeps k
  have B1 := B.keeps k
  obtain ⟨hp, g, dr, tk, os⟩ := s
  show wpAt _ _ _ (execs (_ :: _) _) _ _ _
  refine ks_wpAt_execs_cons (ks_wpAt_Expr_any (ks_wpAt_MethodCall (pl := pure false) ?_))
  refine ks_wpAt_super_base rfl rfl (by decide) rfl (k _ _ (X _ _ ho)) rfl rfl rfl (k _ _ (X _ _ ho2)) rfl hvs hfile T.top ?_
  refine ks_loadName_global rfl rfl (loadGlobal_builtin G1 T.gS B1 hb ⟨rfl, ?_⟩)
  refine wpAny_loadName_free rfl rfl rfl ⟨_, k _ _ (X _ _ ho3), rfl⟩ ?_
  refine wpAny_loadName_local (v := .ref x) rfl rfl hn (by first | rfl | with_unfolding_all rfl | kernel_rfl) ?_
  have hC1 := X₁ _ _ hC
  refine ks_wpAny_isType_cls hC1 rfl ⟨rfl, ?_⟩
  refine ks_wpAny_call_super hC1 rfl hx₁ rfl (fun c e => by cases e) (looks_mroIn X₁ T.sub) (fun h₂ e k₂ => ?_)
  have X₂ : K.In h₂ := X₁.keeps k₂
  have hx₂ := k₂ _ _ hx₁
  have I₂ : InstAt h₂ x (excO C t0) C none := ⟨hx₂, rfl, rfl, trivial⟩
  have hsup : alongIn K "__init__" (((Value.ref C :: bm).dropWhile (· != .ref C)).drop 1) = some (some (.builtin "ValueError.__init__")) := by
    have z := T.sup
    unfold ks_superIn at z
    rw [hcl] at z
    exact z
  refine kxs_getMethod KF e (looks_opaque X₂ T.opq) (l₀ := .ref C :: bm) (fun A Q E s k q => wpAny_bind ((looks_clsIn X₂ hcl) A _ E s k (wpAny_pure q))) rfl X₂ hsup (I₂.type.andThen (looks_subIn X₂ T.subV)) (ks_ne X₂ I₂ hcl) (by decide) ?_
  have hu : (h₂.push (kxs_mw "ValueError.__init__" x)).get? h₂.objs.size = some (kxs_mw "ValueError.__init__" x) := Heap.get?_push_at rfl rfl
  have k₃ : ∀ b o, h₂.get? b = some o → (h₂.push (kxs_mw "ValueError.__init__" x)).get? b = some o := fun b o e => Heap.get?_push_of_some _ e
  generalize h₂.push (kxs_mw "ValueError.__init__" x) = h₃ at hu k₃
  have X₃ : K.In h₃ := X₂.keeps k₃
  refine kxs_callWith (i := "ValueError.__init__") (x := x) rfl (evalArgs_plain (Calls.spliced_cons (Calls.Constant_str (k := 0) (pos := ⟨36, 25, 36, 35⟩) (Calls.spliced_nil ⟨hu, ?_⟩))))
  refine wpAny_call (codeAny_of_tree ?_)
  show wpAny _ _ (callAny (.ref h₂.objs.size) ⟨_, []⟩) _ _ _
  simp only [callAny]
  refine wpAny_bind (wpAny_load hu ?_)
  simp only [kxs_mw, show (Value.type "method-wrapper" == Value.type "method" || Value.type "method-wrapper" == Value.type "builtin_function_or_method" || Value.type "method-wrapper" == Value.type "method-wrapper") = true by decide, if_true]
  refine KFB.if_so (by decide) ?_
  refine wpAny_bind (check_bound_init F.excBase_ValueError.toExcCallFacts (X₃ _ _ hC) (k₃ _ _ hx₂) rfl ?_)
  refine wpAny_bind (wpAny_pure (wpAny_pure ?_))
  refine ⟨plainId_quiet F.excBase_ValueError.init.plain _, codeAny_builtin F.excBase_ValueError.initEntry ?_⟩
  refine exc_init_tree (cls := .ref C) (t0 := t0) (dv := none) (c2 := .none) (c3 := .none) (b4 := .bool false) (k₃ _ _ hx₂) (show 1 ≤ sizeLine by rw [sizeLine_eq]; decide) fun h₄ k₄ hx₄ _ => ?_
  have k₁₄ : ∀ b o, b ≠ x → h₁.get? b = some o → h₄.get? b = some o := fun b o e z => k₄ b o e (k₃ _ _ (k₂ _ _ z))
  have X₄ : K.In h₄ := fun b o z => k₁₄ b o (fun e => by rw [e, hnx] at z; cases z) (X₁ _ _ z)
  have hn₄ := hn.at (h' := h₄) fun o z => k₁₄ _ o hxL z
  show wpAt _ _ _ (execs (_ :: _) _) _ _ _
  refine wpAt_of_wpAny (wpAny_execs_cons (plainObj_wpAny_Assign_Attribute ?_))
  refine wpAny_Name (wpAny_loadName_local (v := v) rfl rfl hn₄ (by first | rfl | with_unfolding_all rfl | kernel_rfl) ?_) (by decide)
  refine wpAny_Name (wpAny_loadName_local (v := .ref x) rfl rfl hn₄ (by first | rfl | with_unfolding_all rfl | kernel_rfl) ?_) (by decide)
  refine set_plain X₄ (ox := excO C h₃.objs.size) (od := none) ⟨hx₄, rfl, rfl, trivial⟩ T.ox.sa ?_
  refine exc_osa X₄ hx₄ hcl (show refsVE (.ref C :: bm) = true from hbm) rfl T.noN (fun h₅ tk₅ dx k₅ dn dne hx₅ hn₅ => ?_)
  show wpAny _ _ (execs _ _) _ _ _
  refine wpAny_execs_nil (hq h₅ tk₅ dx h₃.objs.size ⟨fun b o hb e => k₅ b o hb (k₁₄ b o hb (k b o e)), hx₅, ?_, dne, hn₅⟩)
  refine Nat.le_trans ?_ dn
  have z1 : hp.objs.size < h₁.objs.size := hn.lt
  have z2 : hp.objs.size < h₄.objs.size := hn₄.lt
  exact Nat.le_of_lt z2
/-- a made NoSteps -/
structure OwnMade (h h' : Heap) (e C d : Addr) (v : Value) : Prop where
  keep : ∀ b o, h.get? b = some o → h'.get? b = some o
  new : h.objs.size ≤ e
  obj : ∃ oe vs, h'.get? e = some oe ∧ oe.cls = .ref C ∧ oe.dict = some d ∧ oe.data = .fields vs ∧ vs[1]? = some .none
  dbig : h.objs.size ≤ d
  dne : d ≠ e
  ns : h'.Ns1 d (fun y => if y = "at" then some v else none)
theorem nst_made (T : NstTxt prog K mg C fI cc cda) {v : Value} (X : K.In s.heap) (hlim : s.heap.NoLimit) (G : s.heap.Ns mainGlobals mg) (B : s.heap.Ns builtinsNs mb) (hb : mb "super" = some (.type "super")) (hroom : A.depth + 1 < recursionLimit)
    (hq : ∀ h' tk e d, OwnMade s.heap h' e C d v → R (.ok (.ret (.ref e))) { s with heap := h', toks := tk }) :
    codeAny (model prog w) A (.call (.ref C) ⟨[v], []⟩) R s := by
  obtain ⟨nm, q, N, bs, bm, sn, sub, ab, col, dd, k0, k1, k2, k3, k5, hC, hbm⟩ := T.ox.cls
  obtain ⟨hp, g, dr, tk, os⟩ := s
  have k : ∀ b o, hp.get? b = some o → ((hp.push (kdv_tup [v])).push (excO C hp.objs.size)).get? b = some o := fun b o e => Heap.get?_push_of_some _ (Heap.get?_push_of_some _ e)
  have hget : ((hp.push (kdv_tup [v])).push (excO C hp.objs.size)).get? (hp.objs.size + 1) = some (excO C hp.objs.size) := by heap_get
  have hnx : K.lookup (hp.objs.size + 1) = none := by
    cases e : K.lookup (hp.objs.size + 1) with
    | none => rfl
    | some o =>
      have z : hp.get? (hp.objs.size + 1) = some o := X _ _ e
      exact absurd (Nat.lt_of_succ_lt (Heap.lt_size z)) (Nat.lt_irrefl _)
  refine call_own F.excBase_ValueError (fun X => refsVE_contains X bm hbm) (X _ _ hC) (looks_findIn X T.iC) (fun self => bind_fn X self T.tI) (show 1 ≤ sizeLine by rw [sizeLine_eq]; decide) ?_
  refine nst_init (s := ⟨(hp.push (kdv_tup [v])).push (excO C hp.objs.size), g, dr, tk, os⟩) T (X.keeps k) (hlim.keeps k) (G.keeps k) (B.keeps k) hb hget hnx ?_ fun h' tk' dx t1 ⟨k', hx, dn, dne, hns⟩ => ?_
  · show A.depth + 1 < recursionLimit
    exact hroom
  · have old : ∀ b o, hp.get? b = some o → h'.get? b = some o := fun b o e => k' b o (Nat.ne_of_lt (Nat.lt_succ_of_lt (Heap.lt_size e))) (k b o e)
    have z : hp.objs.size + 1 + 1 ≤ dx := by
      first
        | (simpa only [Heap.size_push] using dn)
        | exact dn
        | (have q := dn; rw [Heap.size_push, Heap.size_push] at q; exact q)
    exact ⟨rfl, hq h' tk' (hp.objs.size + 1) dx ⟨old, Nat.le_succ _, ⟨_, _, hx, rfl, rfl, rfl, rfl⟩, Nat.le_trans (Nat.le_trans (Nat.le_succ _) (Nat.le_succ _)) z, dne, hns⟩⟩
end
end NstX
end PySem
namespace L2
open PySem PySem.Spec PyProof.Rows
theorem relO_nst {v : V} {v' : Value} (r : RelV v v') (f : Str) : RelO (List.lookup f [(("at" : Str), v)]) (if f = "at" then some v' else none) := by
  by_cases hw : f = "at"
  · subst hw
    rw [if_pos rfl]
    have q : List.lookup ("at" : Str) [(("at" : Str), v)] = some v := by simp [List.lookup]
    rw [q]
    exact r
  · rw [if_neg hw]
    have qw : (f == ("at" : Str)) = false := by simpa using hw
    have q2 : List.lookup f [(("at" : Str), v)] = none := by simp [List.lookup, qw]
    rw [q2]
    trivial
section
variable {X : Cx} {C fI cc cda : Addr}
/-- NoSteps(e) -/
def tMkNst (C : Addr) (ta : TA) : St → Hp → XK → Prop := fun σ H Q => ta σ H fun vs H1 => ∃ v, vs = [v] ∧ ∀ d, H1 d = none → Q (.ref C) (some d) (upd H1 d (.xd [(("at" : Str), v)]))
theorem pmk_nst {a : Expr} {ta : TA} {p pos : Pos} {k : Nat} (T : PySem.NstX.NstTxt X.prog X.K X.mg C fI cc cda) (hr : Room (k + 1) X.A) (ha : PA X [a] ta) (hg : Gl X "NoSteps" := by rfl)
    (he : starEach (a :: []) X.env = (false, eval a X.env) :: starEach [] X.env := by rfl) (hpl : (backTo pos (starEach [] X.env)).any (·.1) = false := by rfl) :
    PMk X (.Call (.Name "NoSteps" p) [a] [] pos) (tMkNst C ta) := by
  intro pins s σ H Q I h
  refine wpAny_Call_Name_kw (ld_glob I hg T.gC ?_)
  refine PySem.W.callWith_K (h₀ := X.base) I.ok.mod.kin T.ox.kC (thn (ha.run pos pins s σ H _ I h) fun us s1 hh => ?_) he hpl
  obtain ⟨vs, H1, I1, r1, v, ev, q1⟩ := hh
  subst ev
  refine ⟨I1.kIn, ?_⟩
  cases r1 with
  | cons rv rn =>
    rename_i v' us'
    cases rn
    show wpAny _ _ (call (.ref C) [v']) _ _ _
    have hlim := I1.nolimit
    have hG := I1.mod.glob.keeps I1.bk
    obtain ⟨mb, hB, hbl⟩ := I1.mod.blt
    have hB1 := hB.keeps I1.bk
    obtain ⟨hp, g, dr, tk, os⟩ := s1
    refine wpAny_call (PySem.NstX.nst_made T I1.kIn hlim hG hB1 ((hbl "super" (by decide)).trans (by first | rfl | kernel_rfl)) (by have := hr.dp; omega) fun h' tk' e d M => ?_)
    show MkP X pins σ Q (.ref e) ⟨h', g, dr, tk', os⟩
    obtain ⟨oe, fv, hoe, hc, hd, hdat, h1⟩ := M.obj
    have hns := M.ns
    obtain ⟨G', g1, g2⟩ := restrict h' fun b => decide (b ≠ e)
    have gk : ∀ b, b ≠ e → G'.get? b = h'.get? b := fun b hb => g1 b (decide_eq_true hb)
    have ge : G'.get? e = none := g2 e (by simp)
    have old : ∀ b o, hp.get? b = some o → G'.get? b = some o := fun b o q => (gk b (Nat.ne_of_lt (Nat.lt_of_lt_of_le (Heap.lt_size q) M.new))).trans (M.keep b o q)
    have ob : ObjOk X.prog X.w (upd H1 d (.xd [(("at" : Str), v)])) G' d (.xd [(("at" : Str), v)]) :=
      ⟨_, hns.at (fun o q => (gk d M.dne).trans q), fun f => relO_nst rv f⟩
    have J : Inv X pins σ (upd H1 d (.xd [(("at" : Str), v)])) ⟨G', g, dr, tk', os⟩ := I1.laid (t' := tk') old M.dbig ob
    refine ⟨e, oe, fv, ⟨G', g, dr, tk', os⟩, _, .ref C, some d, rfl, J, fun b o q => ?_, ge, hoe, ⟨hc, hd⟩, hdat, h1, ?_, rfl, I1.bare, raises_own T.ox.exC T.ox.tyC, q1 d (I1.hok.fresh M.dbig)⟩
    · by_cases hb : b = e
      · have q' : G'.get? b = some o := q
        rw [hb, ge] at q'; cases q'
      · exact (gk b hb).symm.trans q
    · rw [upd_ne (Ne.symm M.dne)]
      exact I1.hok.fresh M.new
end
end L2

set_option maxHeartbeats 0
/-! The head: the top by one kernel run, what it leaves told by names. -/
namespace RI
open PySem PySem.Spec PyProof.Rows L2
/-! ### a def as the run leaves it -/
abbrev FnR : Type := Option (Str × Str × Arguments × FuncBody × Scope × Addr × List Str × Addr)
def fnR (K : PySem.W.Frag) (a : Addr) : FnR := match K.lookup a with
  | some ⟨_, _, .func fd, _⟩ => some (fd.name, fd.qualname, fd.params, fd.body, fd.scope, fd.globals, fd.closure.map (·.1), fd.builtins)
  | _ => none
structure DefR where
  ad : PySem.W.Frag → Addr
  name : Str
  qual : Str
  st : Stmt
  kwd : List (Str × V) := []
  clo : List Str := []
def DefR.val (d : DefR) : FnR := some (d.name, d.qual, defArgs d.st, .stmts (defBody d.st), defScope d.st, mainGlobals, d.clo, builtinsNs)
def DefR.ok (K : PySem.W.Frag) (d : DefR) : Bool := PySem.W.keepIn K (.ref (d.ad K)) && (match K.lookup (d.ad K) with
  | some ⟨_, _, .func fd, _⟩ => PySem.W.codeIn K fd.code d.qual && (He.dflB K fd.defaults [] && He.kwdB K fd.kwdefaults d.kwd)
  | _ => false)
theorem b2 {a b : Bool} (h : (a && b) = true) : a = true ∧ b = true := Bool.and_eq_true_iff.mp h
theorem DefR.funD {K : PySem.W.Frag} {d : DefR} (e : fnR K (d.ad K) = d.val) (c : d.ok K = true) (hc : d.clo = []) : ∃ fd, FunD K d.name d.qual (defArgs d.st) (defBody d.st) (defScope d.st) [] d.kwd (d.ad K) fd := by
  obtain ⟨kp, c⟩ := b2 c
  unfold fnR at e
  cases q : K.lookup (d.ad K) with
  | none => rw [q] at c; cases c
  | some o =>
    obtain ⟨oc, od, dt, osl⟩ := o
    rw [q] at c e
    cases dt with
    | func fd =>
      obtain ⟨m1, m2, m3, m4, m5, m6, m7, m8, m9, m10, m11, m12, m13, m14, m15⟩ := fd
      have e' : (some (m1, m2, m3, m4, m5, m6, m7.map (·.1), m15) : FnR) = some (d.name, d.qual, defArgs d.st, .stmts (defBody d.st), defScope d.st, mainGlobals, d.clo, builtinsNs) := e
      rw [hc] at e'
      simp only [Option.some.injEq, Prod.mk.injEq, List.map_eq_nil_iff] at e'
      obtain ⟨h1, h2, h3, h4, h5, h6, h7, h8⟩ := e'
      subst h1 h2 h3 h4 h5 h6 h7 h8
      have c' : (PySem.W.codeIn K m13 d.qual && (He.dflB K m8 [] && He.kwdB K m9 d.kwd)) = true := c
      obtain ⟨k1, c'⟩ := b2 c'
      obtain ⟨k2, k3⟩ := b2 c'
      exact ⟨_, ⟨oc, od, m8, m9, m10, m11, m12, m13, m14, osl, rfl, q, k1, He.dflB_ok k2, He.kwdB_ok k3⟩, kp⟩
    | _ => cases c
/-! ### facts -/
def isSome1 (x : Option (Option Value)) (y : Value) : Bool := decide (x = some (some y))
/-- a property's getter -/
def pgA (K : PySem.W.Frag) (C : Addr) (f : Str) : Addr := match PySem.W.recIn K (He.ma K C f) "property" with
  | some (.ref g :: _) => g
  | _ => 0
def propB (C f : Str) (K : PySem.W.Frag) : Bool := isSome1 (PySem.W.findIn K (.ref (He.ga K C)) f) (.ref (He.ma K (He.ga K C) f)) && (isSome1 (PySem.W.specialIn K (.ref (He.ma K (He.ga K C) f)) "__get__") (.builtin "property.__get__") &&
  (decide (PySem.W.takesIn K (.ref (He.ma K (He.ga K C) f)) = some true) && (match PySem.W.recIn K (He.ma K (He.ga K C) f) "property" with
  | some (.ref g :: _) => true
  | _ => false)))
theorem propB_ok {C f : Str} {K : PySem.W.Frag} (h : propB C f K = true) : PropOf K (He.ga K C) f (He.ma K (He.ga K C) f) (pgA K (He.ga K C) f) := by
  obtain ⟨h1, h⟩ := b2 h
  obtain ⟨h2, h⟩ := b2 h
  obtain ⟨h3, h4⟩ := b2 h
  refine ⟨of_decide_eq_true h1, of_decide_eq_true h2, of_decide_eq_true h3, ?_⟩
  unfold pgA
  cases q : PySem.W.recIn K (He.ma K (He.ga K C) f) "property" with
  | none => rw [q] at h4; cases h4
  | some l =>
    cases l with
    | nil => rw [q] at h4; cases h4
    | cons v r =>
      cases v with
      | ref g => exact ⟨r, rfl⟩
      | _ => rw [q] at h4; cases h4
def isiB (C : Str) (K : PySem.W.Frag) : Bool := isSome1 (PySem.W.findIn K (.ref (He.ga K C)) "__class__") (.builtin "object.__class__") && (isSome1 (PySem.W.specialIn K (.builtin "object.__class__") "__get__") (.builtin "getset_descriptor.__get__") &&
  (decide (PySem.W.takesIn K (.builtin "object.__class__") = some true) && decide (PySem.W.mroIn K (He.ga K C) (.type "object") = some true)))
theorem isiB_ok {C : Str} {K : PySem.W.Frag} (h : isiB C K = true) : IsiF K (He.ga K C) := by
  obtain ⟨h1, h⟩ := b2 h
  obtain ⟨h2, h⟩ := b2 h
  obtain ⟨h3, h4⟩ := b2 h
  exact ⟨of_decide_eq_true h1, of_decide_eq_true h2, of_decide_eq_true h3, of_decide_eq_true h4⟩
def kitTB (C : Str) (K : PySem.W.Frag) : Bool := decide (PySem.W.kitOne K (.ref (He.ga K C)) (.type "int") = some false)
def kitOB (C : Str) (K : PySem.W.Frag) : Bool := decide (PySem.W.kitOne K (.ref (He.ga K C)) (.ref (He.ga K C)) = some true)
def tupD (x : Str) (K : PySem.W.Frag) : Bool := match K.lookup (He.ga K x) with
  | some ⟨.type c, none, _, _⟩ => decide (c = "tuple")
  | _ => false
theorem tupD_ok {x : Str} {K : PySem.W.Frag} (h : tupD x K = true) : ∃ o, K.lookup (He.ga K x) = some o ∧ o.cls = .type "tuple" ∧ o.dict = none := by
  unfold tupD at h
  cases q : K.lookup (He.ga K x) with
  | none => rw [q] at h; cases h
  | some o =>
    obtain ⟨oc, od, dt, osl⟩ := o
    rw [q] at h
    cases oc with
    | type c =>
      cases od with
      | none => exact ⟨_, rfl, congrArg Value.type (of_decide_eq_true h), rfl⟩
      | some a => cases h
    | _ => cases od <;> cases h
/-! ### NoSteps -/
def nstX (K : PySem.W.Frag) : Bool := match K.lookup (He.ga K "NoSteps") with
  | some ⟨.type "type", _, .cls cd, sl⟩ => (match cd.mro, sl.toList with
    | .ref C' :: bm, [_, _, _, _, some (.builtin n), _] => C' == He.ga K "NoSteps" && n == "ValueError.__new__" && !cd.hasDel && (cd.hasDict && PySem.HandSPX.refsVE bm)
    | _, _ => false)
  | _ => false
theorem nstX_ok {K : PySem.W.Frag} (q : nstX K = true) : ∃ nm q N bs bm sn sub ab col dd k0 k1 k2 k3 k5, K.lookup (He.ga K "NoSteps") = some (excClassObj nm q (He.ga K "NoSteps") N bs bm true sn sub ab col dd k0 k1 k2 k3 k5 "ValueError.__new__") ∧ PySem.HandSPX.refsVE bm = true := by
  unfold nstX at q
  split at q
  · rename_i dd cd sl ho
    split at q
    · rename_i C' bm k0 k1 k2 k3 n k5 hm hs
      simp only [Bool.and_eq_true, beq_iff_eq, Bool.not_eq_true'] at q
      obtain ⟨⟨⟨e1, rfl⟩, hdel⟩, hdi, ht⟩ := q
      obtain ⟨nm, bs, mro, ns, qn, hd, sn, sub, ab, col, del⟩ := cd
      dsimp only at hm hdel hdi
      subst hm hdel hdi
      have hsl : sl = #[k0, k1, k2, k3, some (.builtin "ValueError.__new__"), k5] := by
        obtain ⟨l⟩ := sl
        simp only at hs
        rw [hs]
      subst hsl
      subst e1
      exact ⟨nm, qn, ns, bs, bm, sn, sub, ab, col, dd, k0, k1, k2, k3, k5, ho, ht⟩
    · cases q
  · cases q
def nstC (file : Str) (K : PySem.W.Frag) : Bool := match K.lookup (He.ma K (He.ga K "NoSteps") "__init__") with
  | some ⟨_, _, .func fd, _⟩ => (match fd.code, fd.closure with
    | .ref a, [(_, cc)] => (match K.lookup a with
        | some ⟨_, _, .fields vs, _⟩ => (match (vs[2]? : Option Value) with
          | some (.str f _) => file == f
          | _ => false)
        | _ => false) && (match K.lookup cc with
        | some ⟨_, _, .cell (some (.ref D)), _⟩ => decide (D = He.ga K "NoSteps")
        | _ => false)
    | _, _ => false)
  | _ => false
def nstDef : DefR := ⟨fun K => He.ma K (He.ga K "NoSteps") "__init__", "__init__", "NoSteps.__init__", s_nst_init, [], ["__class__"]⟩
theorem nst_parts {K : PySem.W.Frag} {file : Str} (e : fnR K (nstDef.ad K) = nstDef.val) (c : nstDef.ok K = true) (n : nstC file K = true) : ∃ cc cda, (∃ (oc : Value) (od : Option Addr) (kV doc pm : Value) (an : Option Addr) (ct : Value) (osl : Array (Option Value)),
    K.lookup (He.ma K (He.ga K "NoSteps") "__init__") = some ⟨oc, od, .func (PySem.W.ksFn "__init__" "NoSteps.__init__" (defArgs s_nst_init) (defBody s_nst_init) (defScope s_nst_init) .none kV doc pm an (.ref cda) ct cc), osl⟩ ∧ PySem.W.codeIn K (.ref cda) "NoSteps.__init__" = true) ∧
    (∃ (oc : Value) (od : Option Addr) (vs : Array Value) (f : Str) (tf : Tok) (osl : Array (Option Value)), K.lookup cda = some ⟨oc, od, .fields vs, osl⟩ ∧ vs[2]? = some (.str f tf) ∧ (file == f) = true) ∧
    ∃ (oc : Value) (od : Option Addr) (osl : Array (Option Value)), K.lookup cc = some ⟨oc, od, .cell (some (.ref (He.ga K "NoSteps"))), osl⟩ := by
  obtain ⟨kp, c⟩ := b2 c
  unfold nstC at n
  unfold fnR at e
  have ed : nstDef.ad K = He.ma K (He.ga K "NoSteps") "__init__" := rfl
  rw [ed] at e c
  cases q : K.lookup (He.ma K (He.ga K "NoSteps") "__init__") with
  | none => rw [q] at n; cases n
  | some o =>
    obtain ⟨oc, od, dt, osl⟩ := o
    rw [q] at c e n
    cases dt with
    | func fd =>
      obtain ⟨m1, m2, m3, m4, m5, m6, m7, m8, m9, m10, m11, m12, m13, m14, m15⟩ := fd
      have e' : (some (m1, m2, m3, m4, m5, m6, m7.map (·.1), m15) : FnR) = (some ("__init__", "NoSteps.__init__", defArgs s_nst_init, .stmts (defBody s_nst_init), defScope s_nst_init, mainGlobals, ["__class__"], builtinsNs) : FnR) := e
      simp only [Option.some.injEq, Prod.mk.injEq] at e'
      obtain ⟨h1, h2, h3, h4, h5, h6, h7, h8⟩ := e'
      have c' : (PySem.W.codeIn K m13 "NoSteps.__init__" && (He.dflB K m8 [] && He.kwdB K m9 [])) = true := c
      obtain ⟨k1, c'⟩ := b2 c'
      obtain ⟨k2, k3⟩ := b2 c'
      have d8 : m8 = .none := by
        rcases He.dflB_ok k2 with ⟨_, z⟩ | ⟨z, _⟩
        · exact z
        · exact absurd rfl z
      dsimp only at n
      cases m13 with
      | ref a =>
        cases m7 with
        | nil => cases h7
        | cons p l =>
          obtain ⟨pn, cc⟩ := p
          cases l with
          | cons p2 l2 => cases h7
          | nil =>
            have h7' : pn = "__class__" := by
              simp only [List.map_cons, List.map_nil, List.cons.injEq] at h7
              exact h7.1
            subst h1 h2 h3 h4 h5 h6 h7' h8 d8
            obtain ⟨n1, n2⟩ := b2 n
            refine ⟨cc, a, ⟨oc, od, m9, m10, m11, m12, m14, osl, rfl, k1⟩, ?_, ?_⟩
            · split at n1
              · rename_i oc2 od2 vs osl2 ho2
                split at n1
                · rename_i f tf hf
                  exact ⟨oc2, od2, vs, f, tf, osl2, ho2, hf, n1⟩
                · cases n1
              · cases n1
            · split at n2
              · rename_i oc2 od2 D osl2 ho2
                have eD := of_decide_eq_true n2
                subst eD
                exact ⟨oc2, od2, osl2, ho2⟩
              · cases n2
      | _ => cases n
    | _ => cases n
def fac (f : He.Fa) (K : PySem.W.Frag) : Bool := f.ok K
/-! ### the Hook -/
abbrev AlR : Type := Bool × List FnR
def obsR (fa : List (PySem.W.Frag → Bool)) (fn : List DefR) (K : PySem.W.Frag) : AlR := ((fa.all fun f => f K) && fn.all fun d => d.ok K, fn.map fun d => fnR K (d.ad K))
def valR (fn : List DefR) : AlR := (true, fn.map DefR.val)
def SaysR (fa : List (PySem.W.Frag → Bool)) (fn : List DefR) (K : PySem.W.Frag) : Prop := obsR fa fn K = valR fn
/-- what an object names: a def its code, keyword defaults, cells; a class its names; a property its getter -/
def refR (v : Value) : List Addr := match v with
  | .ref a => [a]
  | _ => []
def refsR (o : Obj) : List Addr := match o.data with
  | .func fd => refR fd.code ++ refR fd.kwdefaults ++ fd.closure.map (·.2)
  | .cls cd => [cd.ns]
  | .dict es _ => es.toList.flatMap fun e => refR e.val
  | .fields vs => (match o.cls with
    | .type "property" => vs.toList.flatMap refR
    | _ => [])
  | _ => []
def nextR (g : Addr → Option Obj) (as : List Addr) : List Addr := as.flatMap fun a => match g a with
  | some o => refsR o
  | none => []
def asR (g : Addr → Option Obj) : Nat → List Addr → List Addr
  | 0, as => as
  | n + 1, as => as ++ asR g n (nextR g as)
def obsRG (n : Nat) (fa : List (PySem.W.Frag → Bool)) (fn : List DefR) (g : Addr → Option Obj) : AlR := obsR fa fn (He.frG g (cStatics :: asR g n [mainGlobals]))
def hookR (n : Nat) (fa : List (PySem.W.Frag → Bool)) (fn : List DefR) : PySem.W.Hook where
  α := AlR
  obs := fun s => obsRG n fa fn s.heap.get?
  val := fun _ => valR fn
  says := fun _ h => ∃ K : PySem.W.Frag, K.In h ∧ SaysR fa fn K
  of := fun _ _ e => ⟨_, He.frG_in, e⟩
  keeps := fun _ _ _ ⟨K, hK, c⟩ k => ⟨K, PySem.W.Frag.In.keeps hK k, c⟩
section
variable {fa : List (PySem.W.Frag → Bool)} {fn : List DefR} {K : PySem.W.Frag}
theorem SaysR.fact (c : SaysR fa fn K) (i : Nat) {f : PySem.W.Frag → Bool} (h : fa[i]? = some f := by rfl) : f K = true := by
  have z : ((fa.all fun f => f K) && fn.all fun d => d.ok K) = true := congrArg (fun z : AlR => z.1) c
  exact List.all_eq_true.mp (b2 z).1 f (List.mem_of_getElem? h)
theorem SaysR.def_ (c : SaysR fa fn K) (i : Nat) {d : DefR} (h : fn[i]? = some d := by rfl) (hc : d.clo = [] := by rfl) : ∃ fd, FunD K d.name d.qual (defArgs d.st) (defBody d.st) (defScope d.st) [] d.kwd (d.ad K) fd := by
  have z : ((fa.all fun f => f K) && fn.all fun d => d.ok K) = true := congrArg (fun z : AlR => z.1) c
  have e : (fn.map fun d => fnR K (d.ad K))[i]? = (fn.map DefR.val)[i]? := by rw [show fn.map (fun d => fnR K (d.ad K)) = fn.map DefR.val from congrArg (fun z : AlR => z.2) c]
  rw [List.getElem?_map, List.getElem?_map, h] at e
  exact DefR.funD (Option.some.inj e) (List.all_eq_true.mp (b2 z).2 d (List.mem_of_getElem? h)) hc
theorem SaysR.fnG (c : SaysR fa fn K) {h : Heap} {mg : Str → Option Value} (X : K.In h) (G : h.Ns mainGlobals mg) (i j : Nat) {x : Str} {st : Stmt} (hi : fn[i]? = some ⟨fun K => He.ga K x, x, x, st, [], []⟩ := by rfl) (hj : fa[j]? = some (fac (.glo x)) := by rfl) : FunG K mg x st := by
  obtain ⟨fd, F⟩ := c.def_ i hi
  exact ⟨_, fd, F, He.glo_ok X G (c.fact j hj)⟩
theorem SaysR.fnI (c : SaysR fa fn K) {h : Heap} {mg : Str → Option Value} (X : K.In h) (G : h.Ns mainGlobals mg) (i j l : Nat) {x q : Str} {st : Stmt} {kw : List (Str × V)} (hi : fn[i]? = some ⟨fun K => He.ma K (He.ga K x) "__init__", "__init__", q, st, kw, []⟩ := by rfl)
    (hj : fa[j]? = some (fac (.glo x)) := by rfl) (hl : fa[l]? = some (fac (.mkr x)) := by rfl) : FunI K mg (He.ga K x) x q st kw := by
  obtain ⟨fd, F⟩ := c.def_ i hi
  exact ⟨_, fd, F, He.mkr_ok (c.fact l hl), He.glo_ok X G (c.fact j hj)⟩
theorem SaysR.fnM (c : SaysR fa fn K) (i l : Nat) {x m q : Str} {st : Stmt} (hi : fn[i]? = some ⟨fun K => He.ma K (He.ga K x) m, m, q, st, [], []⟩ := by rfl) (hl : fa[l]? = some (fac (.meth x m)) := by rfl) : FunM K (He.ga K x) m q st := by
  obtain ⟨fd, F⟩ := c.def_ i hi
  exact ⟨_, fd, F, He.meth_ok (c.fact l hl)⟩
theorem SaysR.fnP (c : SaysR fa fn K) (i l : Nat) {x m q : Str} {st : Stmt} (hi : fn[i]? = some ⟨fun K => pgA K (He.ga K x) m, m, q, st, [], []⟩ := by rfl) (hl : fa[l]? = some (propB x m) := by rfl) : FunP K (He.ga K x) m q st := by
  obtain ⟨fd, F⟩ := c.def_ i hi
  exact ⟨_, _, fd, F, propB_ok (c.fact l hl)⟩
end
end RI

set_option maxHeartbeats 0
/-! The head: the top by one kernel run, what it leaves told by names. -/
namespace RI
open PySem PySem.Spec PyProof.Rows L2
theorem SaysR.raw {fa : List (PySem.W.Frag → Bool)} {fn : List DefR} {K : PySem.W.Frag} (c : SaysR fa fn K) (i : Nat) {d : DefR} (h : fn[i]? = some d := by rfl) : fnR K (d.ad K) = d.val ∧ d.ok K = true := by
  have z : ((fa.all fun f => f K) && fn.all fun d => d.ok K, fn.map fun d => fnR K (d.ad K)) = (true, fn.map DefR.val) := c
  have z1 : ((fa.all fun f => f K) && fn.all fun d => d.ok K) = true := congrArg (fun z : AlR => z.1) z
  have z2 : fn.map (fun d => fnR K (d.ad K)) = fn.map DefR.val := congrArg (fun z : AlR => z.2) z
  have e : (fn.map fun d => fnR K (d.ad K))[i]? = (fn.map DefR.val)[i]? := by rw [z2]
  rw [List.getElem?_map, List.getElem?_map, h] at e
  exact ⟨Option.some.inj e, List.all_eq_true.mp (b2 z1).2 d (List.mem_of_getElem? h)⟩
def nC (K : PySem.W.Frag) : Addr := He.ga K "NoSteps"
def nI (K : PySem.W.Frag) : Addr := He.ma K (He.ga K "NoSteps") "__init__"
def ns1 (K : PySem.W.Frag) : Bool := decide (PySem.W.findIn K (.ref (nC K)) "__setattr__" = some (some (.builtin "object.__setattr__")))
def ns2 (K : PySem.W.Frag) : Bool := decide (PySem.W.subIn K (.ref (nC K)) (.type "BaseException") = some true)
def ns3 (K : PySem.W.Frag) : Bool := decide (PySem.W.typeIn K (.ref (nC K)) = some (.type "type"))
def ns4 (K : PySem.W.Frag) : Bool := PySem.W.keepIn K (.ref (nC K))
def ns5 (K : PySem.W.Frag) : Bool := decide (PySem.W.findIn K (.ref (nC K)) "at" = some none)
def ns6 (K : PySem.W.Frag) : Bool := decide (PySem.W.findIn K (.ref (nC K)) "__init__" = some (some (.ref (nI K))))
def ns7 (K : PySem.W.Frag) : Bool := decide (PySem.W.typeIn K (.ref (nI K)) = some (.type "function"))
def ns8 (K : PySem.W.Frag) : Bool := decide (PySem.W.mroIn K (nC K) (.ref (nC K)) = some true)
def ns9 (K : PySem.W.Frag) : Bool := decide (PySem.W.nsIn K cStatics "thirdparty.any" = some none)
def ns10 (K : PySem.W.Frag) : Bool := decide (PySem.W.ks_superIn K (nC K) (nC K) "__init__" = some (some (.builtin "ValueError.__init__")))
def ns11 (K : PySem.W.Frag) : Bool := decide (PySem.W.subIn K (.ref (nC K)) (.type "ValueError") = some true)
def ns12 (K : PySem.W.Frag) : Bool := xfB K (nC K)
def ns13 (K : PySem.W.Frag) : Bool := decide (PySem.W.exmOne K (.ref (nC K)) (.ref (nC K)) = some true)
def ns14 (K : PySem.W.Frag) : Bool := nstC PySem.Challenge.pw_ringindexes_k72_whole_putters_beside_slo.main.file K
def fa0 : List (PySem.W.Frag → Bool) := [
  fac (.glo "is_whole"),
  fac (.glo "is_between"),
  fac (.glo "is_size"),
  fac (.glo "row_of"),
  fac (.glo "copy_of"),
  fac (.glo "is_word"),
  fac (.glo "is_part_form"),
  fac (.glo "is_wrap"),
  fac (.glo "is_slot"),
  fac (.glo "is_full_rule"),
  fac (.glo "way_of"),
  fac (.glo "modulus_at"),
  fac (.glo "has_outside"),
  fac (.glo "mask_gap"),
  fac (.glo "gap_at"),
  fac (.glo "room_at"),
  fac (.glo "alike_at"),
  fac (.glo "window_at"),
  fac (.glo "cause_at"),
  fac (.glo "breaking_run"),
  fac (.glo "verdict_of"),
  fac (.glo "shared_verdict"),
  fac (.glo "look_at_many"),
  fac (.glo "look_at_switches"),
  fac (.glo "look_at_start"),
  fac (.glo "_law_mixed"),
  fac (.glo "_law_pool"),
  fac (.glo "_law_draw"),
  fac (.glo "_law_wide"),
  fac (.glo "_law_made")]
def fa1 : List (PySem.W.Frag → Bool) := [
  fac (.glo "_law_modulus"),
  fac (.glo "_law_slot"),
  fac (.glo "_law_room"),
  fac (.glo "_law_window"),
  fac (.glo "_law_due"),
  fac (.glo "_law_good"),
  fac (.glo "_law_right_size"),
  fac (.glo "_law_counter_row"),
  fac (.glo "_law_game"),
  fac (.glo "_law_cell_of"),
  fac (.glo "_law_put_step"),
  fac (.glo "_law_take_step"),
  fac (.glo "_law_step"),
  fac (.glo "_law_refused"),
  fac (.glo "law"),
  fac (.glo "Form"),
  fac (.mkr "Form"),
  fac (.glo "Scheme"),
  fac (.mkr "Scheme"),
  fac (.glo "Verdict"),
  fac (.mkr "Verdict"),
  fac (.glo "PutterSide"),
  fac (.mkr "PutterSide"),
  fac (.glo "Putters"),
  fac (.mkr "Putters"),
  fac (.meth "Putters" "step"),
  fac (.meth "Putters" "waits"),
  fac (.meth "Putters" "act"),
  fac (.meth "Putters" "step_taker"),
  fac (.meth "Verdict" "__bool__")]
def fa2 : List (PySem.W.Frag → Bool) := [
  propB "Scheme" "wrap",
  propB "Scheme" "slot",
  propB "Scheme" "empty",
  propB "Scheme" "full",
  propB "Scheme" "when",
  propB "Verdict" "room",
  propB "Putters" "broken",
  propB "Putters" "levels",
  propB "Putters" "steps",
  fac (.cls "Form"),
  fac (.noat "Form" "slope"),
  fac (.noat "Form" "base"),
  fac (.cls "Scheme"),
  fac (.noat "Scheme" "own_wrap"),
  fac (.noat "Scheme" "own_slot"),
  fac (.noat "Scheme" "own_empty"),
  fac (.noat "Scheme" "own_full"),
  fac (.noat "Scheme" "own_when"),
  fac (.cls "Verdict"),
  fac (.noat "Verdict" "own_cause"),
  fac (.noat "Verdict" "own_room"),
  fac (.noat "Verdict" "own_window"),
  fac (.noat "Verdict" "own_run"),
  fac (.cls "PutterSide"),
  fac (.noat "PutterSide" "place"),
  fac (.noat "PutterSide" "own_number"),
  fac (.cls "Putters"),
  fac (.noat "Putters" "limit"),
  fac (.noat "Putters" "in_turn"),
  fac (.noat "Putters" "cycle")]
def fa3 : List (PySem.W.Frag → Bool) := [
  fac (.noat "Putters" "sides"),
  fac (.noat "Putters" "letters"),
  fac (.noat "Putters" "taker_place"),
  fac (.noat "Putters" "numbers_given"),
  fac (.noat "Putters" "told"),
  fac (.noat "Putters" "gone"),
  fac (.noat "Putters" "open_numbers"),
  fac (.noat "Putters" "made"),
  fac (.noat "Putters" "found"),
  isiB "Form",
  kitTB "Form",
  kitOB "Form",
  fac (.free "isinstance"),
  fac (.free "int"),
  fac (.free "bool"),
  fac (.free "str"),
  fac (.free "tuple"),
  fac (.free "len"),
  fac (.free "list"),
  fac (.free "range"),
  fac (.int "LARGEST" (10 ^ 30)),
  fac (.int "WIDEST" (100)),
  fac (.int "FARTHEST" (10 ^ 40)),
  fac (.glo "PUTTERS"),
  (fun K => He.tupB K "PUTTERS" [.str "a", .str "b", .str "c", .str "d"]),
  tupD "PUTTERS",
  ns1,
  ns2,
  ns3,
  ns4]
def fa4 : List (PySem.W.Frag → Bool) := [
  ns5,
  ns6,
  ns7,
  ns8,
  ns9,
  ns10,
  ns11,
  ns12,
  ns13,
  ns14,
  nstX,
  fac (.glo "NoSteps"),
  fac (.free "super")]
def fa : List (PySem.W.Frag → Bool) := fa0 ++ (fa1 ++ (fa2 ++ (fa3 ++ (fa4))))
def fn0 : List (DefR) := [
  ⟨fun K => He.ga K "is_whole", "is_whole", "is_whole", s_is_whole, [], []⟩,
  ⟨fun K => He.ga K "is_between", "is_between", "is_between", s_is_between, [], []⟩,
  ⟨fun K => He.ga K "is_size", "is_size", "is_size", s_is_size, [], []⟩,
  ⟨fun K => He.ga K "row_of", "row_of", "row_of", s_row_of, [], []⟩,
  ⟨fun K => He.ga K "copy_of", "copy_of", "copy_of", s_copy_of, [], []⟩,
  ⟨fun K => He.ga K "is_word", "is_word", "is_word", s_is_word, [], []⟩,
  ⟨fun K => He.ga K "is_part_form", "is_part_form", "is_part_form", s_is_part_form, [], []⟩,
  ⟨fun K => He.ga K "is_wrap", "is_wrap", "is_wrap", s_is_wrap, [], []⟩,
  ⟨fun K => He.ga K "is_slot", "is_slot", "is_slot", s_is_slot, [], []⟩,
  ⟨fun K => He.ga K "is_full_rule", "is_full_rule", "is_full_rule", s_is_full_rule, [], []⟩,
  ⟨fun K => He.ga K "way_of", "way_of", "way_of", s_way_of, [], []⟩,
  ⟨fun K => He.ga K "modulus_at", "modulus_at", "modulus_at", s_modulus_at, [], []⟩,
  ⟨fun K => He.ga K "has_outside", "has_outside", "has_outside", s_has_outside, [], []⟩,
  ⟨fun K => He.ga K "mask_gap", "mask_gap", "mask_gap", s_mask_gap, [], []⟩,
  ⟨fun K => He.ga K "gap_at", "gap_at", "gap_at", s_gap_at, [], []⟩,
  ⟨fun K => He.ga K "room_at", "room_at", "room_at", s_room_at, [], []⟩,
  ⟨fun K => He.ga K "alike_at", "alike_at", "alike_at", s_alike_at, [], []⟩,
  ⟨fun K => He.ga K "window_at", "window_at", "window_at", s_window_at, [], []⟩,
  ⟨fun K => He.ga K "cause_at", "cause_at", "cause_at", s_cause_at, [], []⟩,
  ⟨fun K => He.ga K "breaking_run", "breaking_run", "breaking_run", s_breaking_run, [], []⟩,
  ⟨fun K => He.ga K "verdict_of", "verdict_of", "verdict_of", s_verdict_of, [], []⟩,
  ⟨fun K => He.ga K "shared_verdict", "shared_verdict", "shared_verdict", s_shared_verdict, [], []⟩,
  ⟨fun K => He.ga K "look_at_many", "look_at_many", "look_at_many", s_look_at_many, [], []⟩,
  ⟨fun K => He.ga K "look_at_switches", "look_at_switches", "look_at_switches", s_look_at_switches, [], []⟩,
  ⟨fun K => He.ga K "look_at_start", "look_at_start", "look_at_start", s_look_at_start, [], []⟩,
  ⟨fun K => He.ga K "_law_mixed", "_law_mixed", "_law_mixed", s_law_mixed, [], []⟩,
  ⟨fun K => He.ga K "_law_pool", "_law_pool", "_law_pool", s_law_pool, [], []⟩,
  ⟨fun K => He.ga K "_law_draw", "_law_draw", "_law_draw", s_law_draw, [], []⟩,
  ⟨fun K => He.ga K "_law_wide", "_law_wide", "_law_wide", s_law_wide, [], []⟩,
  ⟨fun K => He.ga K "_law_made", "_law_made", "_law_made", s_law_made, [], []⟩]
def fn1 : List (DefR) := [
  ⟨fun K => He.ga K "_law_modulus", "_law_modulus", "_law_modulus", s_law_modulus, [], []⟩,
  ⟨fun K => He.ga K "_law_slot", "_law_slot", "_law_slot", s_law_slot, [], []⟩,
  ⟨fun K => He.ga K "_law_room", "_law_room", "_law_room", s_law_room, [], []⟩,
  ⟨fun K => He.ga K "_law_window", "_law_window", "_law_window", s_law_window, [], []⟩,
  ⟨fun K => He.ga K "_law_due", "_law_due", "_law_due", s_law_due, [], []⟩,
  ⟨fun K => He.ga K "_law_good", "_law_good", "_law_good", s_law_good, [], []⟩,
  ⟨fun K => He.ga K "_law_right_size", "_law_right_size", "_law_right_size", s_law_right_size, [], []⟩,
  ⟨fun K => He.ga K "_law_counter_row", "_law_counter_row", "_law_counter_row", s_law_counter_row, [], []⟩,
  ⟨fun K => He.ga K "_law_game", "_law_game", "_law_game", s_law_game, [], []⟩,
  ⟨fun K => He.ga K "_law_cell_of", "_law_cell_of", "_law_cell_of", s_law_cell_of, [], []⟩,
  ⟨fun K => He.ga K "_law_put_step", "_law_put_step", "_law_put_step", s_law_put_step, [], []⟩,
  ⟨fun K => He.ga K "_law_take_step", "_law_take_step", "_law_take_step", s_law_take_step, [], []⟩,
  ⟨fun K => He.ga K "_law_step", "_law_step", "_law_step", s_law_step, [], []⟩,
  ⟨fun K => He.ga K "_law_refused", "_law_refused", "_law_refused", s_law_refused, [], []⟩,
  ⟨fun K => He.ga K "law", "law", "law", s_law, [], []⟩,
  ⟨fun K => He.ma K (He.ga K "Form") "__init__", "__init__", "Form.__init__", s_form_init, [], []⟩,
  ⟨fun K => He.ma K (He.ga K "Scheme") "__init__", "__init__", "Scheme.__init__", s_scheme_init, [("when", .str "refuse")], []⟩,
  ⟨fun K => He.ma K (He.ga K "Verdict") "__init__", "__init__", "Verdict.__init__", s_verdict_init, [], []⟩,
  ⟨fun K => He.ma K (He.ga K "PutterSide") "__init__", "__init__", "PutterSide.__init__", s_side_init, [], []⟩,
  ⟨fun K => He.ma K (He.ga K "Putters") "__init__", "__init__", "Putters.__init__", s_putters_init, [("tell", .str "turn"), ("test", .str "one"), ("at", .int 0)], []⟩,
  ⟨fun K => He.ma K (He.ga K "Putters") "step", "step", "Putters.step", s_step, [], []⟩,
  ⟨fun K => He.ma K (He.ga K "Putters") "waits", "waits", "Putters.waits", s_waits, [], []⟩,
  ⟨fun K => He.ma K (He.ga K "Putters") "act", "act", "Putters.act", s_act, [], []⟩,
  ⟨fun K => He.ma K (He.ga K "Putters") "step_taker", "step_taker", "Putters.step_taker", s_step_taker, [], []⟩,
  ⟨fun K => He.ma K (He.ga K "Verdict") "__bool__", "__bool__", "Verdict.__bool__", s_verdict_bool, [], []⟩,
  ⟨fun K => pgA K (He.ga K "Scheme") "wrap", "wrap", "Scheme.wrap", s_g_wrap, [], []⟩,
  ⟨fun K => pgA K (He.ga K "Scheme") "slot", "slot", "Scheme.slot", s_g_slot, [], []⟩,
  ⟨fun K => pgA K (He.ga K "Scheme") "empty", "empty", "Scheme.empty", s_g_empty, [], []⟩,
  ⟨fun K => pgA K (He.ga K "Scheme") "full", "full", "Scheme.full", s_g_full, [], []⟩,
  ⟨fun K => pgA K (He.ga K "Scheme") "when", "when", "Scheme.when", s_g_when, [], []⟩]
def fn2 : List (DefR) := [
  ⟨fun K => pgA K (He.ga K "Verdict") "room", "room", "Verdict.room", s_g_room, [], []⟩,
  ⟨fun K => pgA K (He.ga K "Putters") "broken", "broken", "Putters.broken", s_g_broken, [], []⟩,
  ⟨fun K => pgA K (He.ga K "Putters") "levels", "levels", "Putters.levels", s_g_levels, [], []⟩,
  ⟨fun K => pgA K (He.ga K "Putters") "steps", "steps", "Putters.steps", s_g_steps, [], []⟩,
  nstDef]
def fn : List (DefR) := fn0 ++ (fn1 ++ (fn2))
def names0 : List PySem.Str := ["_wall", "__name__", "RingError", "NoForm", "NoScheme", "NoSize", "NoRun", "NotDecided", "NotRight", "NoHands", "NoSteps", "DIGITS", "LARGEST", "is_whole", "is_between", "is_size", "digits_in", "signed_in", "Form", "operand_of", "sign_of", "show_form", "slope_in", "form_in", "PARTS", "HEADS", "WIDEST", "Scheme", "row_of", "copy_of"]
def names1 : List PySem.Str := ["is_word", "is_part_form", "is_wrap", "is_slot", "is_full_rule", "show_full", "show_scheme", "full_in", "scheme_in", "way_of", "modulus_at", "has_outside", "mask_gap", "gap_at", "room_at", "WORDS", "MOST_TIMES", "MOST_PIECES", "Run", "run_of", "look_at", "is_piece", "rows_of", "times_of", "rows_in", "alike_at", "window_at", "cause_at", "breaking_run", "Verdict"]
def names2 : List PySem.Str := ["verdict_of", "PUTTERS", "FARTHEST", "shared_verdict", "look_at_many", "look_at_switches", "look_at_start", "PutterSide", "Putters", "_law_mixed", "_law_pool", "_law_draw", "_law_wide", "_law_made", "_law_modulus", "_law_slot", "_law_room", "_law_window", "_law_due", "_law_good", "_law_right_size", "_law_counter_row", "_law_game", "_law_cell_of", "_law_put_step", "_law_take_step", "_law_step", "_law_refused"]
def names : List PySem.Str := names0 ++ names1 ++ names2
abbrev R : PySem.W.OpenRow := PySem.W.OpenLaw.row PySem.Challenge.rw_ringindexes_k72_whole_putters_beside_slo
abbrev hk : PySem.W.Hook := hookR 5 fa fn
def ob (s : PySem.W.SharedT) : AlR := obsRG 5 fa fn (HandSHeadRun.getT s)
theorem ob_eq (s : PySem.W.SharedT) : ob s = hk.obs s.abs := by
  have e : HandSHeadRun.getT s = s.abs.heap.get? := funext (HandSHeadRun.getT_eq s)
  show obsRG 5 fa fn (HandSHeadRun.getT s) = obsRG 5 fa fn s.abs.heap.get?
  rw [e]
theorem run (w : World) : HandSHeadRun.RunEq R (PySem.W.view R.prog [99]) hk ob 40000 names w := by
  intro os
  kernel_rfl
theorem txt {K : PySem.W.Frag} {h : Heap} {mg : Str → Option Value} (X : K.In h) (G : h.Ns mainGlobals mg) (c : SaysR fa fn K) : Txt K mg where
  f_is_whole := c.fnG X G 0 0
  f_is_between := c.fnG X G 1 1
  f_is_size := c.fnG X G 2 2
  f_row_of := c.fnG X G 3 3
  f_copy_of := c.fnG X G 4 4
  f_is_word := c.fnG X G 5 5
  f_is_part_form := c.fnG X G 6 6
  f_is_wrap := c.fnG X G 7 7
  f_is_slot := c.fnG X G 8 8
  f_is_full_rule := c.fnG X G 9 9
  f_way_of := c.fnG X G 10 10
  f_modulus_at := c.fnG X G 11 11
  f_has_outside := c.fnG X G 12 12
  f_mask_gap := c.fnG X G 13 13
  f_gap_at := c.fnG X G 14 14
  f_room_at := c.fnG X G 15 15
  f_alike_at := c.fnG X G 16 16
  f_window_at := c.fnG X G 17 17
  f_cause_at := c.fnG X G 18 18
  f_breaking_run := c.fnG X G 19 19
  f_verdict_of := c.fnG X G 20 20
  f_shared_verdict := c.fnG X G 21 21
  f_look_at_many := c.fnG X G 22 22
  f_look_at_switches := c.fnG X G 23 23
  f_look_at_start := c.fnG X G 24 24
  f_law_mixed := c.fnG X G 25 25
  f_law_pool := c.fnG X G 26 26
  f_law_draw := c.fnG X G 27 27
  f_law_wide := c.fnG X G 28 28
  f_law_made := c.fnG X G 29 29
  f_law_modulus := c.fnG X G 30 30
  f_law_slot := c.fnG X G 31 31
  f_law_room := c.fnG X G 32 32
  f_law_window := c.fnG X G 33 33
  f_law_due := c.fnG X G 34 34
  f_law_good := c.fnG X G 35 35
  f_law_right_size := c.fnG X G 36 36
  f_law_counter_row := c.fnG X G 37 37
  f_law_game := c.fnG X G 38 38
  f_law_cell_of := c.fnG X G 39 39
  f_law_put_step := c.fnG X G 40 40
  f_law_take_step := c.fnG X G 41 41
  f_law_step := c.fnG X G 42 42
  f_law_refused := c.fnG X G 43 43
  f_law := c.fnG X G 44 44
  i_Form := c.fnI X G 45 45 46
  i_Scheme := c.fnI X G 46 47 48
  i_Verdict := c.fnI X G 47 49 50
  i_PutterSide := c.fnI X G 48 51 52
  i_Putters := c.fnI X G 49 53 54
  m_step := c.fnM 50 55
  m_waits := c.fnM 51 56
  m_act := c.fnM 52 57
  m_step_taker := c.fnM 53 58
  m_verdict_bool := c.fnM 54 59
  p_g_wrap := c.fnP 55 60
  p_g_slot := c.fnP 56 61
  p_g_empty := c.fnP 57 62
  p_g_full := c.fnP 58 63
  p_g_when := c.fnP 59 64
  p_g_room := c.fnP 60 65
  p_g_broken := c.fnP 61 66
  p_g_levels := c.fnP 62 67
  p_g_steps := c.fnP 63 68
  c_Form := He.cls_ok (c.fact 69)
  mg_Form := He.glo_ok X G (c.fact 45)
  n_Form_slope := He.noat_ok (c.fact 70)
  n_Form_base := He.noat_ok (c.fact 71)
  c_Scheme := He.cls_ok (c.fact 72)
  mg_Scheme := He.glo_ok X G (c.fact 47)
  n_Scheme_own_wrap := He.noat_ok (c.fact 73)
  n_Scheme_own_slot := He.noat_ok (c.fact 74)
  n_Scheme_own_empty := He.noat_ok (c.fact 75)
  n_Scheme_own_full := He.noat_ok (c.fact 76)
  n_Scheme_own_when := He.noat_ok (c.fact 77)
  c_Verdict := He.cls_ok (c.fact 78)
  mg_Verdict := He.glo_ok X G (c.fact 49)
  n_Verdict_own_cause := He.noat_ok (c.fact 79)
  n_Verdict_own_room := He.noat_ok (c.fact 80)
  n_Verdict_own_window := He.noat_ok (c.fact 81)
  n_Verdict_own_run := He.noat_ok (c.fact 82)
  c_PutterSide := He.cls_ok (c.fact 83)
  mg_PutterSide := He.glo_ok X G (c.fact 51)
  n_PutterSide_place := He.noat_ok (c.fact 84)
  n_PutterSide_own_number := He.noat_ok (c.fact 85)
  c_Putters := He.cls_ok (c.fact 86)
  mg_Putters := He.glo_ok X G (c.fact 53)
  n_Putters_limit := He.noat_ok (c.fact 87)
  n_Putters_in_turn := He.noat_ok (c.fact 88)
  n_Putters_cycle := He.noat_ok (c.fact 89)
  n_Putters_sides := He.noat_ok (c.fact 90)
  n_Putters_letters := He.noat_ok (c.fact 91)
  n_Putters_taker_place := He.noat_ok (c.fact 92)
  n_Putters_numbers_given := He.noat_ok (c.fact 93)
  n_Putters_told := He.noat_ok (c.fact 94)
  n_Putters_gone := He.noat_ok (c.fact 95)
  n_Putters_open_numbers := He.noat_ok (c.fact 96)
  n_Putters_made := He.noat_ok (c.fact 97)
  n_Putters_found := He.noat_ok (c.fact 98)
  isF := isiB_ok (c.fact 99)
  kFi := of_decide_eq_true (c.fact 100 (f := kitTB "Form"))
  kFF := of_decide_eq_true (c.fact 101 (f := kitOB "Form"))
  b_isinstance := He.free_ok X G (c.fact 102)
  b_int := He.free_ok X G (c.fact 103)
  b_bool := He.free_ok X G (c.fact 104)
  b_str := He.free_ok X G (c.fact 105)
  b_tuple := He.free_ok X G (c.fact 106)
  b_len := He.free_ok X G (c.fact 107)
  b_list := He.free_ok X G (c.fact 108)
  b_range := He.free_ok X G (c.fact 109)
  v_LARGEST := He.int_ok X G (c.fact 110)
  v_WIDEST := He.int_ok X G (c.fact 111)
  v_FARTHEST := He.int_ok X G (c.fact 112)
  v_PUTTERS := He.glo_ok X G (c.fact 113)
  t_PUTTERS := fun H => He.tupB_ok (x := "PUTTERS") (vs := [.str "a", .str "b", .str "c", .str "d"]) (c.fact 114 (f := fun K => He.tupB K "PUTTERS" [.str "a", .str "b", .str "c", .str "d"])) H
  k_PUTTERS := tupD_ok (c.fact 115)
end RI

set_option maxHeartbeats 4000000
/-! Short words over the facts. -/
namespace RI
open PySem PySem.Spec PyProof.Rows L2
section
variable {X : Cx} {a b c : Expr} {ta tb tc : TE} {p pos : Pos}
theorem pe_tyInt (T : Txt X.K X.mg) (hg : Gl X "int" := by rfl) : PE X (.Name "int" pos) (tC (.ty "int")) := pe_bltn hg T.b_int (by decide +kernel) rfl
theorem pe_tyBool (T : Txt X.K X.mg) (hg : Gl X "bool" := by rfl) : PE X (.Name "bool" pos) (tC (.ty "bool")) := pe_bltn hg T.b_bool (by decide +kernel) rfl
theorem pe_tyStr (T : Txt X.K X.mg) (hg : Gl X "str" := by rfl) : PE X (.Name "str" pos) (tC (.ty "str")) := pe_bltn hg T.b_str (by decide +kernel) rfl
theorem pe_tyTuple (T : Txt X.K X.mg) (hg : Gl X "tuple" := by rfl) : PE X (.Name "tuple" pos) (tC (.ty "tuple")) := pe_bltn hg T.b_tuple (by decide +kernel) rfl
theorem pe_clsForm (T : Txt X.K X.mg) (hg : Gl X "Form" := by rfl) : PE X (.Name "Form" pos) (tC (.ref (aForm X.K))) := pe_glob hg T.mg_Form rfl
theorem pe_isi (T : Txt X.K X.mg) (ha : PE X a ta) (hb : PE X b tb) (hg : Gl X "isinstance" := by rfl)
    (h1 : starEach [a, b] X.env = (false, eval a X.env) :: starEach [b] X.env := by rfl) (h2 : starEach [b] X.env = (false, eval b X.env) :: starEach [] X.env := by rfl) (hpl : (backTo pos (starEach [b] X.env)).any (·.1) = false := by rfl) :
    PE X (.Call (.Name "isinstance" p) [a, b] [] pos) (tCB (rIsi X.K) (tCons ta (tCons tb tNil))) :=
  pe_callB call_isi hg T.b_isinstance (by decide +kernel) (pa_cons ha (pa_cons hb pa_nil h2) h1) (he := h1) (hpl := hpl)
def rInt : List V → Hp → VK → Prop := fun xs H Q => (∃ i, xs = [.int i] ∧ Q (.int i) H) ∨ ∃ k, xs = [.bl k] ∧ Q (.int (if k then 1 else 0)) H
theorem pe_int1 (T : Txt X.K X.mg) (ha : PE X a ta) (hg : Gl X "int" := by rfl) (h1 : starEach [a] X.env = (false, eval a X.env) :: starEach [] X.env := by rfl) (hpl : (backTo pos (starEach [] X.env)).any (·.1) = false := by rfl) :
    PE X (.Call (.Name "int" p) [a] [] pos) (tCB rInt (tCons ta tNil)) :=
  pe_callTy call_int1 hg T.b_int (by decide +kernel) (pa_cons ha pa_nil h1) (he := h1) (hpl := hpl)
def rLen (K : PySem.W.Frag) : List V → Hp → VK → Prop := fun xs H Q => ∃ p ys, xs = [.ref p] ∧ (SqL K H p ys ∨ SqT K H p ys) ∧ Q (.int ys.length) H
theorem pe_len1 (T : Txt X.K X.mg) (ha : PE X a ta) (hg : Gl X "len" := by rfl) (h1 : starEach [a] X.env = (false, eval a X.env) :: starEach [] X.env := by rfl) (hpl : (backTo pos (starEach [] X.env)).any (·.1) = false := by rfl) :
    PE X (.Call (.Name "len" p) [a] [] pos) (tCB (rLen X.K) (tCons ta tNil)) :=
  pe_callB call_len_seq hg T.b_len PySem.boot_len (pa_cons ha pa_nil h1) (he := h1) (hpl := hpl)
end
/-! ### readings of isinstance -/
section
variable {K : PySem.W.Frag} {H : Hp} {Q : VK}
theorem ri_ii {i : Int} (q : Q (.bl true) H) : rIsi K [.int i, .ty "int"] H Q := ⟨_, _, _, _, true, rfl, .ty _, .base (.int _), kit_ty (by decide +kernel), q⟩
theorem ri_ib {i : Int} (q : Q (.bl false) H) : rIsi K [.int i, .ty "bool"] H Q := ⟨_, _, _, _, false, rfl, .ty _, .base (.int _), kit_ty (by decide +kernel), q⟩
theorem ri_is {i : Int} (q : Q (.bl false) H) : rIsi K [.int i, .ty "str"] H Q := ⟨_, _, _, _, false, rfl, .ty _, .base (.int _), kit_ty (by decide +kernel), q⟩
theorem ri_ss {x : Str} (q : Q (.bl true) H) : rIsi K [.str x, .ty "str"] H Q := ⟨_, _, _, _, true, rfl, .ty _, .base (.str _), kit_ty (by decide +kernel), q⟩
theorem ri_it {i : Int} (q : Q (.bl false) H) : rIsi K [.int i, .ty "tuple"] H Q := ⟨_, _, _, _, false, rfl, .ty _, .base (.int _), kit_ty (by decide +kernel), q⟩
theorem ri_tt {a : Addr} {xs : List V} (h : H a = some (.tup xs)) (q : Q (.bl true) H) : rIsi K [.ref a, .ty "tuple"] H Q := ⟨_, _, _, _, true, rfl, .ty _, .base (.tup h), kit_ty (by decide +kernel), q⟩
theorem ri_Fi {mg : Str → Option Value} (T : Txt K mg) {a dx : Addr} {fs : List (Str × V)} (h : H a = some (.ins (aForm K) dx fs)) (q : Q (.bl false) H) : rIsi K [.ref a, .ty "int"] H Q :=
  ⟨_, _, _, _, false, rfl, .ty _, .base (.ins h T.c_Form T.isF.ha T.isF.hn T.isF.ht T.isF.hm), T.kFi, q⟩
theorem ri_FF {mg : Str → Option Value} (T : Txt K mg) {a dx : Addr} {fs : List (Str × V)} (h : H a = some (.ins (aForm K) dx fs)) (q : Q (.bl true) H) : rIsi K [.ref a, .ref (aForm K)] H Q :=
  ⟨_, _, _, _, true, rfl, .own _, .base (.ins h T.c_Form T.isF.ha T.isF.hn T.isF.ht T.isF.hm), T.kFF, q⟩
end
end RI

set_option maxHeartbeats 4000000
namespace RI
open PySem PySem.Spec PyProof.Rows L2
local macro_rules | `(tactic| walk_at "rd") => `(tactic| dsimp only [tVar, tC, t2I, tOp, tUn, rI, rI0, rU, tCmp, tB, tAnd, tOr, tNot, tAndV, tOrV, tNotV, tIf, tNext, tSeq, tDrop, tRet, tRetN, tIfS, gName, gNil, gCons, gTup, gSub, tAsg, tPar, tAug, ipI, iList, iTup, iRng1, iRng2, tTest, tChain, rEq, rNe, tFld, sFld, tNil, tCons, tTup, tLst, tCall, tMeth, tMake, tCB, tSl, tPart, tNoPart, tProp, tMakeK, rIxL, rIxT])
section
variable {P : Program} {w : World} {K : PySem.W.Frag} {mg : Str → Option Value} {base : Heap}
/-! ### is_whole, is_between, is_size -/
def sp_is_whole (K : PySem.W.Frag) : Sp := fun vs H Q _ => (∃ i : Int, vs = [.int i] ∧ Q (.bl true) H) ∨ ∃ (a dx : Addr) (fs : List (Str × V)), vs = [.ref a] ∧ H a = some (.ins (aForm K) dx fs) ∧ Q (.bl false) H
theorem ok_is_whole (T : Txt K mg) : Glb P w K mg base 1 "is_whole" p_is_whole (sp_is_whole K) := by
  refine T.f_is_whole.ok sc_is_whole (fun vs H Q E h => ?_) (fun _ _ _ _ _ _ us hl => match us, hl with | [_], _ => rfl) fun cdv A outer s H vs Q E f hr h => ?_
  · rcases h with ⟨i, rfl, _⟩ | ⟨a, dx, fs, rfl, _⟩ <;> rfl
  · refine ⟨_, pss_one (ps_ret (pe_and (pe_isi T (pv 0) (pe_tyInt T)) (pe_one (pe_not (pe_isi T (pv 0) (pe_tyBool T)))))), ?_⟩
    walk_at "rd"
    rcases h with ⟨i, rfl, q⟩ | ⟨a, dx, fs, rfl, ha, q⟩
    · exact ⟨_, rfl, ri_ii ⟨_, rfl, if_t rfl ⟨_, rfl, ri_ib ⟨_, rfl, q⟩⟩⟩⟩
    · exact ⟨_, rfl, ri_Fi T ha ⟨_, rfl, if_f rfl q⟩⟩
def sp_is_between (K : PySem.W.Frag) : Sp := fun vs H Q _ => (∃ i lo hi : Int, vs = [.int i, .int lo, .int hi] ∧ Q (.bl (decide (lo ≤ i) && decide (i ≤ hi))) H) ∨
  ∃ (a dx : Addr) (fs : List (Str × V)) (lo hi : Int), vs = [.ref a, .int lo, .int hi] ∧ H a = some (.ins (aForm K) dx fs) ∧ Q (.bl false) H
theorem ok_is_between (T : Txt K mg) : Glb P w K mg base 2 "is_between" p_is_between (sp_is_between K) := by
  refine T.f_is_between.ok sc_is_between (fun vs H Q E h => ?_) (fun _ _ _ _ _ _ us hl => match us, hl with | [_, _, _], _ => rfl) fun cdv A outer s H vs Q E f hr h => ?_
  · rcases h with ⟨i, lo, hi, rfl, _⟩ | ⟨a, dx, fs, lo, hi, rfl, _⟩ <;> rfl
  · refine ⟨_, pss_one (ps_ret (pe_and (pe_callG (ok_is_whole T) hr (pa_cons (pv 0) pa_nil)) (pe_one (pe_chain op_le op_le (pv 1) (pv 0) (pv 2))))), ?_⟩
    walk_at "rd"
    rcases h with ⟨i, lo, hi, rfl, q⟩ | ⟨a, dx, fs, lo, hi, rfl, ha, q⟩
    · refine ⟨_, rfl, .inl ⟨_, rfl, _, rfl, if_t rfl ⟨_, rfl, _, rfl, _, _, rfl, rfl, _, rfl, ?_⟩⟩⟩
      refine if_d (fun h => ⟨_, rfl, _, _, rfl, rfl, ?_⟩) (fun h => ?_)
      · rw [decide_eq_true h, Bool.true_and] at q
        exact q
      · rw [decide_eq_false h, Bool.false_and] at q
        exact q
    · exact ⟨_, rfl, .inr ⟨_, _, _, rfl, ha, _, rfl, if_f rfl q⟩⟩
def sp_is_size (K : PySem.W.Frag) : Sp := fun vs H Q _ => ∃ i : Int, vs = [.int i] ∧ Q (.bl (decide (1 ≤ i) && decide (i ≤ 10 ^ 30))) H
theorem ok_is_size (T : Txt K mg) : Glb P w K mg base 3 "is_size" p_is_size (sp_is_size K) := by
  refine T.f_is_size.ok sc_is_size (fun vs H Q E h => ?_) (fun _ _ _ _ _ _ us hl => match us, hl with | [_], _ => rfl) fun cdv A outer s H vs Q E f hr h => ?_
  · obtain ⟨i, rfl, _⟩ := h
    rfl
  · obtain ⟨tk, hL⟩ := T.v_LARGEST
    refine ⟨_, pss_one (ps_ret (pe_callG (ok_is_between T) hr (pa_cons (pv 0) (pa_cons pe_int (pa_cons (pe_glob (v := .int (10 ^ 30)) rfl hL ⟨_, rfl⟩) pa_nil))))), ?_⟩
    obtain ⟨i, rfl, q⟩ := h
    exact ⟨_, rfl, .inl ⟨_, _, _, rfl, q⟩⟩
end
end RI

set_option maxHeartbeats 4000000
namespace RI
open PySem PySem.Spec PyProof.Rows L2
local macro_rules | `(tactic| walk_at "rd") => `(tactic| dsimp only [tVar, tC, t2I, tOp, tUn, rI, rI0, rU, tCmp, tB, tAnd, tOr, tNot, tAndV, tOrV, tNotV, tIf, tNext, tSeq, tDrop, tRet, tRetN, tIfS, gName, gNil, gCons, gTup, gSub, tAsg, tPar, tAug, ipI, iList, iTup, iRng1, iRng2, tTest, tChain, rEq, rNe, tFld, sFld, tNil, tCons, tTup, tLst, tCall, tMeth, tMake, tCB, tSl, tPart, tNoPart, tProp, tMakeK, tMakeN, rIxL, rIxT, rSetL, tBM, tBM0, rAppend, rCat, C8.tCut, tYes])
/-! ### what a scheme is made of -/
inductive RTurn where
  | form (a b : Int)
  | width (w : Int)
  deriving DecidableEq
inductive RBrim where
  | next
  | lim (op : Str) (a b : Int)
  deriving DecidableEq
structure Row where
  turn : RTurn
  rule : Str
  brim : RBrim
  deriving DecidableEq
def formF (a b : Int) : List (Str × V) := [("slope", .int a), ("base", .int b)]
theorem formF_slope (a b : Int) : (formF a b).lookup ("slope" : Str) = some (.int a) := by kernel_rfl
theorem formF_base (a b : Int) : (formF a b).lookup ("base" : Str) = some (.int b) := by kernel_rfl
theorem formF_put (a b : Int) : putF "base" (.int b) (putF "slope" (.int a) []) = formF a b := by kernel_rfl
def FormAt (K : PySem.W.Frag) (H : Hp) (v : V) (a b : Int) : Prop := ∃ f dx, v = .ref f ∧ H f = some (.ins (aForm K) dx (formF a b))
def WrapAt (K : PySem.W.Frag) (H : Hp) (v : V) : RTurn → Prop
  | .form a b => FormAt K H v a b
  | .width n => v = .int n
def FullAt (K : PySem.W.Frag) (H : Hp) (v : V) : RBrim → Prop
  | .next => ∃ t, v = .ref t ∧ H t = some (.tup [.str "next"])
  | .lim op a b => ∃ t vf, v = .ref t ∧ H t = some (.tup [.str "diff", .str op, vf]) ∧ FormAt K H vf a b
theorem FormAt.same {K : PySem.W.Frag} {H H' : Hp} {v : V} {a b : Int} (s : Same H H') (h : FormAt K H v a b) : FormAt K H' v a b := by
  obtain ⟨f, dx, e, h⟩ := h
  exact ⟨f, dx, e, s _ _ h⟩
theorem WrapAt.same {K : PySem.W.Frag} {H H' : Hp} {v : V} {t : RTurn} (s : Same H H') (h : WrapAt K H v t) : WrapAt K H' v t := by
  cases t with
  | form a b => exact FormAt.same s h
  | width n => exact h
theorem FullAt.same {K : PySem.W.Frag} {H H' : Hp} {v : V} {t : RBrim} (s : Same H H') (h : FullAt K H v t) : FullAt K H' v t := by
  cases t with
  | next =>
    obtain ⟨t, e, h⟩ := h
    exact ⟨t, e, s _ _ h⟩
  | lim op a b =>
    obtain ⟨t, vf, e, h, h2⟩ := h
    exact ⟨t, vf, e, s _ _ h, h2.same s⟩
/-- the numbers that a scheme may bear -/
def GoodNum (a b : Int) : Prop := 0 ≤ a ∧ a ≤ 4 ∧ -20 ≤ b ∧ b ≤ 20
def GoodTurn : RTurn → Prop
  | .form a b => GoodNum a b
  | .width n => 1 ≤ n ∧ n ≤ 100
def GoodBrim : RBrim → Prop
  | .next => True
  | .lim op a b => (op = "=" ∨ op = ">=") ∧ GoodNum a b
section
variable {P : Program} {w : World} {K : PySem.W.Frag} {mg : Str → Option Value} {base : Heap}
def sp_form_init (K : PySem.W.Frag) : Sp := fun vs H Q _ => ∃ (x dx : Addr) (a b : Int), vs = [.ref x, .int a, .int b] ∧ H x = some (.ins (aForm K) dx []) ∧ Q .non (upd H x (.ins (aForm K) dx (formF a b)))
theorem ok_form_init (T : Txt K mg) : MkOk P w K mg base 2 "Form" (aForm K) p_form_init (sp_form_init K) := by
  refine T.i_Form.ok sc_form_init (fun vs H Q E h => ?_) (fun _ _ _ _ _ _ us hl => match us, hl with | [_, _, _], _ => rfl) fun cdv A outer s H vs Q E f hr h => ?_
  · obtain ⟨x, dx, a, b, rfl, _⟩ := h
    rfl
  · refine ⟨_, pss_cons (ps_if (pw_or (pt_not (pt_val (pe_callG (ok_is_whole T) hr (pa_cons (pv 1) pa_nil)))) (pw_or1 (pt_not (pt_val (pe_callG (ok_is_whole T) hr (pa_cons (pv 2) pa_nil)))))).pt pss_never pss_nil)
      (pss_cons (ps_fld (pv 0) (pv 1) rfl) (pss_one (ps_fld (pv 0) (pv 2) rfl))), ?_⟩
    walk_at "rd"
    obtain ⟨x, dx, a, b, rfl, hx, q⟩ := h
    refine ⟨_, rfl, .inl ⟨_, rfl, _, rfl, if_f rfl ⟨_, rfl, .inl ⟨_, rfl, _, rfl, if_f rfl ?_⟩⟩⟩⟩
    refine ⟨_, rfl, _, rfl, _, _, _, _, rfl, hx, T.c_Form, T.n_Form_slope, (by show 0 < 1000; decide), ?_⟩
    refine ⟨_, rfl, _, rfl, _, _, _, _, rfl, upd_same, T.c_Form, T.n_Form_base, (by show 1 < 1000; decide), ?_⟩
    rw [upd_upd, formF_put]
    exact q
def sp_is_word (K : PySem.W.Frag) : Sp := fun vs H Q _ => ∃ (x : V) (p : Addr) (xs : List V), vs = [x, .ref p] ∧ (SqL K H p xs ∨ SqT K H p xs) ∧ xs.all flatV = true ∧ ((∃ s : Str, x = .str s ∧ Q (.bl (inV (.str s) xs)) H) ∨ ∃ i : Int, x = .int i ∧ Q (.bl false) H)
theorem ok_is_word (T : Txt K mg) : Glb P w K mg base 1 "is_word" p_is_word (sp_is_word K) := by
  refine T.f_is_word.ok sc_is_word (fun vs H Q E h => ?_) (fun _ _ _ _ _ _ us hl => match us, hl with | [_, _], _ => rfl) fun cdv A outer s H vs Q E f hr h => ?_
  · obtain ⟨x, p, xs, rfl, _⟩ := h
    rfl
  · refine ⟨_, pss_one (ps_ret (pe_and (pe_isi T (pv 0) (pe_tyStr T)) (pe_one (pe_cmpR op_in_seq (pv 0) (pv 1) rfl)))), ?_⟩
    walk_at "rd"
    obtain ⟨x, p, xs, rfl, hp, hf, h⟩ := h
    rcases h with ⟨s, rfl, q⟩ | ⟨i, rfl, q⟩
    · exact ⟨_, rfl, ri_ss ⟨_, rfl, if_t rfl ⟨_, rfl, _, rfl, p, xs, rfl, hp, rfl, hf, q⟩⟩⟩
    · exact ⟨_, rfl, ri_is ⟨_, rfl, if_f rfl q⟩⟩
/-- the call over a tuple just laid -/
theorem word_t {K : PySem.W.Frag} {H : Hp} {Q : VK} {E : XK} {s : Str} {p : Addr} {xs : List V} (hf : xs.all flatV = true) (hv : inV (.str s) xs = true) (q : Q (.bl true) (upd H p (.tup xs))) : sp_is_word K [.str s, .ref p] (upd H p (.tup xs)) Q E :=
  ⟨_, _, xs, rfl, .inr (SqT.of upd_same), hf, .inl ⟨s, rfl, by rw [hv]; exact q⟩⟩
def sp_is_part_form (K : PySem.W.Frag) : Sp := fun vs H Q _ => ∃ (v : V) (a b : Int), vs = [v] ∧ FormAt K H v a b ∧ GoodNum a b ∧ Q (.bl true) H
theorem ok_is_part_form (T : Txt K mg) : Glb P w K mg base 1 "is_part_form" p_is_part_form (sp_is_part_form K) := by
  refine T.f_is_part_form.ok sc_is_part_form (fun vs H Q E h => ?_) (fun _ _ _ _ _ _ us hl => match us, hl with | [_], _ => rfl) fun cdv A outer s H vs Q E f hr h => ?_
  · obtain ⟨v, a, b, rfl, _⟩ := h
    rfl
  · refine ⟨_, pss_one (ps_ret (pe_and (pe_isi T (pv 0) (pe_clsForm T)) (pe_and (pe_chain op_le op_le pe_int (pe_fld (pv 0) rfl) pe_int) (pe_one (pe_chain op_le op_le (pe_un un_neg pe_int) (pe_fld (pv 0) rfl) pe_int))))), ?_⟩
    walk_at "rd"
    obtain ⟨v, a, b, rfl, ⟨fa, dx, rfl, hx⟩, ⟨h1, h2, h3, h4⟩, q⟩ := h
    refine ⟨_, rfl, ri_FF T hx ⟨_, rfl, if_t rfl ?_⟩⟩
    refine ⟨_, rfl, _, _, _, _, _, rfl, hx, T.c_Form, T.n_Form_slope, formF_slope a b, _, _, rfl, rfl, _, rfl, if_t (decide_eq_true h1) ⟨_, _, rfl, rfl, _, rfl, if_t (decide_eq_true h2) ?_⟩⟩
    refine ⟨_, rfl, _, rfl, _, _, _, _, _, rfl, hx, T.c_Form, T.n_Form_base, formF_base a b, _, _, rfl, rfl, _, rfl, if_t (decide_eq_true h3) ⟨_, _, rfl, rfl, ?_⟩⟩
    rw [decide_eq_true h4]
    exact q
def sp_is_wrap (K : PySem.W.Frag) : Sp := fun vs H Q _ => ∃ (v : V) (t : RTurn), vs = [v] ∧ WrapAt K H v t ∧ GoodTurn t ∧ Q (.bl true) H
theorem ok_is_wrap (T : Txt K mg) : Glb P w K mg base 3 "is_wrap" p_is_wrap (sp_is_wrap K) := by
  refine T.f_is_wrap.ok sc_is_wrap (fun vs H Q E h => ?_) (fun _ _ _ _ _ _ us hl => match us, hl with | [_], _ => rfl) fun cdv A outer s H vs Q E f hr h => ?_
  · obtain ⟨v, t, rfl, _⟩ := h
    rfl
  · obtain ⟨tk, hW⟩ := T.v_WIDEST
    refine ⟨_, pss_one (ps_ret (pe_or (pe_callG (ok_is_between T) hr (pa_cons (pv 0) (pa_cons pe_int (pa_cons (pe_glob (v := .int 100) rfl hW ⟨_, rfl⟩) pa_nil)))) (pe_one (pe_callG (ok_is_part_form T) (hr.mono (by decide)) (pa_cons (pv 0) pa_nil))))), ?_⟩
    walk_at "rd"
    obtain ⟨v, t, rfl, hw, hg, q⟩ := h
    cases t with
    | form a b =>
      obtain ⟨fa, dx, rfl, hx⟩ := id hw
      exact ⟨_, rfl, .inr ⟨_, _, _, _, _, rfl, hx, _, rfl, if_f rfl ⟨_, rfl, _, a, b, rfl, hw, hg, q⟩⟩⟩
    | width n =>
      obtain rfl : v = .int n := hw
      obtain ⟨h1, h2⟩ := hg
      exact ⟨_, rfl, .inl ⟨_, _, _, rfl, _, rfl, if_t (by rw [decide_eq_true h1, decide_eq_true h2]; rfl) q⟩⟩
def sp_is_slot (K : PySem.W.Frag) : Sp := fun vs H Q _ => ∃ (r : Str) (v : V) (t : RTurn), vs = [.str r, v] ∧ WrapAt K H v t ∧ (r = "rest" ∨ r = "off" ∨ (r = "mask" ∧ ∃ n, t = .width n)) ∧ ∀ H', Same H H' → Q (.bl true) H'
theorem ok_is_slot (T : Txt K mg) : Glb P w K mg base 2 "is_slot" p_is_slot (sp_is_slot K) := by
  refine T.f_is_slot.ok sc_is_slot (fun vs H Q E h => ?_) (fun _ _ _ _ _ _ us hl => match us, hl with | [_, _], _ => rfl) fun cdv A outer s H vs Q E f hr h => ?_
  · obtain ⟨r, v, t, rfl, _⟩ := h
    rfl
  · refine ⟨_, pss_one (ps_ret (pe_and (pe_callG (ok_is_word T) hr (pa_cons (pv 0) (pa_cons (pe_tup (pa_cons pe_str (pa_cons pe_str (pa_cons pe_str pa_nil)))) pa_nil)))
      (pe_one (pe_or (pe_cmpR op_ne (pv 0) pe_str (nomark _)) (pe_one (pe_callG (ok_is_whole T) hr (pa_cons (pv 1) pa_nil))))))), ?_⟩
    walk_at "rd"
    obtain ⟨r, v, t, rfl, hw, hr, q⟩ := h
    refine ⟨_, rfl, (by show 3 ≤ sizeLine; decide), fun p hp => ?_⟩
    have hs : Same H (upd H p (.tup [.str "rest", .str "off", .str "mask"])) := Same.new hp
    refine word_t (by decide +kernel) (by rcases hr with rfl | rfl | ⟨rfl, _⟩ <;> decide +kernel) ⟨_, rfl, if_t rfl ⟨_, rfl, rfl, _, rfl, ?_⟩⟩
    rcases hr with rfl | rfl | ⟨rfl, n, rfl⟩
    · exact if_t (by decide +kernel) (q _ hs)
    · exact if_t (by decide +kernel) (q _ hs)
    · obtain rfl : v = .int n := hw
      exact if_f (by decide +kernel) ⟨_, rfl, .inl ⟨_, rfl, q _ hs⟩⟩
end
end RI

set_option maxHeartbeats 4000000
namespace RI
open PySem PySem.Spec PyProof.Rows L2
local macro_rules | `(tactic| walk_at "rd") => `(tactic| dsimp only [tVar, tC, t2I, tOp, tUn, rI, rI0, rU, tCmp, tB, tAnd, tOr, tNot, tAndV, tOrV, tNotV, tIf, tNext, tSeq, tDrop, tRet, tRetN, tIfS, gName, gNil, gCons, gTup, gSub, tAsg, tPar, tAug, ipI, iList, iTup, iRng1, iRng2, tTest, tChain, rEq, rNe, tFld, sFld, tNil, tCons, tTup, tLst, tCall, tMeth, tMake, tCB, tSl, tPart, tNoPart, tProp, tMakeK, tMakeN, rIxL, rIxT, rSetL, tBM, tBM0, rAppend, rCat, C8.tCut, tYes])
structure MkKOk (P : Program) (w : World) (K : PySem.W.Frag) (mg : Str → Option Value) (base : Heap) (k : Nat) (cn : Str) (C : Addr) (n : Nat) (ks ps : List Str) (sp : Sp) : Prop where
  ex : ∃ f fd g, FnOk P w K mg base CX0 k f fd ps sp ∧ Mk K C f ∧ mg cn = some (.ref C) ∧ KBn K fd ps n ks g (fun vs zs => vs ++ zs)
section
variable {P : Program} {w : World} {K : PySem.W.Frag} {mg : Str → Option Value} {base : Heap}
theorem FunI.okK {C : Addr} {cn qual : Str} {st : Stmt} {N ps : List Str} {k : Nat} {sp : Sp} {kws : List (Str × V)} (F : FunI K mg C cn qual st kws) (S : FnScope N ps (defScope st)) (len : ∀ vs H Q E, sp vs H Q E → vs.length = ps.length) (n : Nat) (ks : List Str) (hk : kws ≠ [])
    (hb : ∀ (D : Addr) (doc pm : Value) (an : Option Addr) (cdv ct : Value) (us ws : List Value), us.length = n → ws.length = ks.length → bindArgs (PySem.W.fnOf "__init__" qual (defArgs st) (defBody st) (defScope st) .none (.ref D) doc pm an cdv ct) ⟨us, ks.zip ws⟩ = pure (ps.zip (us ++ ws)))
    (b : Body P w K mg base N qual st k sp) : MkKOk P w K mg base (k + 1) cn C n ks ps sp := by
  obtain ⟨f, fd, F, hm, hc⟩ := F.ex
  obtain ⟨mv, B⟩ := F.kbinds0 (ps := ps) n ks [] (fun vs _ zs => vs ++ zs) hk (fun q hq => by cases hq) (fun r1 _ r3 => r1.append r3) fun D doc pm an cdv ct us mv ws l1 l2 l3 => by
    have e : mv = [] := List.eq_nil_of_length_eq_zero l2
    subst e
    exact hb D doc pm an cdv ct us ws l1 l3
  refine ⟨f, fd, _, F.ok S len (fun cdv A outer s H vs Q E hr hsp => ?_), hm, hc, B⟩
  obtain ⟨t, h, q⟩ := b cdv A outer s H vs Q E f hr hsp
  exact ⟨t, h.nox, q⟩
theorem pe_mkK0 {X : Cx} {k : Nat} {C : Addr} {cn : Str} {ks ps : List Str} {sp : Sp} {p pos : Pos} {kws : List Keyword} {tk : TA} (G : MkKOk X.prog X.w X.K X.mg X.base k cn C 1 ks ps sp) (hr : Room (k + 1) X.A) (hkw : PK X kws tk) (hg : Gl X cn := by rfl)
    (hall : (backToKw pos (keywordEach kws X.env)).all (·.1.isSome) = true := by rfl) (hks : (backToKw pos (keywordEach kws X.env)).filterMap (·.1) = ks := by rfl) (hdb : (cn == ("__debug__" : Str)) = false := by decide)
    (hpl : ((backTo pos (starEach [] X.env)).any (·.1) || (backToKw pos (keywordEach kws X.env)).any (·.1.isNone)) = false := by rfl) :
    PE X (.Call (.Name cn p) [] kws pos) (tMakeK C 0 ks.length sp (fun vs zs => vs ++ zs) E0 tNil tk) := by
  obtain ⟨f, fd, g, F, hm, hc, B⟩ := G.ex
  exact pe_makeK0 hm F hr hg hc B pass0 hkw hall hks hdb hpl
theorem pe_mkK {X : Cx} {k n : Nat} {C : Addr} {cn : Str} {ks ps : List Str} {sp : Sp} {p pos : Pos} {e : Expr} {es : List Expr} {kws : List Keyword} {t tk : TA} (G : MkKOk X.prog X.w X.K X.mg X.base k cn C (n + 1) ks ps sp) (hr : Room (k + 1) X.A) (ha : PA X (e :: es) t) (hkw : PK X kws tk) (hg : Gl X cn := by rfl)
    (hall : (backToKw pos (keywordEach kws X.env)).all (·.1.isSome) = true := by rfl) (hks : (backToKw pos (keywordEach kws X.env)).filterMap (·.1) = ks := by rfl) (hdb : (cn == ("__debug__" : Str)) = false := by decide)
    (he : starEach (e :: es) X.env = (false, eval e X.env) :: starEach es X.env := by rfl) (hpl : ((backTo pos (starEach (e :: es) X.env)).any (·.1) || (backToKw pos (keywordEach kws X.env)).any (·.1.isNone)) = false := by rfl) :
    PE X (.Call (.Name cn p) (e :: es) kws pos) (tMakeK C n ks.length sp (fun vs zs => vs ++ zs) E0 t tk) := by
  obtain ⟨f, fd, g, F, hm, hc, B⟩ := G.ex
  exact pe_makeK hm F hr hg hc B pass0 ha hkw hall hks hdb he hpl
def sp_is_full_rule (K : PySem.W.Frag) : Sp := fun vs H Q _ => ∃ (v : V) (b : RBrim), vs = [v] ∧ FullAt K H v b ∧ GoodBrim b ∧ ∀ H', Same H H' → Q (.bl true) H'
theorem ok_is_full_rule (T : Txt K mg) : Glb P w K mg base 2 "is_full_rule" p_is_full_rule (sp_is_full_rule K) := by
  refine T.f_is_full_rule.ok sc_is_full_rule (fun vs H Q E h => ?_) (fun _ _ _ _ _ _ us hl => match us, hl with | [_], _ => rfl) fun cdv A outer s H vs Q E f hr h => ?_
  · obtain ⟨v, b, rfl, _⟩ := h
    rfl
  · refine ⟨_, pss_cons (ps_if (pw_or (pt_not (pt_val (pe_isi T (pv 0) (pe_tyTuple T)))) (pw_or1 (pt_cmpR op_notIn_seq (pe_len1 T (pv 0)) (pe_tup (pa_cons pe_int (pa_cons pe_int pa_nil))) rfl))).pt pss_never pss_nil)
      (pss_cons (ps_if (pt_cmpR op_eq (pe_len1 T (pv 0)) pe_int (nomark _)) (pss_one (ps_ret (pe_callG (ok_is_word T) hr (pa_cons (pe_ix ix_tup (pv 0) pe_int (fun _ _ => rfl)) (pa_cons (pe_tup (pa_cons pe_str (pa_cons pe_str pa_nil))) pa_nil))))) pss_nil)
      (pss_one (ps_ret (pe_and (pe_callG (ok_is_word T) hr (pa_cons (pe_ix ix_tup (pv 0) pe_int (fun _ _ => rfl)) (pa_cons (pe_tup (pa_cons pe_str (pa_cons pe_str pa_nil))) pa_nil)))
        (pe_and (pe_callG (ok_is_word T) hr (pa_cons (pe_ix ix_tup (pv 0) pe_int (fun _ _ => rfl)) (pa_cons (pe_tup (pa_cons pe_str (pa_cons pe_str pa_nil))) pa_nil)))
        (pe_one (pe_callG (ok_is_part_form T) hr (pa_cons (pe_ix ix_tup (pv 0) pe_int (fun _ _ => rfl)) pa_nil)))))))), ?_⟩
    walk_at "rd"
    obtain ⟨v, b, rfl, hf, hg, q⟩ := h
    cases b with
    | next =>
      obtain ⟨t, rfl, ht⟩ := hf
      refine ⟨_, rfl, ri_tt ht ⟨_, rfl, if_f rfl ⟨_, rfl, t, _, rfl, .inr (SqT.of ht), (by show 2 ≤ sizeLine; decide), fun p hp => ?_⟩⟩⟩
      have s1 : Same H (upd H p (.tup [.int 1, .int 3])) := Same.new hp
      refine ⟨p, [.int 1, .int 3], rfl, .inr (SqT.of upd_same), rfl, rfl, false, rfl, if_f rfl ?_⟩
      refine ⟨_, rfl, t, _, rfl, .inr (SqT.of (s1 _ _ ht)), rfl, true, rfl, if_t rfl ?_⟩
      refine ⟨_, rfl, t, _, 0, _, rfl, rfl, SqT.of (s1 _ _ ht), rfl, (by show 2 ≤ sizeLine; decide), fun p2 hp2 => ?_⟩
      have s2 := s1.trans (Same.new (o := .tup [.str "next", .str "note"]) hp2)
      exact word_t (by decide +kernel) (by decide +kernel) (q _ s2)
    | lim op a b =>
      obtain ⟨t, vf, rfl, ht, hF⟩ := hf
      obtain ⟨hop, hn⟩ := hg
      refine ⟨_, rfl, ri_tt ht ⟨_, rfl, if_f rfl ⟨_, rfl, t, _, rfl, .inr (SqT.of ht), (by show 2 ≤ sizeLine; decide), fun p hp => ?_⟩⟩⟩
      have s1 : Same H (upd H p (.tup [.int 1, .int 3])) := Same.new hp
      refine ⟨p, [.int 1, .int 3], rfl, .inr (SqT.of upd_same), rfl, rfl, false, rfl, if_f rfl ?_⟩
      refine ⟨_, rfl, t, _, rfl, .inr (SqT.of (s1 _ _ ht)), rfl, false, rfl, if_f rfl ?_⟩
      refine ⟨_, rfl, t, _, 0, _, rfl, rfl, SqT.of (s1 _ _ ht), rfl, (by show 2 ≤ sizeLine; decide), fun p2 hp2 => ?_⟩
      have s2 := s1.trans (Same.new (o := .tup [.str "diff", .str "count"]) hp2)
      refine word_t (by decide +kernel) (by decide +kernel) ⟨_, rfl, if_t rfl ?_⟩
      refine ⟨_, rfl, t, _, 1, _, rfl, rfl, SqT.of (s2 _ _ ht), rfl, (by show 2 ≤ sizeLine; decide), fun p3 hp3 => ?_⟩
      have s3 := s2.trans (Same.new (o := .tup [.str "=", .str ">="]) hp3)
      refine word_t (by decide +kernel) (by rcases hop with rfl | rfl <;> decide +kernel) ⟨_, rfl, if_t rfl ?_⟩
      exact ⟨_, rfl, t, _, 2, _, rfl, rfl, SqT.of (s3 _ _ ht), rfl, _, a, b, rfl, hF.same s3, hn, q _ s3⟩
/-! ### Scheme(..) -/
def schF (vw vs ve vf vm : V) : List (Str × V) := [("own_wrap", vw), ("own_slot", vs), ("own_empty", ve), ("own_full", vf), ("own_when", vm)]
theorem schF_put (vw vs ve vf vm : V) : putF "own_when" vm (putF "own_full" vf (putF "own_empty" ve (putF "own_slot" vs (putF "own_wrap" vw [])))) = schF vw vs ve vf vm := by kernel_rfl
/-- a scheme by counters that refuses stands at sc -/
def SchemeAt (K : PySem.W.Frag) (H : Hp) (sc : Addr) (r : Row) : Prop := ∃ dx vw vf, H sc = some (.ins (aScheme K) dx (schF vw (.str r.rule) (.str "same") vf (.str "refuse"))) ∧ WrapAt K H vw r.turn ∧ FullAt K H vf r.brim
theorem SchemeAt.same {H H' : Hp} {sc : Addr} {r : Row} (s : Same H H') (h : SchemeAt K H sc r) : SchemeAt K H' sc r := by
  obtain ⟨dx, vw, vf, h, h1, h2⟩ := h
  exact ⟨dx, vw, vf, s _ _ h, h1.same s, h2.same s⟩
structure GoodRow (r : Row) : Prop where
  turn : GoodTurn r.turn
  rule : r.rule = "rest" ∨ r.rule = "off" ∨ (r.rule = "mask" ∧ ∃ n, r.turn = .width n)
  brim : GoodBrim r.brim
abbrev ksScheme : List Str := ["wrap", "slot", "empty", "full", "when"]
def sp_scheme_init (K : PySem.W.Frag) : Sp := fun vs H Q _ => ∃ (x dx : Addr) (vw vf : V) (r : Row), vs = [.ref x, vw, .str r.rule, .str "same", vf, .str "refuse"] ∧ H x = some (.ins (aScheme K) dx []) ∧ WrapAt K H vw r.turn ∧ FullAt K H vf r.brim ∧ GoodRow r ∧
  ∀ H', Keep [x] H H' → H' x = some (.ins (aScheme K) dx (schF vw (.str r.rule) (.str "same") vf (.str "refuse"))) → Q .non H'
theorem ok_scheme_init (T : Txt K mg) : MkKOk P w K mg base 4 "Scheme" (aScheme K) 1 ksScheme p_scheme_init (sp_scheme_init K) := by
  refine T.i_Scheme.okK sc_scheme_init (fun vs H Q E h => ?_) 1 ksScheme (by simp) (fun _ _ _ _ _ _ us ws h1 h2 => match us, ws, h1, h2 with | [_], [_, _, _, _, _], _, _ => rfl) fun cdv A outer s H vs Q E f hr h => ?_
  · obtain ⟨x, dx, vw, vf, r, rfl, _⟩ := h
    rfl
  · refine ⟨_, pss_cons (ps_set (i := 6) sc_scheme_init.nd rfl (Or.inl rfl) (pe_lst (pa_cons (pe_callG (ok_is_wrap T) hr (pa_cons (pv 1) pa_nil)) (pa_cons (pe_callG (ok_is_slot T) (hr.mono (by decide)) (pa_cons (pv 2) (pa_cons (pv 1) pa_nil)))
        (pa_cons (pe_callG (ok_is_word T) (hr.mono (by decide)) (pa_cons (pv 3) (pa_cons (pe_tup (pa_cons pe_str (pa_cons pe_str (pa_cons pe_str pa_nil)))) pa_nil))) (pa_cons (pe_callG (ok_is_full_rule T) (hr.mono (by decide)) (pa_cons (pv 4) pa_nil)) pa_nil))))))
      (pss_cons (ps_expr (pe_bm PySem.F.plainAttrs_list PySem.F.slot_list_append PySem.F.type_list_append mt_append (pv 6) (pa_cons (pe_callG (ok_is_word T) (hr.mono (by decide)) (pa_cons (pv 5) (pa_cons (pe_tup (pa_cons pe_str (pa_cons pe_str (pa_cons pe_str pa_nil)))) pa_nil))) pa_nil)))
      (pss_cons (ps_if (pt_cmpR op_in_seq pe_bl (pv 6) rfl) pss_never pss_nil)
      (pss_cons (ps_fld (pv 0) (pv 1) rfl) (pss_cons (ps_fld (pv 0) (pv 2) rfl) (pss_cons (ps_fld (pv 0) (pv 3) rfl) (pss_cons (ps_fld (pv 0) (pv 4) rfl) (pss_one (ps_fld (pv 0) (pv 5) rfl)))))))), ?_⟩
    walk_at "rd"
    obtain ⟨x, dx, vw, vf, r, rfl, hx, hw, hf, hg, q⟩ := h
    refine ⟨_, rfl, _, r.turn, rfl, hw, hg.turn, ?_⟩
    refine ⟨_, rfl, _, rfl, _, _, r.turn, rfl, hw, hg.rule, fun H1 s1 => ?_⟩
    refine ⟨_, rfl, (by show 3 ≤ sizeLine; decide), fun p2 hp2 => ?_⟩
    have s2 := s1.trans (Same.new (o := .tup [.str "same", .str "count", .str "note"]) hp2)
    refine word_t (by decide +kernel) (by decide +kernel) ?_
    refine ⟨_, rfl, _, r.brim, rfl, hf.same s2, hg.brim, fun H3 s3' => ?_⟩
    have s3 := s2.trans s3'
    refine ⟨(by show 4 ≤ sizeLine; decide), fun l hl => ?_⟩
    have s4 := s3.trans (Same.new (o := .lst [.bl true, .bl true, .bl true, .bl true]) hl)
    refine ⟨_, rfl, .inl ⟨rfl, _, SqL.of upd_same⟩, _, rfl, (by show 3 ≤ sizeLine; decide), fun p5 hp5 => ?_⟩
    have s5' : Same _ _ := Same.new (o := .tup [.str "refuse", .str "drop", .str "over"]) hp5
    have hl5 := s5' _ _ (upd_same (H := H3) (a := l) (o := .lst [.bl true, .bl true, .bl true, .bl true]))
    refine word_t (by decide +kernel) (by decide +kernel) ⟨l, _, _, rfl, rfl, hl5, (by show 4 < sizeLine; decide), ?_⟩
    refine ⟨_, rfl, l, _, rfl, .inl (SqL.of upd_same), rfl, rfl, false, rfl, if_f rfl ?_⟩
    have hlx : x ≠ l := ne_of_none (s3 _ _ hx) hl
    have k6 : Keep [x] H (upd (upd (upd H3 l (.lst [.bl true, .bl true, .bl true, .bl true])) p5 (.tup [.str "refuse", .str "drop", .str "over"])) l (.lst ([.bl true, .bl true, .bl true, .bl true] ++ [.bl true]))) :=
      (Keep.same (s4.trans s5')).new (s3.free hl)
    have hx6 : upd (upd (upd H3 l (.lst [.bl true, .bl true, .bl true, .bl true])) p5 (.tup [.str "refuse", .str "drop", .str "over"])) l (.lst ([.bl true, .bl true, .bl true, .bl true] ++ [.bl true])) x = some (.ins (aScheme K) dx []) := by
      rw [upd_ne hlx]
      exact s5' _ _ (s4 _ _ hx)
    refine ⟨_, rfl, _, rfl, x, _, _, _, rfl, hx6, T.c_Scheme, T.n_Scheme_own_wrap, (by show 0 < 1000; decide), ?_⟩
    refine ⟨_, rfl, _, rfl, x, _, _, _, rfl, upd_same, T.c_Scheme, T.n_Scheme_own_slot, (by show 1 < 1000; decide), ?_⟩
    refine ⟨_, rfl, _, rfl, x, _, _, _, rfl, upd_same, T.c_Scheme, T.n_Scheme_own_empty, (by show 2 < 1000; decide), ?_⟩
    refine ⟨_, rfl, _, rfl, x, _, _, _, rfl, upd_same, T.c_Scheme, T.n_Scheme_own_full, (by show 3 < 1000; decide), ?_⟩
    refine ⟨_, rfl, _, rfl, x, _, _, _, rfl, upd_same, T.c_Scheme, T.n_Scheme_own_when, (by show 4 < 1000; decide), ?_⟩
    rw [upd_upd, upd_upd, upd_upd, upd_upd, schF_put]
    exact q _ (k6.set (List.mem_singleton.mpr rfl)) upd_same
end
end RI

set_option maxHeartbeats 4000000
namespace RI
open PySem PySem.Spec PyProof.Rows L2
local macro_rules | `(tactic| walk_at "rd") => `(tactic| dsimp only [tVar, tC, t2I, tOp, tUn, rI, rI0, rU, tCmp, tB, tAnd, tOr, tNot, tAndV, tOrV, tNotV, tIf, tNext, tSeq, tDrop, tRet, tRetN, tIfS, gName, gNil, gCons, gTup, gSub, tAsg, tPar, tAug, ipI, iList, iTup, iRng1, iRng2, tTest, tChain, rEq, rNe, tFld, sFld, tNil, tCons, tTup, tLst, tCall, tMeth, tMake, tCB, tSl, tPart, tNoPart, tProp, tMakeK, tMakeN, rIxL, rIxT, rSetL, tBM, tBM0, rAppend, rCat, C8.tCut, tYes])
theorem schF_wrap (vw vs ve vf vm : V) : (schF vw vs ve vf vm).lookup ("own_wrap" : Str) = some vw := by kernel_rfl
theorem schF_slot (vw vs ve vf vm : V) : (schF vw vs ve vf vm).lookup ("own_slot" : Str) = some vs := by kernel_rfl
theorem schF_empty (vw vs ve vf vm : V) : (schF vw vs ve vf vm).lookup ("own_empty" : Str) = some ve := by kernel_rfl
theorem schF_full (vw vs ve vf vm : V) : (schF vw vs ve vf vm).lookup ("own_full" : Str) = some vf := by kernel_rfl
theorem schF_when (vw vs ve vf vm : V) : (schF vw vs ve vf vm).lookup ("own_when" : Str) = some vm := by kernel_rfl
def modF : RTurn → Int → Int
  | .form a b, n => a * n + b
  | .width k, _ => 2 ^ k.toNat
def outB (rule : Str) (n M : Int) : Bool := decide (V.str rule = V.str "off") && decide (2 * n < M)
def keptF (n M : Int) : Int := Builtin.bitAnd (n - 1) (M - 1)
def otherF (n M c : Int) : Int := Builtin.bitOr (Builtin.bitAnd c (keptF n M)) (Builtin.bitAnd (Builtin.bitOr c (keptF n M) + 1) (M - 1 - keptF n M))
def maskGapF (n M c : Int) : Int := if c < otherF n M c then otherF n M c - c else otherF n M c - c + M
def gapF (rule : Str) (n M c : Int) : Int := if V.str rule = V.str "mask" then maskGapF n M c else if c + n < M then n else M - c + c % n
def cF (rule : Str) (n M : Int) : Int := if ¬ V.str rule = V.str "mask" ∧ n < M ∧ 0 < M % n then M - M % n else 0
def progWin (rule : Str) (n M : Int) : Int := gapF rule n M (cF rule n M)
/-- the room, -1 for none -/
def roomF : RBrim → Int → Int → Int
  | .next, _, M => M - 1
  | .lim op a b, n, M => if a * n + b < 0 then (if V.str op = V.str ">=" then 0 else -1) else if M ≤ a * n + b then -1 else a * n + b
theorem roomF_lim {op : Str} {a b n M : Int} (h : 1 ≤ roomF (.lim op a b) n M) : 0 ≤ a * n + b ∧ a * n + b < M ∧ roomF (.lim op a b) n M = a * n + b := by
  have e : roomF (.lim op a b) n M = if a * n + b < 0 then (if V.str op = V.str ">=" then 0 else -1) else if M ≤ a * n + b then -1 else a * n + b := rfl
  rw [e] at h ⊢
  by_cases h1 : a * n + b < 0
  · rw [if_pos h1] at h
    by_cases h2 : V.str op = V.str ">="
    · rw [if_pos h2] at h
      omega
    · rw [if_neg h2] at h
      omega
  · rw [if_neg h1] at h ⊢
    by_cases h2 : M ≤ a * n + b
    · rw [if_pos h2] at h
      omega
    · rw [if_neg h2]
      exact ⟨by omega, by omega, rfl⟩
section
variable {P : Program} {w : World} {K : PySem.W.Frag} {mg : Str → Option Value} {base : Heap}
/-! ### getters -/
theorem ok_getter {C : Addr} {x qual fld : Str} {st : Stmt} {N : List Str} {p1 p2 p3 : Pos} (F : FunP K C x qual st) (S : FnScope N ["self"] (defScope st)) (c : Cls K C) (n : NoAttr K C fld) (hN : N[0]? = some ("self" : Str))
    (hb : ∀ (kV doc pm : Value) (an : Option Addr) (cdv ct : Value) (us : List Value), us.length = 1 → bindArgs (PySem.W.fnOf x qual (defArgs st) (defBody st) (defScope st) .none kV doc pm an cdv ct) ⟨us, []⟩ = pure ((["self"] : List Str).zip us))
    (h : defBody st = [.Return (some (.Attribute (.Name "self" p1) fld p2)) p3]) : PrpOk P w K mg base 1 C x (getSp C fld) := by
  refine F.ok S (fun vs H Q E h => ?_) hb fun cdv A outer s H vs Q E f hr hw => ?_
  · obtain ⟨a, dx, fs, v, e, _⟩ := h
    rw [e]
    rfl
  · obtain ⟨a, dx, fs, v, e, ea, l, q⟩ := hw
    subst e
    rw [h]
    refine ⟨_, pss_one (ps_ret (pe_fld (pe_var (i := 0) hN ((S.par "self" (List.Mem.head _)).elim (fun z => .inl z) (fun z => .inr (.inl z)))) rfl)), ?_⟩
    exact ⟨.ref a, rfl, a, C, dx, fs, v, rfl, ea, c, n, l, q⟩
theorem ok_g_wrap (T : Txt K mg) : PrpOk P w K mg base 1 (aScheme K) "wrap" (getSp (aScheme K) "own_wrap") := ok_getter T.p_g_wrap sc_g_wrap T.c_Scheme T.n_Scheme_own_wrap rfl (fun _ _ _ _ _ _ us hl => match us, hl with | [_], _ => rfl) rfl
theorem ok_g_slot (T : Txt K mg) : PrpOk P w K mg base 1 (aScheme K) "slot" (getSp (aScheme K) "own_slot") := ok_getter T.p_g_slot sc_g_slot T.c_Scheme T.n_Scheme_own_slot rfl (fun _ _ _ _ _ _ us hl => match us, hl with | [_], _ => rfl) rfl
theorem ok_g_empty (T : Txt K mg) : PrpOk P w K mg base 1 (aScheme K) "empty" (getSp (aScheme K) "own_empty") := ok_getter T.p_g_empty sc_g_empty T.c_Scheme T.n_Scheme_own_empty rfl (fun _ _ _ _ _ _ us hl => match us, hl with | [_], _ => rfl) rfl
theorem ok_g_full (T : Txt K mg) : PrpOk P w K mg base 1 (aScheme K) "full" (getSp (aScheme K) "own_full") := ok_getter T.p_g_full sc_g_full T.c_Scheme T.n_Scheme_own_full rfl (fun _ _ _ _ _ _ us hl => match us, hl with | [_], _ => rfl) rfl
theorem ok_g_when (T : Txt K mg) : PrpOk P w K mg base 1 (aScheme K) "when" (getSp (aScheme K) "own_when") := ok_getter T.p_g_when sc_g_when T.c_Scheme T.n_Scheme_own_when rfl (fun _ _ _ _ _ _ us hl => match us, hl with | [_], _ => rfl) rfl
theorem ok_g_room (T : Txt K mg) : PrpOk P w K mg base 1 (aVerdict K) "room" (getSp (aVerdict K) "own_room") := ok_getter T.p_g_room sc_g_room T.c_Verdict T.n_Verdict_own_room rfl (fun _ _ _ _ _ _ us hl => match us, hl with | [_], _ => rfl) rfl
theorem ok_g_broken (T : Txt K mg) : PrpOk P w K mg base 1 (aPutters K) "broken" (getSp (aPutters K) "found") := ok_getter T.p_g_broken sc_g_broken T.c_Putters T.n_Putters_found rfl (fun _ _ _ _ _ _ us hl => match us, hl with | [_], _ => rfl) rfl
theorem ok_g_steps (T : Txt K mg) : PrpOk P w K mg base 1 (aPutters K) "steps" (getSp (aPutters K) "made") := ok_getter T.p_g_steps sc_g_steps T.c_Putters T.n_Putters_made rfl (fun _ _ _ _ _ _ us hl => match us, hl with | [_], _ => rfl) rfl
/-! ### row_of, copy_of, way_of -/
def sp_row_of (K : PySem.W.Frag) : Sp := fun vs H Q _ => ∃ (a dx : Addr) (v1 v2 v3 v4 v5 : V), vs = [.ref a] ∧ H a = some (.ins (aScheme K) dx (schF v1 v2 v3 v4 v5)) ∧ ∀ p, H p = none → Q (.ref p) (upd H p (.tup [v1, v2, v3, v4, v5]))
theorem ok_row_of (T : Txt K mg) : Glb P w K mg base 1 "row_of" p_row_of (sp_row_of K) := by
  refine T.f_row_of.ok sc_row_of (fun vs H Q E h => ?_) (fun _ _ _ _ _ _ us hl => match us, hl with | [_], _ => rfl) fun cdv A outer s H vs Q E f hr h => ?_
  · obtain ⟨a, dx, v1, v2, v3, v4, v5, rfl, _⟩ := h
    rfl
  · refine ⟨_, pss_one (ps_ret (pe_tup (pa_cons (pe_fld (pv 0) rfl) (pa_cons (pe_fld (pv 0) rfl) (pa_cons (pe_fld (pv 0) rfl) (pa_cons (pe_fld (pv 0) rfl) (pa_cons (pe_fld (pv 0) rfl) pa_nil))))))), ?_⟩
    walk_at "rd"
    obtain ⟨a, dx, v1, v2, v3, v4, v5, rfl, ha, q⟩ := h
    refine ⟨_, rfl, a, _, _, _, _, rfl, ha, T.c_Scheme, T.n_Scheme_own_wrap, schF_wrap .., _, rfl, a, _, _, _, _, rfl, ha, T.c_Scheme, T.n_Scheme_own_slot, schF_slot .., _, rfl, a, _, _, _, _, rfl, ha, T.c_Scheme, T.n_Scheme_own_empty, schF_empty ..,
      _, rfl, a, _, _, _, _, rfl, ha, T.c_Scheme, T.n_Scheme_own_full, schF_full .., _, rfl, a, _, _, _, _, rfl, ha, T.c_Scheme, T.n_Scheme_own_when, schF_when .., (by show 5 ≤ sizeLine; decide), q⟩
/-- a copy of a scheme: a new one -/
def sp_copy_of (K : PySem.W.Frag) : Sp := fun vs H Q _ => ∃ (a : Addr) (r : Row), vs = [.ref a] ∧ SchemeAt K H a r ∧ GoodRow r ∧ ∀ x H', Same H H' → SchemeAt K H' x r → Q (.ref x) H'
theorem ok_copy_of (T : Txt K mg) : Glb P w K mg base 6 "copy_of" p_copy_of (sp_copy_of K) := by
  refine T.f_copy_of.ok sc_copy_of (fun vs H Q E h => ?_) (fun _ _ _ _ _ _ us hl => match us, hl with | [_], _ => rfl) fun cdv A outer s H vs Q E f hr h => ?_
  · obtain ⟨a, r, rfl, _⟩ := h
    rfl
  · refine ⟨_, pss_cons (ps_asg (pe_callG (ok_row_of T) (hr.mono (by decide)) (pa_cons (pv 0) pa_nil)) (pg_tup rfl (pgs_cons (pg_name (i := 1) sc_copy_of.nd rfl (Or.inl rfl)) (pgs_cons (pg_name (i := 2) sc_copy_of.nd rfl (Or.inl rfl)) (pgs_cons (pg_name (i := 3) sc_copy_of.nd rfl (Or.inl rfl))
        (pgs_cons (pg_name (i := 4) sc_copy_of.nd rfl (Or.inl rfl)) (pgs_cons (pg_name (i := 5) sc_copy_of.nd rfl (Or.inl rfl)) pgs_nil)))))))
      (pss_one (ps_ret (pe_mkK0 (ok_scheme_init T) hr (pk_cons (pv 1) (pk_cons (pv 2) (pk_cons (pv 3) (pk_cons (pv 4) (pk_cons (pv 5) pk_nil)))))))), ?_⟩
    walk_at "rd"
    obtain ⟨a, r, rfl, ⟨dx, vw, vf, ha, hw, hf⟩, hg, q⟩ := h
    refine ⟨_, rfl, a, dx, _, _, _, _, _, rfl, ha, fun p hp => ?_⟩
    refine ⟨p, _, rfl, SqT.of upd_same, rfl, _, _, rfl, _, _, rfl, _, _, rfl, _, _, rfl, _, _, rfl, rfl, ?_⟩
    refine ⟨_, rfl, _, rfl, _, rfl, _, rfl, _, rfl, rfl, rfl, fun x dx' hx hdx ne => ?_⟩
    have s1 : Same H (upd H p (.tup [vw, .str r.rule, .str "same", vf, .str "refuse"])) := Same.new hp
    have s2 := s1.trans (Same.new (o := .own x) hdx)
    have hx2 : upd (upd H p (.tup [vw, .str r.rule, .str "same", vf, .str "refuse"])) dx' (.own x) x = none := by
      rw [upd_ne (Ne.symm ne)]
      exact hx
    have s3 := s2.trans (Same.new (o := .ins (aScheme K) dx' []) hx2)
    refine ⟨x, dx', vw, vf, r, rfl, upd_same, hw.same s3, hf.same s3, hg, fun H' k hs => ⟨rfl, ?_⟩⟩
    have s4 : Same H H' := fun b o e => k b o (s3 b o e) (by
      have : b ≠ x := ne_of_none (s2 b o e) hx2
      simpa using this)
    exact q x H' s4 ⟨dx', vw, vf, hs, hw.same s4, hf.same s4⟩
def sp_way_of (K : PySem.W.Frag) : Sp := fun vs H Q _ => ∃ (a : Addr) (r : Row), vs = [.ref a] ∧ SchemeAt K H a r ∧ ∀ H', Same H H' → Q (.str "counters") H'
theorem ok_way_of (T : Txt K mg) : Glb P w K mg base 3 "way_of" p_way_of (sp_way_of K) := by
  refine T.f_way_of.ok sc_way_of (fun vs H Q E h => ?_) (fun _ _ _ _ _ _ us hl => match us, hl with | [_], _ => rfl) fun cdv A outer s H vs Q E f hr h => ?_
  · obtain ⟨a, r, rfl, _⟩ := h
    rfl
  · refine ⟨_, pss_cons (ps_set (i := 1) sc_way_of.nd rfl (Or.inl rfl) (pe_ix ix_tup (pe_prpG (ok_g_full T) hr T.c_Scheme (pv 0)) pe_int (fun _ _ => rfl)))
      (pss_cons (ps_if (pt_cmpR op_ne (pe_prpG (ok_g_when T) hr T.c_Scheme (pv 0)) pe_str (nomark _)) pss_never pss_nil)
      (pss_cons (ps_if (pw_and (pt_cmpR op_eq (pe_prpG (ok_g_empty T) hr T.c_Scheme (pv 0)) pe_str (nomark _)) (pw_and1 (pt_cmpR op_in_seq (pv 1) (pe_tup (pa_cons pe_str (pa_cons pe_str pa_nil))) rfl))).pt (pss_one (ps_ret pe_str)) pss_nil)
      pss_never)), ?_⟩
    walk_at "rd"
    obtain ⟨a, r, rfl, ⟨dx, vw, vf, ha, hw, hf⟩, q⟩ := h
    have key : ∃ t x xs, vf = .ref t ∧ H t = some (.tup (.str x :: xs)) ∧ (x = "next" ∨ x = "diff") := by
      cases hb : r.brim with
      | next =>
        rw [hb] at hf
        obtain ⟨t, e, h⟩ := hf
        exact ⟨t, _, _, e, h, .inl rfl⟩
      | lim op c d =>
        rw [hb] at hf
        obtain ⟨t, vf, e, h, _⟩ := hf
        exact ⟨t, _, _, e, h, .inr rfl⟩
    obtain ⟨t, x, xs, rfl, ht, hx⟩ := key
    refine ⟨_, rfl, a, dx, _, rfl, ha, ⟨a, dx, _, _, rfl, ha, schF_full .., t, _, 0, _, rfl, rfl, SqT.of ht, atI_nat (j := 0) rfl, ?_⟩⟩
    refine ⟨_, rfl, a, dx, _, rfl, ha, ⟨a, dx, _, _, rfl, ha, schF_when .., rfl, _, rfl, if_f (by decide +kernel) ?_⟩⟩
    refine ⟨_, rfl, a, dx, _, rfl, ha, ⟨a, dx, _, _, rfl, ha, schF_empty .., rfl, _, rfl, if_t (by decide +kernel) ?_⟩⟩
    refine ⟨_, rfl, (by show 2 ≤ sizeLine; decide), fun p hp => ⟨p, _, rfl, .inr (SqT.of upd_same), rfl, rfl, _, rfl, if_t ?_ (q _ (Same.new hp))⟩⟩
    rcases hx with rfl | rfl <;> decide +kernel
end
end RI

set_option maxHeartbeats 4000000
namespace RI
open PySem PySem.Spec PyProof.Rows L2
local macro_rules | `(tactic| walk_at "rd") => `(tactic| dsimp only [tVar, tC, t2I, tOp, tUn, rI, rI0, rU, tCmp, tB, tAnd, tOr, tNot, tAndV, tOrV, tNotV, tIf, tNext, tSeq, tDrop, tRet, tRetN, tIfS, gName, gNil, gCons, gTup, gSub, tAsg, tPar, tAug, ipI, iList, iTup, iRng1, iRng2, tTest, tChain, rEq, rNe, tFld, sFld, tNil, tCons, tTup, tLst, tCall, tMeth, tMake, tCB, tSl, tPart, tNoPart, tProp, tMakeK, tMakeN, rIxL, rIxT, rSetL, tBM, tBM0, rAppend, rCat, C8.tCut, tYes])
section
variable {P : Program} {w : World} {K : PySem.W.Frag} {mg : Str → Option Value} {base : Heap}
def sp_modulus_at (K : PySem.W.Frag) : Sp := fun vs H Q _ => ∃ (v : V) (t : RTurn) (n : Int), vs = [v, .int n] ∧ WrapAt K H v t ∧ GoodTurn t ∧ Q (.int (modF t n)) H
theorem ok_modulus_at (T : Txt K mg) : Glb P w K mg base 2 "modulus_at" p_modulus_at (sp_modulus_at K) := by
  refine T.f_modulus_at.ok sc_modulus_at (fun vs H Q E h => ?_) (fun _ _ _ _ _ _ us hl => match us, hl with | [_, _], _ => rfl) fun cdv A outer s H vs Q E f hr h => ?_
  · obtain ⟨v, t, n, rfl, _⟩ := h
    rfl
  · refine ⟨_, pss_cons (ps_if (pt_val (pe_callG (ok_is_whole T) hr (pa_cons (pv 0) pa_nil))) (pss_one (ps_ret (pe_op op_shl pe_int (pv 0)))) pss_nil)
      (pss_one (ps_ret (pe_op op_add (pe_op op_mul (pe_fld (pv 0) rfl) (pv 1)) (pe_fld (pv 0) rfl)))), ?_⟩
    walk_at "rd"
    obtain ⟨v, t, n, rfl, hw, hg, q⟩ := h
    cases t with
    | form a b =>
      obtain ⟨fa, dx, rfl, hx⟩ := hw
      obtain ⟨h1, h2, h3, h4⟩ := hg
      refine ⟨_, rfl, .inr ⟨fa, dx, _, rfl, hx, _, rfl, if_f rfl ?_⟩⟩
      exact ⟨_, rfl, fa, _, _, _, _, rfl, hx, T.c_Form, T.n_Form_slope, formF_slope a b, _, rfl, _, _, rfl, rfl, .inl ⟨by omega, by omega⟩, _, rfl, fa, _, _, _, _, rfl, hx, T.c_Form, T.n_Form_base, formF_base a b, _, _, rfl, rfl, q⟩
    | width k =>
      obtain rfl : v = .int k := hw
      obtain ⟨h1, h2⟩ := hg
      refine ⟨_, rfl, .inl ⟨k, rfl, _, rfl, if_t rfl ⟨_, rfl, _, _, rfl, rfl, ⟨by omega, by omega, by decide⟩, ?_⟩⟩⟩
      have e : (1 : Int) * 2 ^ k.toNat = modF (.width k) n := Int.one_mul _
      rw [e]
      exact q
def sp_has_outside : Sp := fun vs H Q _ => ∃ (r : Str) (n M : Int), vs = [.str r, .int n, .int M] ∧ Q (.bl (outB r n M)) H
theorem ok_has_outside (T : Txt K mg) : Glb P w K mg base 1 "has_outside" p_has_outside sp_has_outside := by
  refine T.f_has_outside.ok sc_has_outside (fun vs H Q E h => ?_) (fun _ _ _ _ _ _ us hl => match us, hl with | [_, _, _], _ => rfl) fun cdv A outer s H vs Q E f hr h => ?_
  · obtain ⟨r, n, M, rfl, _⟩ := h
    rfl
  · refine ⟨_, pss_one (ps_ret (pe_and (pe_cmpR op_eq (pv 0) pe_str (nomark _)) (pe_one (pe_cmpR op_gt (pv 2) (pe_op op_mul pe_int (pv 1)) (nomark _))))), ?_⟩
    walk_at "rd"
    obtain ⟨r, n, M, rfl, q⟩ := h
    unfold outB at q
    refine ⟨_, rfl, rfl, _, rfl, if_d (fun hc => ?_) (fun hc => ?_)⟩
    · rw [decide_eq_true hc, Bool.true_and] at q
      exact ⟨_, rfl, _, rfl, _, _, rfl, rfl, .inl ⟨by decide, by decide⟩, _, _, rfl, rfl, q⟩
    · rw [decide_eq_false hc, Bool.false_and] at q
      exact q
def sp_mask_gap : Sp := fun vs H Q _ => ∃ (n M c : Int), vs = [.int n, .int M, .int c] ∧ Q (.int (maskGapF n M c)) H
theorem ok_mask_gap (T : Txt K mg) : Glb P w K mg base 1 "mask_gap" p_mask_gap sp_mask_gap := by
  refine T.f_mask_gap.ok sc_mask_gap (fun vs H Q E h => ?_) (fun _ _ _ _ _ _ us hl => match us, hl with | [_, _, _], _ => rfl) fun cdv A outer s H vs Q E f hr h => ?_
  · obtain ⟨n, M, c, rfl, _⟩ := h
    rfl
  · refine ⟨_, pss_cons (ps_set (i := 3) sc_mask_gap.nd rfl (Or.inl rfl) (pe_op op_and (pe_op op_sub (pv 0) pe_int) (pe_op op_sub (pv 1) pe_int)))
      (pss_cons (ps_set (i := 4) sc_mask_gap.nd rfl (Or.inl rfl) (pe_op op_sub (pe_op op_sub (pv 1) pe_int) (pv 3)))
      (pss_cons (ps_set (i := 5) sc_mask_gap.nd rfl (Or.inl rfl) (pe_op op_or (pe_op op_and (pv 2) (pv 3)) (pe_op op_and (pe_op op_add (pe_op op_or (pv 2) (pv 3)) pe_int) (pv 4))))
      (pss_cons (ps_if (pt_cmpR op_gt (pv 5) (pv 2) (nomark _)) (pss_one (ps_ret (pe_op op_sub (pv 5) (pv 2)))) pss_nil)
      (pss_one (ps_ret (pe_op op_add (pe_op op_sub (pv 5) (pv 2)) (pv 1))))))), ?_⟩
    walk_at "rd"
    obtain ⟨n, M, c, rfl, q⟩ := h
    have e : maskGapF n M c = if c < otherF n M c then otherF n M c - c else otherF n M c - c + M := rfl
    refine ⟨_, rfl, _, _, rfl, rfl, _, rfl, _, _, rfl, rfl, _, _, rfl, rfl, ?_⟩
    refine ⟨_, rfl, _, _, rfl, rfl, _, rfl, _, _, rfl, rfl, ?_⟩
    refine ⟨_, rfl, _, rfl, _, _, rfl, rfl, _, rfl, _, rfl, _, _, rfl, rfl, _, _, rfl, rfl, _, rfl, _, _, rfl, rfl, _, _, rfl, rfl, ?_⟩
    refine ⟨_, rfl, _, rfl, _, _, rfl, rfl, _, rfl, if_d (fun hc => ?_) (fun hc => ?_)⟩
    · have hc' : c < otherF n M c := hc
      rw [e, if_pos hc'] at q
      exact ⟨_, rfl, _, rfl, _, _, rfl, rfl, q⟩
    · have hc' : ¬ c < otherF n M c := hc
      rw [e, if_neg hc'] at q
      exact ⟨_, rfl, _, rfl, _, _, rfl, rfl, _, rfl, _, _, rfl, rfl, q⟩
def sp_gap_at : Sp := fun vs H Q _ => ∃ (r : Str) (n M c : Int), vs = [.str r, .int n, .int M, .int c] ∧ 1 ≤ n ∧ outB r n M = false ∧ Q (.int (gapF r n M c)) H
theorem ok_gap_at (T : Txt K mg) : Glb P w K mg base 2 "gap_at" p_gap_at sp_gap_at := by
  refine T.f_gap_at.ok sc_gap_at (fun vs H Q E h => ?_) (fun _ _ _ _ _ _ us hl => match us, hl with | [_, _, _, _], _ => rfl) fun cdv A outer s H vs Q E f hr h => ?_
  · obtain ⟨r, n, M, c, rfl, _⟩ := h
    rfl
  · refine ⟨_, pss_cons (ps_if (pt_cmpR op_eq (pv 0) pe_str (nomark _)) (pss_one (ps_ret (pe_callG (ok_mask_gap T) hr (pa_cons (pv 1) (pa_cons (pv 2) (pa_cons (pv 3) pa_nil)))))) pss_nil)
      (pss_cons (ps_if (pt_val (pe_callG (ok_has_outside T) hr (pa_cons (pv 0) (pa_cons (pv 1) (pa_cons (pv 2) pa_nil))))) pss_never pss_nil)
      (pss_cons (ps_if (pt_cmpR op_lt (pe_op op_add (pv 3) (pv 1)) (pv 2) (nomark _)) (pss_one (ps_ret (pv 1))) pss_nil)
      (pss_one (ps_ret (pe_op op_add (pe_op op_sub (pv 2) (pv 3)) (pe_op op_mod (pv 3) (pv 1))))))), ?_⟩
    walk_at "rd"
    obtain ⟨r, n, M, c, rfl, hn, ho, q⟩ := h
    unfold gapF at q
    refine ⟨_, rfl, rfl, _, rfl, if_d (fun hc => ?_) (fun hc => ?_)⟩
    · rw [if_pos hc] at q
      exact ⟨_, rfl, _, rfl, _, rfl, _, _, _, rfl, q⟩
    · rw [if_neg hc] at q
      refine ⟨_, rfl, _, rfl, _, rfl, _, _, _, rfl, _, rfl, if_f ho ?_⟩
      refine ⟨_, rfl, _, rfl, _, _, rfl, rfl, _, rfl, _, _, rfl, rfl, _, rfl, if_d (fun h2 => ?_) (fun h2 => ?_)⟩
      · rw [if_pos h2] at q
        exact ⟨_, rfl, q⟩
      · rw [if_neg h2] at q
        exact ⟨_, rfl, _, rfl, _, _, rfl, rfl, _, rfl, _, rfl, _, _, rfl, rfl, by omega, _, _, rfl, rfl, q⟩
def sp_alike_at : Sp := fun vs H Q _ => ∃ (r : Str) (n M : Int), vs = [.str r, .int n, .int M] ∧ 1 ≤ n ∧ outB r n M = false ∧ ∀ p, H p = none → Q (.ref p) (upd H p (.tup [.int (cF r n M), .int (progWin r n M)]))
theorem ok_alike_at (T : Txt K mg) : Glb P w K mg base 3 "alike_at" p_alike_at sp_alike_at := by
  refine T.f_alike_at.ok sc_alike_at (fun vs H Q E h => ?_) (fun _ _ _ _ _ _ us hl => match us, hl with | [_, _, _], _ => rfl) fun cdv A outer s H vs Q E f hr h => ?_
  · obtain ⟨r, n, M, rfl, _⟩ := h
    rfl
  · refine ⟨_, pss_cons (ps_if (pt_val (pe_callG (ok_has_outside T) (hr.mono (by decide)) (pa_cons (pv 0) (pa_cons (pv 1) (pa_cons (pv 2) pa_nil))))) pss_never pss_nil)
      (pss_cons (ps_set (i := 3) sc_alike_at.nd rfl (Or.inl rfl) pe_int)
      (pss_cons (ps_if (pw_and (pt_cmpR op_ne (pv 0) pe_str (nomark _)) (pw_and (pt_cmpR op_gt (pv 2) (pv 1) (nomark _)) (pw_and1 (pt_cmpR op_gt (pe_op op_mod (pv 2) (pv 1)) pe_int (nomark _))))).pt
          (pss_one (ps_set (i := 3) sc_alike_at.nd rfl (Or.inl rfl) (pe_op op_sub (pv 2) (pe_op op_mod (pv 2) (pv 1))))) pss_nil)
      (pss_one (ps_ret (pe_tup (pa_cons (pv 3) (pa_cons (pe_callG (ok_gap_at T) hr (pa_cons (pv 0) (pa_cons (pv 1) (pa_cons (pv 2) (pa_cons (pv 3) pa_nil))))) pa_nil))))))), ?_⟩
    walk_at "rd"
    obtain ⟨r, n, M, rfl, hn, ho, q⟩ := h
    refine ⟨_, rfl, _, rfl, _, rfl, _, _, _, rfl, _, rfl, if_f ho ?_⟩
    have e : progWin r n M = gapF r n M (cF r n M) := rfl
    rw [e] at q
    have e2 : cF r n M = if ¬ V.str r = V.str "mask" ∧ n < M ∧ 0 < M % n then M - M % n else 0 := rfl
    refine ⟨_, rfl, rfl, _, rfl, ?_⟩
    by_cases h1 : V.str r = V.str "mask"
    · have z : cF r n M = 0 := by rw [e2, if_neg (fun z => z.1 h1)]
      rw [z] at q
      exact if_f (by rw [decide_eq_true h1]; rfl) (if_f rfl ⟨_, rfl, _, rfl, _, rfl, _, rfl, _, rfl, _, _, _, _, rfl, hn, ho, (by show 2 ≤ sizeLine; decide), q⟩)
    · refine if_t (by rw [decide_eq_false h1]; rfl) ⟨_, rfl, _, rfl, _, _, rfl, rfl, _, rfl, if_d (fun h2 => ?_) (fun h2 => ?_)⟩
      · refine ⟨_, rfl, _, rfl, _, _, rfl, rfl, by omega, _, _, rfl, rfl, _, rfl, if_d (fun h3 => ?_) (fun h3 => ?_)⟩
        · have z : cF r n M = M - M % n := by rw [e2, if_pos ⟨h1, h2, h3⟩]
          rw [z] at q
          exact ⟨_, rfl, _, rfl, _, rfl, _, _, rfl, rfl, by omega, _, _, rfl, rfl, _, rfl, _, rfl, _, rfl, _, rfl, _, rfl, _, _, _, _, rfl, hn, ho, (by show 2 ≤ sizeLine; decide), q⟩
        · have z : cF r n M = 0 := by rw [e2, if_neg (fun z => h3 z.2.2)]
          rw [z] at q
          exact ⟨_, rfl, _, rfl, _, rfl, _, rfl, _, rfl, _, _, _, _, rfl, hn, ho, (by show 2 ≤ sizeLine; decide), q⟩
      · have z : cF r n M = 0 := by rw [e2, if_neg (fun z => h2 z.2.1)]
        rw [z] at q
        exact if_f rfl ⟨_, rfl, _, rfl, _, rfl, _, rfl, _, rfl, _, _, _, _, rfl, hn, ho, (by show 2 ≤ sizeLine; decide), q⟩
def sp_window_at : Sp := fun vs H Q _ => ∃ (r : Str) (n M : Int), vs = [.str r, .int n, .int M] ∧ 1 ≤ n ∧ outB r n M = false ∧ ∀ H', Same H H' → Q (.int (progWin r n M)) H'
theorem ok_window_at (T : Txt K mg) : Glb P w K mg base 4 "window_at" p_window_at sp_window_at := by
  refine T.f_window_at.ok sc_window_at (fun vs H Q E h => ?_) (fun _ _ _ _ _ _ us hl => match us, hl with | [_, _, _], _ => rfl) fun cdv A outer s H vs Q E f hr h => ?_
  · obtain ⟨r, n, M, rfl, _⟩ := h
    rfl
  · refine ⟨_, pss_cons (ps_set (i := 3) sc_window_at.nd rfl (Or.inl rfl) (pe_callG (ok_alike_at T) hr (pa_cons (pv 0) (pa_cons (pv 1) (pa_cons (pv 2) pa_nil)))))
      (pss_cons (ps_if (pt_cmpR op_isN (pv 3) pe_non (nomark _)) pss_never pss_nil)
      (pss_one (ps_ret (pe_ix ix_tup (pv 3) pe_int (fun _ _ => rfl))))), ?_⟩
    walk_at "rd"
    obtain ⟨r, n, M, rfl, hn, ho, q⟩ := h
    refine ⟨_, rfl, _, rfl, _, rfl, _, _, _, rfl, hn, ho, fun p hp => ?_⟩
    refine ⟨_, rfl, rfl, _, rfl, if_f (decide_eq_false (fun z => nomatch z)) ?_⟩
    exact ⟨_, rfl, p, _, 1, _, rfl, rfl, SqT.of upd_same, rfl, q _ (Same.new hp)⟩
def sp_room_at (K : PySem.W.Frag) : Sp := fun vs H Q _ => ∃ (v : V) (b : RBrim) (n M : Int), vs = [v, .str "refuse", .int n, .int M] ∧ FullAt K H v b ∧ GoodBrim b ∧ 1 ≤ roomF b n M ∧ Q (.int (roomF b n M)) H
theorem ok_room_at (T : Txt K mg) : Glb P w K mg base 3 "room_at" p_room_at (sp_room_at K) := by
  refine T.f_room_at.ok sc_room_at (fun vs H Q E h => ?_) (fun _ _ _ _ _ _ us hl => match us, hl with | [_, _, _, _], _ => rfl) fun cdv A outer s H vs Q E f hr h => ?_
  · obtain ⟨v, b, n, M, rfl, _⟩ := h
    rfl
  · refine ⟨_, pss_cons (ps_if (pt_cmpR op_eq (pv 1) pe_str (nomark _)) pss_never pss_nil)
      (pss_cons (ps_if (pt_cmpR op_eq (pe_ix ix_tup (pv 0) pe_int (fun _ _ => rfl)) pe_str (nomark _)) (pss_one (ps_ret (pe_op op_sub (pv 3) pe_int))) pss_nil)
      (pss_cons (ps_if (pt_cmpR op_eq (pe_ix ix_tup (pv 0) pe_int (fun _ _ => rfl)) pe_str (nomark _)) pss_never pss_nil)
      (pss_cons (ps_set (i := 4) sc_room_at.nd rfl (Or.inl rfl) (pe_callG (ok_modulus_at T) hr (pa_cons (pe_ix ix_tup (pv 0) pe_int (fun _ _ => rfl)) (pa_cons (pv 2) pa_nil))))
      (pss_cons (ps_if (pt_cmpR op_lt (pv 4) pe_int (nomark _)) pss_never pss_nil)
      (pss_cons (ps_if (pw_and (pt_cmpR op_eq (pe_ix ix_tup (pv 0) pe_int (fun _ _ => rfl)) pe_str (nomark _)) (pw_and1 (pt_cmpR op_ge (pv 4) (pv 3) (nomark _)))).pt pss_never pss_nil)
      (pss_one (ps_ret (pv 4)))))))), ?_⟩
    walk_at "rd"
    obtain ⟨v, b, n, M, rfl, hf, hg, h1, q⟩ := h
    refine ⟨_, rfl, rfl, _, rfl, if_f (by decide +kernel) ?_⟩
    cases b with
    | next =>
      obtain ⟨t, rfl, ht⟩ := hf
      refine ⟨_, rfl, t, _, 0, _, rfl, rfl, SqT.of ht, rfl, rfl, _, rfl, if_t (by decide +kernel) ?_⟩
      exact ⟨_, rfl, _, _, rfl, rfl, q⟩
    | lim op a b =>
      obtain ⟨t, vf, rfl, ht, hF⟩ := hf
      obtain ⟨hop, hn⟩ := hg
      obtain ⟨g1, g2, g3⟩ := roomF_lim h1
      rw [g3] at q
      refine ⟨_, rfl, t, _, 0, _, rfl, rfl, SqT.of ht, rfl, rfl, _, rfl, if_f (by decide +kernel) ?_⟩
      refine ⟨_, rfl, t, _, 0, _, rfl, rfl, SqT.of ht, rfl, rfl, _, rfl, if_f (by decide +kernel) ?_⟩
      refine ⟨_, rfl, t, _, 2, _, rfl, rfl, SqT.of ht, rfl, _, rfl, _, .form a b, _, rfl, hF, hn, ?_⟩
      have g1' : ¬ modF (.form a b) n < 0 := by
        show ¬ a * n + b < 0
        omega
      have g2' : ¬ M ≤ modF (.form a b) n := by
        show ¬ M ≤ a * n + b
        omega
      refine ⟨_, rfl, _, _, rfl, rfl, _, rfl, if_f (decide_eq_false g1') ?_⟩
      refine ⟨_, rfl, t, _, 0, _, rfl, rfl, SqT.of ht, rfl, rfl, _, rfl, if_t (by decide +kernel) ?_⟩
      exact ⟨_, rfl, _, rfl, _, _, rfl, rfl, _, rfl, if_f (decide_eq_false g2') ⟨_, rfl, q⟩⟩
end
end RI

set_option maxHeartbeats 4000000
namespace RI
open PySem PySem.Spec PyProof.Rows L2
local macro_rules | `(tactic| walk_at "rd") => `(tactic| dsimp only [tVar, tC, t2I, tOp, tUn, rI, rI0, rU, tCmp, tB, tAnd, tOr, tNot, tAndV, tOrV, tNotV, tIf, tNext, tSeq, tDrop, tRet, tRetN, tIfS, gName, gNil, gCons, gTup, gSub, tAsg, tPar, tAug, ipI, iList, iTup, iRng1, iRng2, tTest, tChain, rEq, rNe, tFld, sFld, tNil, tCons, tTup, tLst, tCall, tMeth, tMake, tCB, tSl, tPart, tNoPart, tProp, tMakeK, tMakeN, rIxL, rIxT, rSetL, tBM, tBM0, rAppend, rCat, C8.tCut, tYes])
section
variable {X : Cx} {k : Nat} {C : Addr} {sp : Sp}
def truOwn (C : Addr) (sp : Sp) : V → Hp → (Bool → Hp → Prop) → Prop := fun x H Q => ∃ a dx fs, x = .ref a ∧ H a = some (.ins C dx fs) ∧ sp [.ref a] H (fun v H' => ∃ b, v = .bl b ∧ Q b H') E0
theorem tru_own (G : MthOk X.prog X.w X.K X.mg X.base k C "__bool__" ["self"] sp) (hr : Room k X.A) : TruR X (truOwn C sp) := by
  intro pins s σ H x v Q I rx h
  obtain ⟨a, dx, fs, rfl, ea, q⟩ := h
  obtain rfl : v = Value.ref a := rx
  obtain ⟨f, fd, F, hm, hb⟩ := G.ex
  obtain ⟨m, Ff⟩ := I.fr
  obtain ⟨mA, O, _⟩ := ins_get I.hok ea
  obtain ⟨od, J, _⟩ := O.look
  refine PySem.W.truthy_K Ff I.mod.kin J hm.at_ hm.fn ?_
  refine thn (run_fn (us := [.ref a]) (vs := [.ref a]) F hr hb .nil pass0 I (.cons rfl .nil) q) fun u s1 h1 => ?_
  obtain ⟨y, H1, I1, r1, b, rfl, q1⟩ := h1
  obtain rfl : u = Value.bool b := r1
  exact ⟨H1, I1, q1⟩
end
/-- what makes the verdict right -/
structure RightC (r : Row) (n : Int) : Prop where
  n1 : 1 ≤ n
  n2 : n ≤ 10 ^ 30
  good : GoodRow r
  m : 1 ≤ modF r.turn n
  r1 : 1 ≤ roomF r.brim n (modF r.turn n)
  rM : roomF r.brim n (modF r.turn n) < modF r.turn n
  out : outB r.rule n (modF r.turn n) = false
  win : roomF r.brim n (modF r.turn n) ≤ progWin r.rule n (modF r.turn n)
section
variable {P : Program} {w : World} {K : PySem.W.Frag} {mg : Str → Option Value} {base : Heap}
def sp_cause_at (K : PySem.W.Frag) : Sp := fun vs H Q _ => ∃ (a : Addr) (r : Row) (n : Int), vs = [.ref a, .int n, .int (modF r.turn n)] ∧ SchemeAt K H a r ∧ RightC r n ∧ ∀ H', Same H H' → Q (.str "right") H'
theorem ok_cause_at (T : Txt K mg) : Glb P w K mg base 5 "cause_at" p_cause_at (sp_cause_at K) := by
  refine T.f_cause_at.ok sc_cause_at (fun vs H Q E h => ?_) (fun _ _ _ _ _ _ us hl => match us, hl with | [_, _, _], _ => rfl) fun cdv A outer s H vs Q E f hr h => ?_
  · obtain ⟨a, r, n, rfl, _⟩ := h
    rfl
  · have hr2 : Room 2 _ := hr.mono (by decide)
    refine ⟨_, pss_cons (ps_if (pt_cmpR op_lt (pv 2) pe_int (nomark _)) pss_never pss_nil)
      (pss_cons (ps_set (i := 3) sc_cause_at.nd rfl (Or.inl rfl) (pe_callG (ok_room_at T) (hr.mono (by decide)) (pa_cons (pe_prpG (ok_g_full T) hr2 T.c_Scheme (pv 0)) (pa_cons (pe_prpG (ok_g_when T) hr2 T.c_Scheme (pv 0)) (pa_cons (pv 1) (pa_cons (pv 2) pa_nil))))))
      (pss_cons (ps_if (pt_cmpR op_eq (pv 3) pe_int (nomark _)) pss_never pss_nil)
      (pss_cons (ps_if (pt_val (pe_callG (ok_has_outside T) (hr.mono (by decide)) (pa_cons (pe_prpG (ok_g_slot T) hr2 T.c_Scheme (pv 0)) (pa_cons (pv 1) (pa_cons (pv 2) pa_nil))))) pss_never pss_nil)
      (pss_cons (ps_if (pw_and (pt_cmpR op_eq (pe_prpG (ok_g_empty T) hr2 T.c_Scheme (pv 0)) pe_str (nomark _)) (pw_and1 (pw_or (pt_cmpR op_isN (pv 3) pe_non (nomark _)) (pw_or1 (pt_cmpR op_ge (pv 3) (pv 2) (nomark _)))).pt)).pt pss_never pss_nil)
      (pss_cons (ps_if (pw_or (pt_cmpR op_isN (pv 3) pe_non (nomark _)) (pw_or1 (pt_cmpR op_gt (pv 3) (pe_callG (ok_window_at T) hr (pa_cons (pe_prpG (ok_g_slot T) hr2 T.c_Scheme (pv 0)) (pa_cons (pv 1) (pa_cons (pv 2) pa_nil)))) (nomark _)))).pt pss_never pss_nil)
      (pss_one (ps_ret pe_str))))))), ?_⟩
    walk_at "rd"
    obtain ⟨a, r, n, rfl, ⟨dx, vw, vf, ha, hw, hf⟩, R, q⟩ := h
    have m1 := R.m
    have r1 := R.r1
    have rM := R.rM
    have wn := R.win
    refine ⟨_, rfl, _, _, rfl, rfl, _, rfl, if_f (decide_eq_false (by omega)) ?_⟩
    refine ⟨_, rfl, a, dx, _, rfl, ha, ⟨a, dx, _, _, rfl, ha, schF_full .., ?_⟩⟩
    refine ⟨_, rfl, a, dx, _, rfl, ha, ⟨a, dx, _, _, rfl, ha, schF_when .., ?_⟩⟩
    refine ⟨_, rfl, _, rfl, _, r.brim, _, _, rfl, hf, R.good.brim, R.r1, ?_⟩
    have nn : ¬ V.int (roomF r.brim n (modF r.turn n)) = V.non := fun z => nomatch z
    have n0 : ¬ V.int (roomF r.brim n (modF r.turn n)) = V.int 0 := fun z => by
      have z' := V.int.inj z
      omega
    refine ⟨_, rfl, rfl, _, rfl, if_f (decide_eq_false n0) ?_⟩
    refine ⟨_, rfl, a, dx, _, rfl, ha, ⟨a, dx, _, _, rfl, ha, schF_slot .., ?_⟩⟩
    refine ⟨_, rfl, _, rfl, _, _, _, rfl, _, rfl, if_f R.out ?_⟩
    refine ⟨_, rfl, a, dx, _, rfl, ha, ⟨a, dx, _, _, rfl, ha, schF_empty .., rfl, _, rfl, if_t (by decide +kernel) ?_⟩⟩
    refine ⟨_, rfl, rfl, _, rfl, if_f (decide_eq_false nn) ⟨_, rfl, _, rfl, _, _, rfl, rfl, _, rfl, if_f (decide_eq_false (by omega)) ?_⟩⟩
    refine ⟨_, rfl, rfl, _, rfl, if_f (decide_eq_false nn) ⟨_, rfl, ?_⟩⟩
    refine ⟨_, rfl, a, dx, _, rfl, ha, ⟨a, dx, _, _, rfl, ha, schF_slot .., ?_⟩⟩
    refine ⟨_, rfl, _, rfl, _, _, _, rfl, R.n1, R.out, fun H' s' => ?_⟩
    exact ⟨_, _, rfl, rfl, _, rfl, if_f (decide_eq_false (by omega)) (q H' s')⟩
def sp_breaking_run : Sp := fun vs H Q _ => ∃ (r : Str) (n M : Int), vs = [.str "right", .str r, .int n, .int M] ∧ Q .non H
theorem ok_breaking_run (T : Txt K mg) : Glb P w K mg base 1 "breaking_run" p_breaking_run sp_breaking_run := by
  refine T.f_breaking_run.ok sc_breaking_run (fun vs H Q E h => ?_) (fun _ _ _ _ _ _ us hl => match us, hl with | [_, _, _, _], _ => rfl) fun cdv A outer s H vs Q E f hr h => ?_
  · obtain ⟨r, n, M, rfl, _⟩ := h
    rfl
  · refine ⟨_, pss_cons (ps_if (pt_cmpR op_eq (pv 0) pe_str (nomark _)) pss_never pss_nil) (pss_cons (ps_if (pt_cmpR op_eq (pv 0) pe_str (nomark _)) pss_never pss_nil) (pss_cons (ps_if (pt_cmpR op_eq (pv 0) pe_str (nomark _)) pss_never pss_nil)
      (pss_cons (ps_if (pt_cmpR op_ne (pv 0) pe_str (nomark _)) (pss_one (ps_ret pe_non)) pss_nil) pss_never))), ?_⟩
    walk_at "rd"
    obtain ⟨r, n, M, rfl, q⟩ := h
    exact ⟨_, rfl, rfl, _, rfl, if_f (by decide +kernel) ⟨_, rfl, rfl, _, rfl, if_f (by decide +kernel) ⟨_, rfl, rfl, _, rfl, if_f (by decide +kernel) ⟨_, rfl, rfl, _, rfl, if_t (by decide +kernel) q⟩⟩⟩⟩
def verF (vc vr vw vu : V) : List (Str × V) := [("own_cause", vc), ("own_room", vr), ("own_window", vw), ("own_run", vu)]
theorem verF_cause (vc vr vw vu : V) : (verF vc vr vw vu).lookup ("own_cause" : Str) = some vc := by kernel_rfl
theorem verF_room (vc vr vw vu : V) : (verF vc vr vw vu).lookup ("own_room" : Str) = some vr := by kernel_rfl
theorem verF_bool (vc vr vw vu : V) : (verF vc vr vw vu).lookup ("__bool__" : Str) = none := by kernel_rfl
theorem verF_put (vc vr vw vu a b : V) : putF "own_run" vu (putF "own_window" vw (putF "own_room" vr (putF "own_window" a (putF "own_room" b (putF "own_cause" vc []))))) = verF vc vr vw vu := by kernel_rfl
theorem verF_cause1 (vc vr vw a b : V) : (putF "own_window" vw (putF "own_room" vr (putF "own_window" a (putF "own_room" b (putF "own_cause" vc []))))).lookup ("own_cause" : Str) = some vc := by kernel_rfl
theorem verF_len (vc vr vw a b : V) : (putF "own_window" vw (putF "own_room" vr (putF "own_window" a (putF "own_room" b (putF "own_cause" vc []))))).length = 3 := by kernel_rfl
/-- a right verdict of that room -/
def VerAt (K : PySem.W.Frag) (H : Hp) (a : Addr) (room : Int) : Prop := ∃ dx v, H a = some (.ins (aVerdict K) dx (verF (.str "right") (.int room) v .non))
def sp_verdict_init (K : PySem.W.Frag) : Sp := fun vs H Q _ => ∃ (x dx a : Addr) (r : Row) (n : Int), vs = [.ref x, .ref a, .int n] ∧ H x = some (.ins (aVerdict K) dx []) ∧ SchemeAt K H a r ∧ RightC r n ∧
  ∀ H', Keep [x] H H' → VerAt K H' x (roomF r.brim n (modF r.turn n)) → Q .non H'
theorem ok_verdict_init (T : Txt K mg) : MkOk P w K mg base 7 "Verdict" (aVerdict K) p_verdict_init (sp_verdict_init K) := by
  refine T.i_Verdict.ok sc_verdict_init (fun vs H Q E h => ?_) (fun _ _ _ _ _ _ us hl => match us, hl with | [_, _, _], _ => rfl) fun cdv A outer s H vs Q E f hr h => ?_
  · obtain ⟨x, dx, a, r, n, rfl, _⟩ := h
    rfl
  · have hr2 : Room 2 _ := hr.mono (by decide)
    refine ⟨_, pss_cons (ps_if (pt_not (pt_val (pe_callG (ok_is_size T) (hr.mono (by decide)) (pa_cons (pv 2) pa_nil)))) pss_never pss_nil)
      (pss_cons (ps_set (i := 3) sc_verdict_init.nd rfl (Or.inl rfl) (pe_callG (ok_copy_of T) hr (pa_cons (pv 1) pa_nil)))
      (pss_cons (ps_set (i := 4) sc_verdict_init.nd rfl (Or.inl rfl) (pe_callG (ok_modulus_at T) hr2 (pa_cons (pe_prpG (ok_g_wrap T) hr2 T.c_Scheme (pv 3)) (pa_cons (pv 2) pa_nil))))
      (pss_cons (ps_fld (pv 0) (pe_callG (ok_cause_at T) (hr.mono (by decide)) (pa_cons (pv 3) (pa_cons (pv 2) (pa_cons (pv 4) pa_nil)))) rfl)
      (pss_cons (ps_fld (pv 0) pe_non rfl) (pss_cons (ps_fld (pv 0) pe_non rfl)
      (pss_cons (ps_if (pt_cmpR op_ge (pv 4) pe_int (nomark _))
        (pss_cons (ps_fld (pv 0) (pe_callG (ok_room_at T) (hr.mono (by decide)) (pa_cons (pe_prpG (ok_g_full T) hr2 T.c_Scheme (pv 3)) (pa_cons (pe_prpG (ok_g_when T) hr2 T.c_Scheme (pv 3)) (pa_cons (pv 2) (pa_cons (pv 4) pa_nil))))) rfl)
        (pss_one (ps_fld (pv 0) (pe_callG (ok_window_at T) (hr.mono (by decide)) (pa_cons (pe_prpG (ok_g_slot T) hr2 T.c_Scheme (pv 3)) (pa_cons (pv 2) (pa_cons (pv 4) pa_nil)))) rfl))) pss_nil)
      (pss_one (ps_fld (pv 0) (pe_callG (ok_breaking_run T) (hr.mono (by decide)) (pa_cons (pe_fld (pv 0) rfl) (pa_cons (pe_prpG (ok_g_slot T) hr2 T.c_Scheme (pv 3)) (pa_cons (pv 2) (pa_cons (pv 4) pa_nil))))) rfl)))))))), ?_⟩
    walk_at "rd"
    obtain ⟨x, dx, a, r, n, rfl, hx, ha, R, q⟩ := h
    refine ⟨_, rfl, n, rfl, _, rfl, if_f (by rw [decide_eq_true R.n1, decide_eq_true R.n2]; rfl) ?_⟩
    refine ⟨_, rfl, a, r, rfl, ha, R.good, fun kp H1 s1 hk => ?_⟩
    obtain ⟨dk, vw, vf, hk1, hw, hf⟩ := id hk
    refine ⟨_, rfl, kp, dk, _, rfl, hk1, ⟨kp, dk, _, _, rfl, hk1, schF_wrap .., ?_⟩⟩
    refine ⟨_, rfl, _, r.turn, n, rfl, hw, R.good.turn, ?_⟩
    refine ⟨_, rfl, _, rfl, _, rfl, kp, r, n, rfl, hk, R, fun H2 s2 => ?_⟩
    have s12 := s1.trans s2
    have nx : x ≠ kp := ne_of (s1 _ _ hx) hk1 (fun z => by
      injection z with _ _ z3
      cases z3)
    refine ⟨_, rfl, x, _, _, _, rfl, s12 _ _ hx, T.c_Verdict, T.n_Verdict_own_cause, (by show 0 < 1000; decide), ?_⟩
    refine ⟨_, rfl, x, _, _, _, rfl, upd_same, T.c_Verdict, T.n_Verdict_own_room, (by show 1 < 1000; decide), ?_⟩
    refine ⟨_, rfl, x, _, _, _, rfl, upd_same, T.c_Verdict, T.n_Verdict_own_window, (by show 2 < 1000; decide), ?_⟩
    rw [upd_upd, upd_upd]
    refine ⟨_, rfl, _, _, rfl, rfl, _, rfl, if_t (decide_eq_true R.m) ?_⟩
    generalize hfs : putF "own_window" V.non (putF "own_room" V.non (putF "own_cause" (V.str "right") [])) = fs0
    have hk3 : upd H2 x (.ins (aVerdict K) dx fs0) kp = some (.ins (aScheme K) dk (schF vw (.str r.rule) (.str "same") vf (.str "refuse"))) := by
      rw [upd_ne (Ne.symm nx)]
      exact s2 _ _ hk1
    have hf3 : FullAt K (upd H2 x (.ins (aVerdict K) dx fs0)) vf r.brim := by
      cases hb : r.brim with
      | next =>
        rw [hb] at hf
        obtain ⟨t, e, h⟩ := hf
        exact ⟨t, e, by rw [upd_ne (Ne.symm (ne_of (s1 _ _ hx) h (fun z => nomatch z)))]; exact s2 _ _ h⟩
      | lim op c d =>
        rw [hb] at hf
        obtain ⟨t, vf, e, h, fa, dd, e2, h2⟩ := hf
        refine ⟨t, vf, e, by rw [upd_ne (Ne.symm (ne_of (s1 _ _ hx) h (fun z => nomatch z)))]; exact s2 _ _ h, fa, dd, e2, ?_⟩
        rw [upd_ne (Ne.symm (ne_of (s1 _ _ hx) h2 (fun z => by
          injection z with _ _ z3
          cases z3)))]
        exact s2 _ _ h2
    refine ⟨_, rfl, kp, dk, _, rfl, hk3, ⟨kp, dk, _, _, rfl, hk3, schF_full .., ?_⟩⟩
    refine ⟨_, rfl, kp, dk, _, rfl, hk3, ⟨kp, dk, _, _, rfl, hk3, schF_when .., ?_⟩⟩
    refine ⟨_, rfl, _, rfl, _, r.brim, n, _, rfl, hf3, R.good.brim, R.r1, ?_⟩
    refine ⟨_, rfl, x, _, _, _, rfl, upd_same, T.c_Verdict, T.n_Verdict_own_room, (by rw [← hfs]; show 3 < 1000; decide), ?_⟩
    rw [upd_upd]
    generalize hfs1 : putF "own_room" (V.int (roomF r.brim n (modF r.turn n))) fs0 = fs1
    have hk4 : upd H2 x (.ins (aVerdict K) dx fs1) kp = some (.ins (aScheme K) dk (schF vw (.str r.rule) (.str "same") vf (.str "refuse"))) := by
      rw [upd_ne (Ne.symm nx)]
      exact s2 _ _ hk1
    refine ⟨_, rfl, kp, dk, _, rfl, hk4, ⟨kp, dk, _, _, rfl, hk4, schF_slot .., ?_⟩⟩
    refine ⟨_, rfl, _, rfl, _, n, _, rfl, R.n1, R.out, fun H5 s5 => ?_⟩
    refine ⟨_, rfl, x, _, _, _, rfl, s5 _ _ upd_same, T.c_Verdict, T.n_Verdict_own_window, (by rw [← hfs1, ← hfs]; show 3 < 1000; decide), ?_⟩
    have e6 : (putF "own_window" (V.int (progWin r.rule n (modF r.turn n))) fs1).lookup ("own_cause" : Str) = some (.str "right") := by
      rw [← hfs1, ← hfs]
      exact verF_cause1 ..
    refine ⟨_, rfl, x, _, _, _, _, rfl, upd_same, T.c_Verdict, T.n_Verdict_own_cause, e6, ?_⟩
    have hk6 : upd H5 x (.ins (aVerdict K) dx (putF "own_window" (V.int (progWin r.rule n (modF r.turn n))) fs1)) kp = some (.ins (aScheme K) dk (schF vw (.str r.rule) (.str "same") vf (.str "refuse"))) := by
      rw [upd_ne (Ne.symm nx)]
      exact s5 _ _ hk4
    refine ⟨_, rfl, kp, dk, _, rfl, hk6, ⟨kp, dk, _, _, rfl, hk6, schF_slot .., ?_⟩⟩
    refine ⟨_, rfl, _, rfl, _, n, _, rfl, ?_⟩
    refine ⟨_, rfl, x, _, _, _, rfl, upd_same, T.c_Verdict, T.n_Verdict_own_run, (by rw [← hfs1, ← hfs]; rw [verF_len]; decide), ?_⟩
    rw [upd_upd]
    refine q _ (fun b o e nb => ?_) ⟨dx, V.int (progWin r.rule n (modF r.turn n)), ?_⟩
    · have hb : b ≠ x := by simpa using nb
      rw [upd_ne hb]
      exact s5 _ _ (by rw [upd_ne hb]; exact s12 _ _ e)
    · rw [upd_same, ← hfs1, ← hfs, verF_put]
end
end RI

set_option maxHeartbeats 4000000
namespace RI
open PySem PySem.Spec PyProof.Rows L2
local macro_rules | `(tactic| walk_at "rd") => `(tactic| dsimp only [tVar, tC, t2I, tOp, tUn, rI, rI0, rU, tCmp, tB, tAnd, tOr, tNot, tAndV, tOrV, tNotV, tIf, tNext, tSeq, tDrop, tRet, tRetN, tIfS, gName, gNil, gCons, gTup, gSub, tAsg, tPar, tAug, ipI, iList, iTup, iRng1, iRng2, tTest, tChain, rEq, rNe, tFld, sFld, tNil, tCons, tTup, tLst, tCall, tMeth, tMake, tCB, tSl, tPart, tNoPart, tProp, tMakeK, tMakeN, rIxL, rIxT, rSetL, tBM, tBM0, rAppend, rCat, C8.tCut, tYes])
section
variable {P : Program} {w : World} {K : PySem.W.Frag} {mg : Str → Option Value} {base : Heap}
theorem VerAt.same {H H' : Hp} {a : Addr} {room : Int} (s : Same H H') (h : VerAt K H a room) : VerAt K H' a room := by
  obtain ⟨dx, v, h⟩ := h
  exact ⟨dx, v, s _ _ h⟩
def sp_verdict_bool (K : PySem.W.Frag) : Sp := fun vs H Q _ => ∃ (a : Addr) (room : Int), vs = [.ref a] ∧ VerAt K H a room ∧ ∀ H', Same H H' → Q (.bl true) H'
theorem ok_verdict_bool (T : Txt K mg) : MthOk P w K mg base 1 (aVerdict K) "__bool__" p_verdict_bool (sp_verdict_bool K) := by
  refine T.m_verdict_bool.ok sc_verdict_bool (fun vs H Q E h => ?_) (fun _ _ _ _ _ _ us hl => match us, hl with | [_], _ => rfl) fun cdv A outer s H vs Q E f hr h => ?_
  · obtain ⟨a, room, rfl, _⟩ := h
    rfl
  · refine ⟨_, pss_one (ps_ret (pe_cmpR op_in_seq (pe_fld (pv 0) rfl) (pe_tup (pa_cons pe_str pa_nil)) rfl)), ?_⟩
    walk_at "rd"
    obtain ⟨a, room, rfl, ⟨dx, v, ha⟩, q⟩ := h
    refine ⟨_, rfl, a, _, _, _, _, rfl, ha, T.c_Verdict, T.n_Verdict_own_cause, verF_cause .., (by show 1 ≤ sizeLine; decide), fun p hp => ?_⟩
    have e : inV (.str "right") [.str "right"] = true := by decide +kernel
    refine ⟨p, [.str "right"], rfl, .inr (SqT.of upd_same), rfl, rfl, ?_⟩
    show Q (.bl (inV (.str "right") [.str "right"])) _
    rw [e]
    exact q _ (Same.new hp)
def sp_verdict_of (K : PySem.W.Frag) : Sp := fun vs H Q _ => ∃ (a : Addr) (r : Row) (n : Int), vs = [.ref a, .int n] ∧ SchemeAt K H a r ∧ RightC r n ∧ ∀ x H', Same H H' → VerAt K H' x (roomF r.brim n (modF r.turn n)) → Q (.ref x) H'
theorem ok_verdict_of (T : Txt K mg) : Glb P w K mg base 9 "verdict_of" p_verdict_of (sp_verdict_of K) := by
  refine T.f_verdict_of.ok sc_verdict_of (fun vs H Q E h => ?_) (fun _ _ _ _ _ _ us hl => match us, hl with | [_, _], _ => rfl) fun cdv A outer s H vs Q E f hr h => ?_
  · obtain ⟨a, r, n, rfl, _⟩ := h
    rfl
  · refine ⟨_, pss_one (ps_ret (pe_mkG (ok_verdict_init T) hr (pa_cons (pv 0) (pa_cons (pv 1) pa_nil)))), ?_⟩
    walk_at "rd"
    obtain ⟨a, r, n, rfl, ha, R, q⟩ := h
    refine ⟨_, rfl, _, rfl, fun x dx hx hdx ne => ?_⟩
    have s1 : Same H (upd H dx (.own x)) := Same.new hdx
    have hx2 : upd H dx (.own x) x = none := by
      rw [upd_ne (Ne.symm ne)]
      exact hx
    have s2 := s1.trans (Same.new (o := .ins (aVerdict K) dx []) hx2)
    refine ⟨x, dx, a, r, n, rfl, upd_same, ha.same s2, R, fun H' k hv => ⟨rfl, q x H' (fun b o e => k b o (s2 b o e) ?_) hv⟩⟩
    have nb : b ≠ x := ne_of_none (s1 b o e) hx2
    simpa using nb
def sp_shared_verdict (K : PySem.W.Frag) : Sp := sp_verdict_of K
theorem ok_shared_verdict (T : Txt K mg) : Glb P w K mg base 10 "shared_verdict" p_shared_verdict (sp_shared_verdict K) := by
  refine T.f_shared_verdict.ok sc_shared_verdict (fun vs H Q E h => ?_) (fun _ _ _ _ _ _ us hl => match us, hl with | [_, _], _ => rfl) fun cdv A outer s H vs Q E f hr h => ?_
  · obtain ⟨a, r, n, rfl, _⟩ := h
    rfl
  · refine ⟨_, pss_cons (ps_set (i := 2) sc_shared_verdict.nd rfl (Or.inl rfl) (pe_callG (ok_verdict_of T) hr (pa_cons (pv 0) (pa_cons (pv 1) pa_nil))))
      (pss_cons (ps_if (pt_cmpR op_ne (pe_callG (ok_way_of T) (hr.mono (by decide)) (pa_cons (pv 0) pa_nil)) pe_str (nomark _)) pss_never pss_nil)
      (pss_one (ps_ret (pv 2)))), ?_⟩
    walk_at "rd"
    obtain ⟨a, r, n, rfl, ha, R, q⟩ := h
    refine ⟨_, rfl, _, rfl, a, r, n, rfl, ha, R, fun x H1 s1 hv => ?_⟩
    refine ⟨_, rfl, a, r, rfl, ha.same s1, fun H2 s2 => ?_⟩
    exact ⟨rfl, _, rfl, if_f (by decide +kernel) ⟨_, rfl, q x H2 (s1.trans s2) (hv.same s2)⟩⟩
def sp_look_at_many : Sp := fun vs H Q _ => ∃ m : Int, vs = [.int m] ∧ 1 ≤ m ∧ m ≤ 4 ∧ Q .non H
theorem ok_look_at_many (T : Txt K mg) : Glb P w K mg base 3 "look_at_many" p_look_at_many sp_look_at_many := by
  refine T.f_look_at_many.ok sc_look_at_many (fun vs H Q E h => ?_) (fun _ _ _ _ _ _ us hl => match us, hl with | [_], _ => rfl) fun cdv A outer s H vs Q E f hr h => ?_
  · obtain ⟨m, rfl, _⟩ := h
    rfl
  · refine ⟨_, pss_one (ps_if (pt_not (pt_val (pe_callG (ok_is_between T) hr (pa_cons (pv 0) (pa_cons pe_int (pa_cons (pe_len1 T (pe_glob (v := .ref (He.ga K "PUTTERS")) rfl T.v_PUTTERS rfl)) pa_nil)))))) pss_never pss_nil), ?_⟩
    walk_at "rd"
    obtain ⟨m, rfl, h1, h4, q⟩ := h
    refine ⟨_, rfl, He.ga K "PUTTERS", _, rfl, .inr (T.t_PUTTERS H), .inl ⟨m, 1, 4, rfl, _, rfl, if_f ?_ q⟩⟩
    rw [decide_eq_true h1, decide_eq_true h4]
    rfl
def sp_look_at_switches : Sp := fun vs H Q _ => ∃ (m : Int) (x y : Str), vs = [.int m, .str x, .str y] ∧ 1 ≤ m ∧ m ≤ 4 ∧ (x = "turn" ∨ x = "any") ∧ (y = "one" ∨ y = "two") ∧ ∀ H', Same H H' → Q .non H'
theorem ok_look_at_switches (T : Txt K mg) : Glb P w K mg base 4 "look_at_switches" p_look_at_switches sp_look_at_switches := by
  refine T.f_look_at_switches.ok sc_look_at_switches (fun vs H Q E h => ?_) (fun _ _ _ _ _ _ us hl => match us, hl with | [_, _, _], _ => rfl) fun cdv A outer s H vs Q E f hr h => ?_
  · obtain ⟨m, x, y, rfl, _⟩ := h
    rfl
  · have hr1 : Room 1 _ := hr.mono (by decide)
    refine ⟨_, pss_cons (ps_expr (pe_callG (ok_look_at_many T) hr (pa_cons (pv 0) pa_nil)))
      (pss_cons (ps_if (pt_not (pt_val (pe_callG (ok_is_word T) hr1 (pa_cons (pv 1) (pa_cons (pe_tup (pa_cons pe_str (pa_cons pe_str pa_nil))) pa_nil))))) pss_never pss_nil)
      (pss_one (ps_if (pt_not (pt_val (pe_callG (ok_is_word T) hr1 (pa_cons (pv 2) (pa_cons (pe_tup (pa_cons pe_str (pa_cons pe_str pa_nil))) pa_nil))))) pss_never pss_nil))), ?_⟩
    walk_at "rd"
    obtain ⟨m, x, y, rfl, h1, h4, hx, hy, q⟩ := h
    refine ⟨_, rfl, m, rfl, h1, h4, ?_⟩
    refine ⟨_, rfl, (by show 2 ≤ sizeLine; decide), fun p hp => ?_⟩
    have s1 : Same H _ := Same.new (o := .tup [.str "turn", .str "any"]) hp
    refine word_t (by decide +kernel) (by rcases hx with rfl | rfl <;> decide +kernel) ⟨_, rfl, if_f rfl ?_⟩
    refine ⟨_, rfl, (by show 2 ≤ sizeLine; decide), fun p2 hp2 => ?_⟩
    have s2 := s1.trans (Same.new (o := .tup [.str "one", .str "two"]) hp2)
    exact word_t (by decide +kernel) (by rcases hy with rfl | rfl <;> decide +kernel) ⟨_, rfl, if_f rfl (q _ s2)⟩
def sp_look_at_start : Sp := fun vs H Q _ => ∃ m : Int, vs = [.int m] ∧ 0 ≤ m ∧ m ≤ 10 ^ 40 ∧ Q .non H
theorem ok_look_at_start (T : Txt K mg) : Glb P w K mg base 3 "look_at_start" p_look_at_start sp_look_at_start := by
  refine T.f_look_at_start.ok sc_look_at_start (fun vs H Q E h => ?_) (fun _ _ _ _ _ _ us hl => match us, hl with | [_], _ => rfl) fun cdv A outer s H vs Q E f hr h => ?_
  · obtain ⟨m, rfl, _⟩ := h
    rfl
  · obtain ⟨tk, hF⟩ := T.v_FARTHEST
    refine ⟨_, pss_one (ps_if (pt_not (pt_val (pe_callG (ok_is_between T) hr (pa_cons (pv 0) (pa_cons pe_int (pa_cons (pe_glob (v := .int (10 ^ 40)) rfl hF ⟨_, rfl⟩) pa_nil)))))) pss_never pss_nil), ?_⟩
    walk_at "rd"
    obtain ⟨m, rfl, h1, h4, q⟩ := h
    refine ⟨_, rfl, .inl ⟨m, 0, _, rfl, _, rfl, if_f ?_ q⟩⟩
    rw [decide_eq_true h1, decide_eq_true h4]
    rfl
/-! ### one putter's side -/
def sideF (pl ow : Int) : List (Str × V) := [("place", .int pl), ("own_number", .int ow)]
theorem sideF_place (pl ow : Int) : (sideF pl ow).lookup ("place" : Str) = some (.int pl) := by kernel_rfl
theorem sideF_own (pl ow : Int) : (sideF pl ow).lookup ("own_number" : Str) = some (.int ow) := by kernel_rfl
theorem sideF_put : putF "own_number" (.int 0) (putF "place" (.int 0) []) = sideF 0 0 := by kernel_rfl
theorem sideF_putP (pl ow y : Int) : putF "place" (.int y) (sideF pl ow) = sideF y ow := by kernel_rfl
theorem sideF_putO (pl ow y : Int) : putF "own_number" (.int y) (sideF pl ow) = sideF pl y := by kernel_rfl
def sp_side_init (K : PySem.W.Frag) : Sp := fun vs H Q _ => ∃ (x dx : Addr), vs = [.ref x] ∧ H x = some (.ins (aPutterSide K) dx []) ∧ Q .non (upd H x (.ins (aPutterSide K) dx (sideF 0 0)))
theorem ok_side_init (T : Txt K mg) : MkOk P w K mg base 1 "PutterSide" (aPutterSide K) p_side_init (sp_side_init K) := by
  refine T.i_PutterSide.ok sc_side_init (fun vs H Q E h => ?_) (fun _ _ _ _ _ _ us hl => match us, hl with | [_], _ => rfl) fun cdv A outer s H vs Q E f hr h => ?_
  · obtain ⟨x, dx, rfl, _⟩ := h
    rfl
  · refine ⟨_, pss_cons (ps_fld (pv 0) pe_int rfl) (pss_one (ps_fld (pv 0) pe_int rfl)), ?_⟩
    walk_at "rd"
    obtain ⟨x, dx, rfl, hx, q⟩ := h
    refine ⟨_, rfl, x, _, _, _, rfl, hx, T.c_PutterSide, T.n_PutterSide_place, (by show 0 < 1000; decide), ?_⟩
    refine ⟨_, rfl, x, _, _, _, rfl, upd_same, T.c_PutterSide, T.n_PutterSide_own_number, (by show 1 < 1000; decide), ?_⟩
    rw [upd_upd, sideF_put]
    exact q
end
end RI

set_option maxHeartbeats 4000000
namespace RI
open PySem PySem.Spec PyProof.Rows L2
local macro_rules | `(tactic| walk_at "rd") => `(tactic| dsimp only [tVar, tC, t2I, tOp, tUn, rI, rI0, rU, tCmp, tB, tAnd, tOr, tNot, tAndV, tOrV, tNotV, tIf, tNext, tSeq, tDrop, tRet, tRetN, tIfS, gName, gNil, gCons, gTup, gSub, tAsg, tPar, tAug, ipI, iList, iTup, iRng1, iRng2, tTest, tChain, rEq, rNe, tFld, sFld, tNil, tCons, tTup, tLst, tCall, tMeth, tMake, tCB, tSl, tPart, tNoPart, tProp, tMakeK, tMakeN, rIxL, rIxT, rSetL, tBM, tBM0, rAppend, rCat, C8.tCut, tYes])
/-! ### a putters' object: what it holds -/
inductive Nm where
  | test | number | write | tell
  deriving DecidableEq
def Nm.s : Nm → Str
  | .test => "test"
  | .number => "number"
  | .write => "write"
  | .tell => "tell"
def cycN (two : Bool) : List Nm := if two then [.test, .number, .write, .tell] else [.number, .write, .tell]
def cycV (two : Bool) : List V := (cycN two).map fun m => V.str m.s
structure Par where
  limit : Int
  turn : Bool
  two : Bool
structure Core where
  sides : List (Int × Int)
  taker : Int
  given : Int
  told : Int
  gone : Int
  made : Int
  found : Option (Int × Str × Int)
def abcd : List V := [.str "a", .str "b", .str "c", .str "d"]
def lettersV (m : Nat) : List V := abcd.take m ++ [.str "t"]
def ringF (p : Par) (c : Core) (cyc sl lt ol : Addr) (fv : V) : List (Str × V) := [("limit", .int p.limit), ("in_turn", .bl p.turn), ("cycle", .ref cyc), ("sides", .ref sl), ("letters", .ref lt), ("taker_place", .int c.taker), ("numbers_given", .int c.given), ("told", .int c.told),
  ("gone", .int c.gone), ("open_numbers", .ref ol), ("made", .int c.made), ("found", fv)]
def FoundAt (H : Hp) (fv : V) : Option (Int × Str × Int) → Prop
  | none => fv = .non
  | some (a, k, b) => ∃ t, fv = .ref t ∧ H t = some (.tup [.int a, .str k, .int b])
structure RingAt (K : PySem.W.Frag) (H : Hp) (x cyc sl lt ol : Addr) (ss : List Addr) (p : Par) (c : Core) (opn : List Int) : Prop where
  ob : ∃ dx fv, H x = some (.ins (aPutters K) dx (ringF p c cyc sl lt ol fv)) ∧ FoundAt H fv c.found
  cy : H cyc = some (.lst (cycV p.two))
  si : H sl = some (.lst (ss.map V.ref))
  le : H lt = some (.lst (lettersV c.sides.length))
  op : H ol = some (.lst (opn.map V.int))
  len : ss.length = c.sides.length
  sd : ∀ (k : Nat) (a : Addr), ss[k]? = some a → ∃ d pl ow, c.sides[k]? = some (pl, ow) ∧ H a = some (.ins (aPutterSide K) d (sideF pl ow))
  nd : ss.Nodup
def core0 (m : Nat) : Core := ⟨List.replicate m (0, 0), 0, 0, 0, 0, 0, none⟩
def tellS (b : Bool) : Str := if b then "turn" else "any"
def testS (b : Bool) : Str := if b then "two" else "one"
/-- the fields in the order of their stores -/
theorem ringF_put (p : Par) (m : Nat) (cyc sl lt ol c0 : Addr) : putF "found" .non (putF "made" (.int 0) (putF "open_numbers" (.ref ol) (putF "gone" (.int 0) (putF "told" (.int 0) (putF "numbers_given" (.int 0) (putF "taker_place" (.int 0) (putF "letters" (.ref lt) (putF "sides" (.ref sl)
    (putF "cycle" (.ref cyc) (putF "cycle" (.ref c0) (putF "in_turn" (.bl p.turn) (putF "limit" (.int p.limit) [])))))))))))) = ringF p (core0 m) cyc sl lt ol .non := by kernel_rfl
theorem cyc_put1 (a b : V) (c0 : Addr) : (putF "cycle" (.ref c0) (putF "in_turn" b (putF "limit" a []))).lookup ("cycle" : Str) = some (.ref c0) := by kernel_rfl
theorem cyc_put2 (a b : V) (c0 c1 : Addr) : putF "cycle" (.ref c1) (putF "cycle" (.ref c0) (putF "in_turn" b (putF "limit" a []))) = putF "cycle" (.ref c1) (putF "in_turn" b (putF "limit" a [])) := by kernel_rfl
theorem cyc_put3 (a b : V) (c1 : Addr) : (putF "cycle" (.ref c1) (putF "in_turn" b (putF "limit" a []))) = ([(("limit" : Str), a), ("in_turn", b), ("cycle", .ref c1)] : List (Str × V)) := by kernel_rfl
theorem ring_put4 (p : Par) (m : Nat) (cyc sl lt ol : Addr) : putF "found" .non (putF "made" (.int 0) (putF "open_numbers" (.ref ol) (putF "gone" (.int 0) (putF "told" (.int 0) (putF "numbers_given" (.int 0) (putF "taker_place" (.int 0) (putF "letters" (.ref lt) (putF "sides" (.ref sl)
    [("limit", V.int p.limit), ("in_turn", V.bl p.turn), ("cycle", V.ref cyc)])))))))) = ringF p (core0 m) cyc sl lt ol .non := by kernel_rfl
/-- PUTTERS[:m] -/
theorem r_cut {K : PySem.W.Frag} {H : Hp} {Q : VK} {a : Addr} {m : Nat} (h1 : 1 ≤ m) (h4 : m ≤ 4) (hS : SqT K H a abcd) (q : ∀ v H', Same H H' → SqT K H' v (abcd.take m) → Q (.ref v) H') : rSlA K (.ref a) none (some (m : Int)) H Q := by
  refine ⟨a, abcd, rfl, hS, fun h => ?_, fun h p hp => ?_⟩
  · refine q a H (Same.refl H) ?_
    have e : m = 4 := by
      have z : HT.sIx 4 4 (some (m : Int)) = 4 := h.2
      rw [HT.sIx_nat] at z
      omega
    rw [e]
    exact hS
  · refine q p _ (Same.new hp) ?_
    have e : cutV abcd none (some (m : Int)) = abcd.take m := by
      match m, h1, h4 with
      | 1, _, _ => rfl
      | 2, _, _ => rfl
      | 3, _, _ => rfl
      | 4, _, _ => rfl
    rw [e]
    exact SqT.of upd_same
section
variable {X : Cx} {a : Expr} {ta : TE}
theorem pt_tru {r : V → Hp → (Bool → Hp → Prop) → Prop} (ha : PE X a ta) (hr : TruR X r) (he : ∀ whole, isTrue a X.env whole = (do let v ← whole; standAt a.pos; holding [v] (truthy v)) := by intro _; rfl) :
    PT X a (fun σ H Q => ta σ H fun x H' => r x H' Q) :=
  ⟨fun pins s σ H _ I h => isTrue_plain (thn (ha.run pins s σ H _ I h) fun v s1 ⟨x, H1, I1, r1, q1⟩ => hr pins s1 σ H1 x v _ I1 r1 q1) (he _)⟩
def rListOf (K : PySem.W.Frag) : List V → Hp → VK → Prop := fun xs H Q => ∃ p ys, xs = [.ref p] ∧ (SqL K H p ys ∨ SqT K H p ys) ∧ ∀ l, H l = none → Q (.ref l) (upd H l (.lst ys))
theorem pe_list1 {p pos : Pos} (T : Txt X.K X.mg) (ha : PE X a ta) (hg : Gl X "list" := by rfl) (h1 : starEach [a] X.env = (false, eval a X.env) :: starEach [] X.env := by rfl) (hpl : (backTo pos (starEach [] X.env)).any (·.1) = false := by rfl) :
    PE X (.Call (.Name "list" p) [a] [] pos) (tCB (rListOf X.K) (tCons ta tNil)) :=
  pe_callTy call_list_of hg T.b_list (by decide +kernel) (pa_cons ha pa_nil h1) (he := h1) (hpl := hpl)
end
section
variable {P : Program} {w : World} {K : PySem.W.Frag} {mg : Str → Option Value} {base : Heap}
abbrev ksPutters : List Str := ["tell", "test", "at"]
def sp_putters_init (K : PySem.W.Frag) : Sp := fun vs H Q _ => ∃ (x dx sc : Addr) (r : Row) (n : Int) (m : Nat) (b1 b2 : Bool) (at_ : Int), vs = [.ref x, .ref sc, .int n, .int (m : Int), .str (tellS b1), .str (testS b2), .int at_] ∧ H x = some (.ins (aPutters K) dx []) ∧
  SchemeAt K H sc r ∧ RightC r n ∧ 1 ≤ m ∧ m ≤ 4 ∧ 0 ≤ at_ ∧ at_ ≤ 10 ^ 40 ∧
  ∀ cyc sl lt ol ss H', Keep [x] H H' → RingAt K H' x cyc sl lt ol ss ⟨roomF r.brim n (modF r.turn n), b1, b2⟩ (core0 m) [] → (∀ a, a ∈ cyc :: sl :: lt :: ol :: ss → H a = none) → Q .non H'
theorem ok_putters_init (T : Txt K mg) : MkKOk P w K mg base 11 "Putters" (aPutters K) 4 ksPutters p_putters_init (sp_putters_init K) := by
  refine T.i_Putters.okK sc_putters_init (fun vs H Q E h => ?_) 4 ksPutters (by simp) (fun _ _ _ _ _ _ us ws h1 h2 => match us, ws, h1, h2 with | [_, _, _, _], [_, _, _], _, _ => rfl) fun cdv A outer s H vs Q E f hr h => ?_
  · obtain ⟨x, dx, sc, r, n, m, b1, b2, at_, rfl, _⟩ := h
    rfl
  · have hr2 : Room 2 _ := hr.mono (by decide)
    refine ⟨_, pss_cons (ps_set (i := 7) sc_putters_init.nd rfl (Or.inl rfl) (pe_callG (ok_shared_verdict T) hr (pa_cons (pv 1) (pa_cons (pv 2) pa_nil))))
      (pss_cons (ps_if (pt_not (pt_tru (pv 7) (tru_own (ok_verdict_bool T) (hr.mono (by decide))))) pss_never pss_nil)
      (pss_cons (ps_expr (pe_callG (ok_look_at_switches T) (hr.mono (by decide)) (pa_cons (pv 3) (pa_cons (pv 4) (pa_cons (pv 5) pa_nil)))))
      (pss_cons (ps_expr (pe_callG (ok_look_at_start T) (hr.mono (by decide)) (pa_cons (pv 6) pa_nil)))
      (pss_cons (ps_fld (pv 0) (pe_prpG (ok_g_room T) hr2 T.c_Verdict (pv 7)) rfl)
      (pss_cons (ps_fld (pv 0) (pe_cmpR op_eq (pv 4) pe_str (nomark _)) rfl)
      (pss_cons (ps_fld (pv 0) (pe_lst (pa_cons pe_str (pa_cons pe_str (pa_cons pe_str pa_nil)))) rfl)
      (C8.pss_cut (ps_if (pt_cmpR op_eq (pv 5) pe_str (nomark _)) (pss_one (ps_fld (pv 0) (pe_op op_cat (pe_lst (pa_cons pe_str pa_nil)) (pe_fld (pv 0) rfl)) rfl)) pss_nil)
      (pss_cons (ps_fld (pv 0) (pe_lc (own := [("k", 8)]) (g := gName 8) rfl sc_putters_init.nd (pi_range1 rfl T.b_range (pa_cons (pv 3) pa_nil)) (blkOk_by (own := [("k", 8)]) (N := n_putters_init) (sc := defScope s_putters_init) (by decide +kernel))
        (fun _ _ _ _ _ => pg_name (i := 8) sc_putters_init.nd rfl (Or.inl rfl)) (fun _ _ _ _ _ => pts_nil) (fun _ _ _ _ _ => pe_mkG0 (ok_side_init T) hr2)) rfl)
      (pss_cons (ps_fld (pv 0) (pe_op op_cat (pe_list1 T (pe_slice sl_tupA (pe_glob (v := .ref (He.ga K "PUTTERS")) rfl T.v_PUTTERS rfl) po_none (po_some (pv 3)))) (pe_lst (pa_cons pe_str pa_nil))) rfl)
      (pss_cons (ps_fld (pv 0) pe_int rfl) (pss_cons (ps_fld (pv 0) pe_int rfl) (pss_cons (ps_fld (pv 0) pe_int rfl) (pss_cons (ps_fld (pv 0) pe_int rfl)
      (pss_cons (ps_fld (pv 0) (pe_lst pa_nil) rfl) (pss_cons (ps_fld (pv 0) pe_int rfl) (pss_one (ps_fld (pv 0) pe_non rfl))))))))))))))))), ?_⟩
    walk_at "rd"
    obtain ⟨x, dx, sc, r, n, m, b1, b2, at_, rfl, hx, hsc, R, m1, m4, a0, a40, q⟩ := h
    refine ⟨_, rfl, _, rfl, sc, r, n, rfl, hsc, R, fun vd H1 s1 hv => ?_⟩
    obtain ⟨dv, vw, hv1⟩ := id hv
    refine ⟨_, rfl, vd, dv, _, rfl, hv1, vd, _, rfl, hv, fun H2 s2 => ⟨true, rfl, if_f rfl ?_⟩⟩
    refine ⟨_, rfl, _, rfl, _, rfl, (m : Int), tellS b1, testS b2, rfl, by omega, by omega, (by cases b1; exact .inr rfl; exact .inl rfl), (by cases b2; exact .inl rfl; exact .inr rfl), fun H3 s3 => ?_⟩
    refine ⟨_, rfl, at_, rfl, a0, a40, ?_⟩
    have s13 : Same H H3 := (s1.trans s2).trans s3
    have hv3 := s3 _ _ (s2 _ _ hv1)
    have hx3 := s13 _ _ hx
    have nvx : vd ≠ x := ne_of hv1 (s1 _ _ hx) (fun z => by
      injection z with _ _ z3
      cases z3)
    refine ⟨_, rfl, vd, dv, _, rfl, hv3, ⟨vd, dv, _, _, rfl, hv3, verF_room .., ?_⟩⟩
    refine ⟨_, rfl, x, _, _, _, rfl, hx3, T.c_Putters, T.n_Putters_limit, (by show 0 < 1000; decide), ?_⟩
    have eb1 : decide (V.str (tellS b1) = V.str "turn") = b1 := by cases b1 <;> decide +kernel
    have eb2 : decide (V.str (testS b2) = V.str "two") = b2 := by cases b2 <;> decide +kernel
    refine ⟨_, rfl, rfl, _, rfl, x, _, _, _, rfl, upd_same, T.c_Putters, T.n_Putters_in_turn, (by show 1 < 1000; decide), ?_⟩
    rw [eb1, upd_upd]
    refine ⟨(by show 3 ≤ sizeLine; decide), fun c0 hc0 => ?_⟩
    have nc0 : c0 ≠ x := fun z => by
      rw [z, upd_same] at hc0
      cases hc0
    rw [upd_ne nc0] at hc0
    refine ⟨_, rfl, x, _, _, _, rfl, (by rw [upd_ne (Ne.symm nc0)]; exact upd_same), T.c_Putters, T.n_Putters_cycle, (by show 2 < 1000; decide), ?_⟩
    -- behind the first cycle
    have k3 : Keep [x] H H3 := Keep.same s13
    refine ⟨fun σ H' => σ = [some (.ref x), some (.ref sc), some (.int n), some (.int (m : Int)), some (.str (tellS b1)), some (.str (testS b2)), some (.int at_), some (.ref vd), none] ∧ ∃ cyc, Keep [x] H H' ∧ H cyc = none ∧ H' cyc = some (.lst (cycV b2)) ∧
      H' x = some (.ins (aPutters K) dx [("limit", .int (roomF r.brim n (modF r.turn n))), ("in_turn", .bl b1), ("cycle", .ref cyc)]), ?_, ?_⟩
    · refine ⟨_, rfl, rfl, _, rfl, ?_⟩
      rw [eb2]
      cases b2 with
      | false =>
        refine if_f rfl ⟨rfl, c0, ?_, s13.free hc0, ?_, ?_⟩
        · exact ((k3.set (List.mem_singleton.mpr rfl)).new (s13.free hc0)).set (List.mem_singleton.mpr rfl)
        · rw [upd_ne nc0, upd_same]
          rfl
        · rw [upd_same, cyc_put3]
      | true =>
        refine if_t rfl ⟨(by show 1 ≤ sizeLine; decide), fun c1 hc1 => ?_⟩
        have n1 : c1 ≠ x := fun z => by
          rw [z, upd_same] at hc1
          cases hc1
        rw [upd_ne n1] at hc1
        have n10 : c1 ≠ c0 := fun z => by
          rw [z, upd_same] at hc1
          cases hc1
        rw [upd_ne n10, upd_ne n1] at hc1
        refine ⟨_, rfl, x, _, _, _, _, rfl, (by rw [upd_ne (Ne.symm n1)]; exact upd_same), T.c_Putters, T.n_Putters_cycle, cyc_put1 .., ?_⟩
        refine ⟨c1, c0, _, _, rfl, rfl, upd_same, (by rw [upd_ne (Ne.symm n10), upd_ne nc0, upd_same]), (by show 4 ≤ sizeLine; decide), fun c2 hc2 => ?_⟩
        have n21 : c2 ≠ c1 := fun z => by
          rw [z, upd_same] at hc2
          cases hc2
        rw [upd_ne n21] at hc2
        have n2 : c2 ≠ x := fun z => by
          rw [z, upd_same] at hc2
          cases hc2
        rw [upd_ne n2] at hc2
        have n20 : c2 ≠ c0 := fun z => by
          rw [z, upd_same] at hc2
          cases hc2
        rw [upd_ne n20, upd_ne n2] at hc2
        refine ⟨_, rfl, x, _, _, _, rfl, (by rw [upd_ne (Ne.symm n2), upd_ne (Ne.symm n1)]; exact upd_same), T.c_Putters, T.n_Putters_cycle, (by rw [cyc_put3]; show 3 < 1000; decide), ?_⟩
        refine ⟨rfl, c2, ?_, s13.free hc2, ?_, ?_⟩
        · exact (((((k3.set (List.mem_singleton.mpr rfl)).new (s13.free hc0)).set (List.mem_singleton.mpr rfl)).new (s13.free hc1)).new (s13.free hc2)).set (List.mem_singleton.mpr rfl)
        · rw [upd_ne n2, upd_same]
          rfl
        · rw [upd_same, cyc_put2, cyc_put3]
    · rintro σ H5 ⟨rfl, cyc, k5, fcyc, hcyc5, hx5⟩
      -- self.sides
      refine ⟨_, rfl, (m : Int), rfl, by omega, by omega, fun D hD => ?_⟩
      have nDx : D ≠ x := fun z => by
        rw [z, hx5] at hD
        cases hD
      have fD : H D = none := by
        cases e : H D with
        | none => rfl
        | some o =>
          rw [k5 D o e (by simpa using nDx)] at hD
          cases hD
      rw [Int.toNat_natCast]
      refine lc_range (lo := 0) (n := m) (fun i H' => (∀ b o, H5 b = some o → H' b = some o) ∧ ∃ as : List Addr, as.length = i ∧ H' D = some (.lst (as.map V.ref)) ∧ as.Nodup ∧ (∀ a, a ∈ as → H5 a = none ∧ a ≠ D ∧ ∃ d, H' a = some (.ins (aPutterSide K) d (sideF 0 0))))
        ⟨Same.new hD, [], rfl, upd_same, List.nodup_nil, fun a ha => by cases ha⟩ ?_ ?_
      · rintro i H6 hi ⟨k6, as, hl, hD6, nd, hall⟩
        refine ⟨rfl, ?_⟩
        walk_at "rd"
        refine if_t rfl fun y dy hy hdy ney => ?_
        have nyD : y ≠ D := fun z => by
          rw [z, hD6] at hy
          cases hy
        have ndD : dy ≠ D := fun z => by
          rw [z, hD6] at hdy
          cases hdy
        refine ⟨y, dy, rfl, upd_same, ⟨rfl, as.map V.ref, ?_, ?_, ?_⟩⟩
        · rw [upd_ne (Ne.symm nyD), upd_ne (Ne.symm nyD), upd_ne (Ne.symm ndD)]
          exact hD6
        · rw [List.length_map, hl, sizeLine_eq]
          omega
        · have fy : H5 y = none := Same.free k6 hy
          have fdy : H5 dy = none := Same.free k6 hdy
          refine ⟨fun b o e => ?_, as ++ [y], by rw [List.length_append, hl]; rfl, ?_, ?_, ?_⟩
          · rw [upd_ne (ne_of_none e hD), upd_ne (ne_of_none e fy), upd_ne (ne_of_none e fy), upd_ne (ne_of_none e fdy)]
            exact k6 b o e
          · rw [upd_same, List.map_append]
            rfl
          · refine List.nodup_append.mpr ⟨nd, by simp, fun a ha b hb => ?_⟩
            have e : b = y := by simpa using hb
            rw [e]
            obtain ⟨_, _, d, h6⟩ := hall a ha
            exact ne_of_none h6 hy
          · intro a ha
            rcases List.mem_append.mp ha with ha | ha
            · obtain ⟨g1, g2, d, h6⟩ := hall a ha
              exact ⟨g1, g2, d, by rw [upd_ne g2, upd_ne (ne_of_none h6 hy), upd_ne (ne_of_none h6 hy), upd_ne (ne_of_none h6 hdy)]; exact h6⟩
            · have e : a = y := by simpa using ha
              rw [e]
              exact ⟨fy, nyD, dy, by rw [upd_ne nyD, upd_same]⟩
      · rintro H6 ⟨k6, as, hl, hD6, nd, hall⟩
        have hx6 := k6 _ _ hx5
        have hc6 := k6 _ _ hcyc5
        have ncx : cyc ≠ x := ne_of hcyc5 hx5 (fun z => nomatch z)
        have ncD : cyc ≠ D := ne_of_none hcyc5 hD
        refine ⟨_, rfl, x, _, _, _, rfl, hx6, T.c_Putters, T.n_Putters_sides, (by show 3 < 1000; decide), ?_⟩
        generalize hf7 : putF "sides" (V.ref D) [((("limit" : Str)), V.int (roomF r.brim n (modF r.turn n))), ("in_turn", V.bl b1), ("cycle", V.ref cyc)] = f7
        have l7 : f7.length = 4 := by
          rw [← hf7]
          kernel_rfl
        -- self.letters
        have kx6 : Keep [x] H H6 := k5.trans (Keep.same k6)
        have kx7 : Keep [x] H (upd H6 x (.ins (aPutters K) dx f7)) := kx6.set (List.mem_singleton.mpr rfl)
        refine ⟨_, rfl, _, rfl, r_cut m1 m4 (T.t_PUTTERS _) fun v H7 s7 hv7 => ?_⟩
        refine ⟨v, _, rfl, .inr hv7, fun l1 hl1 => ?_⟩
        refine ⟨(by show 1 ≤ sizeLine; decide), fun l2 hl2 => ?_⟩
        have n21 : l2 ≠ l1 := fun z => by
          rw [z, upd_same] at hl2
          cases hl2
        refine ⟨l1, l2, _, _, rfl, rfl, (by rw [upd_ne (Ne.symm n21)]; exact upd_same), upd_same, ?_, fun lt hlt => ?_⟩
        · rw [List.length_take, sizeLine_eq]
          show min m 4 + 1 ≤ 16777216
          omega
        have s8 : Same (upd H6 x (.ins (aPutters K) dx f7)) (upd (upd (upd H7 l1 (.lst (List.take m abcd))) l2 (.lst [.str "t"])) lt (.lst (List.take m abcd ++ [.str "t"]))) :=
          ((s7.trans (Same.new hl1)).trans (Same.new hl2)).trans (Same.new hlt)
        have hltS : upd (upd (upd H7 l1 (.lst (List.take m abcd))) l2 (.lst [.str "t"])) lt (.lst (List.take m abcd ++ [.str "t"])) lt = some (.lst (lettersV m)) := upd_same
        have f67 : ∀ {b : Addr}, upd H6 x (.ins (aPutters K) dx f7) b = none → H6 b = none := fun {b} hb => by
          have nb : b ≠ x := fun z => by
            rw [z, upd_same] at hb
            cases hb
          rw [upd_ne nb] at hb
          exact hb
        have flt : H6 lt = none := f67 (((s7.trans (Same.new hl1)).trans (Same.new hl2)).free hlt)
        generalize upd (upd (upd H7 l1 (.lst (List.take m abcd))) l2 (.lst [.str "t"])) lt (.lst (List.take m abcd ++ [.str "t"])) = H8 at s8 hltS ⊢
        have hx8 := s8 _ _ (upd_same (H := H6) (a := x) (o := .ins (aPutters K) dx f7))
        have nltx : lt ≠ x := (ne_of_none hx6 flt).symm
        refine ⟨_, rfl, x, _, _, _, rfl, hx8, T.c_Putters, T.n_Putters_letters, (by rw [l7]; decide), ?_⟩
        refine ⟨_, rfl, x, _, _, _, rfl, upd_same, T.c_Putters, T.n_Putters_taker_place, (by rw [← hf7]; show 5 < 1000; decide), ?_⟩
        refine ⟨_, rfl, x, _, _, _, rfl, upd_same, T.c_Putters, T.n_Putters_numbers_given, (by rw [← hf7]; show 6 < 1000; decide), ?_⟩
        refine ⟨_, rfl, x, _, _, _, rfl, upd_same, T.c_Putters, T.n_Putters_told, (by rw [← hf7]; show 7 < 1000; decide), ?_⟩
        refine ⟨_, rfl, x, _, _, _, rfl, upd_same, T.c_Putters, T.n_Putters_gone, (by rw [← hf7]; show 8 < 1000; decide), ?_⟩
        refine ⟨(by show 0 ≤ sizeLine; decide), fun ol hol => ?_⟩
        rw [upd_upd, upd_upd, upd_upd, upd_upd] at hol ⊢
        have nox : ol ≠ x := fun z => by
          rw [z, upd_same] at hol
          cases hol
        rw [upd_ne nox] at hol
        refine ⟨_, rfl, x, _, _, _, rfl, (by rw [upd_ne (Ne.symm nox)]; exact upd_same), T.c_Putters, T.n_Putters_open_numbers, (by rw [← hf7]; show 9 < 1000; decide), ?_⟩
        refine ⟨_, rfl, x, _, _, _, rfl, upd_same, T.c_Putters, T.n_Putters_made, (by rw [← hf7]; show 10 < 1000; decide), ?_⟩
        refine ⟨_, rfl, x, _, _, _, rfl, upd_same, T.c_Putters, T.n_Putters_found, (by rw [← hf7]; show 11 < 1000; decide), ?_⟩
        rw [upd_upd, upd_upd, ← hf7]
        have e := ring_put4 ⟨roomF r.brim n (modF r.turn n), b1, b2⟩ m cyc D lt ol
        rw [e]
        have fol : H6 ol = none := f67 (s8.free hol)
        have f5 : ∀ {b : Addr}, H6 b = none → H b = none := fun {b} hb => by
          cases e : H b with
          | none => rfl
          | some o =>
            have nb : b ≠ x := (ne_of_none hx6 hb).symm
            rw [kx6 b o e (by simpa using nb)] at hb
            cases hb
        have off : ∀ (b : Addr) (o : HO) (z : HO) (y : HO), H6 b = some o → b ≠ x → upd (upd (upd H8 x z) ol (.lst [])) x y b = some o := fun b o z y e nb => by
          rw [upd_ne nb, upd_ne (ne_of_none e fol), upd_ne nb]
          exact s8 _ _ (by rw [upd_ne nb]; exact e)
        refine q cyc D lt ol as _ ?_ ⟨⟨dx, .non, upd_same, rfl⟩, ?_, ?_, ?_, ?_, ?_, ?_, nd⟩ ?_
        · intro b o eb nb
          have nb' : b ≠ x := by simpa using nb
          exact off b o _ _ (kx6 b o eb nb) nb'
        · exact off cyc _ _ _ hc6 ncx
        · exact off D _ _ _ hD6 nDx
        · rw [upd_ne nltx, upd_ne (ne_of_none hltS hol), upd_ne nltx, hltS]
          show some (HO.lst (lettersV m)) = some (HO.lst (lettersV (List.replicate m ((0 : Int), (0 : Int))).length))
          rw [List.length_replicate]
        · rw [upd_ne nox, upd_same]
          rfl
        · show as.length = (List.replicate m ((0 : Int), (0 : Int))).length
          rw [List.length_replicate, hl]
        · intro k a hk
          obtain ⟨g1, g2, d, h6⟩ := hall a (List.mem_of_getElem? hk)
          have hkm : k < m := by
            rw [← hl]
            exact (List.getElem?_eq_some_iff.mp hk).1
          refine ⟨d, 0, 0, ?_, off a _ _ _ h6 ?_⟩
          · show (List.replicate m ((0 : Int), (0 : Int)))[k]? = some (0, 0)
            rw [List.getElem?_replicate, if_pos hkm]
          · exact (ne_of_none hx5 g1).symm
        · intro a ha
          simp only [List.mem_cons] at ha
          rcases ha with rfl | rfl | rfl | rfl | ha
          · exact fcyc
          · exact fD
          · exact f5 flt
          · exact f5 fol
          · obtain ⟨g1, g2, d, h6⟩ := hall a ha
            cases e : H a with
            | none => rfl
            | some o =>
              have nb : a ≠ x := (ne_of_none hx5 g1).symm
              rw [k5 a o e (by simpa using nb)] at g1
              cases g1
end
end RI

set_option maxHeartbeats 4000000
namespace RI
open PySem PySem.Spec PyProof.Rows L2
local macro_rules | `(tactic| walk_at "rd") => `(tactic| dsimp only [tVar, tC, t2I, tOp, tUn, rI, rI0, rU, tCmp, tB, tAnd, tOr, tNot, tAndV, tOrV, tNotV, tIf, tNext, tSeq, tDrop, tRet, tRetN, tIfS, gName, gNil, gCons, gTup, gSub, tAsg, tPar, tAug, ipI, iList, iTup, iRng1, iRng2, tTest, tChain, rEq, rNe, tFld, sFld, tNil, tCons, tTup, tLst, tCall, tMeth, tMake, tCB, tSl, tPart, tNoPart, tProp, tMakeK, tMakeN, rIxL, rIxT, rSetL, tBM, tBM0, rAppend, rCat, C8.tCut, tYes])
/-! ### heaps: tuples stay, all else but what stands at S -/
def Kp (S : List Addr) (H H' : Hp) : Prop := ∀ b o, H b = some o → (b ∉ S ∨ ∃ xs, o = .tup xs) → H' b = some o
theorem Kp.refl {S : List Addr} (H : Hp) : Kp S H H := fun _ _ h _ => h
theorem Kp.same {S : List Addr} {H H' : Hp} (k : Same H H') : Kp S H H' := fun b o h _ => k b o h
theorem Kp.trans {S : List Addr} {H H1 H2 : Hp} (a : Kp S H H1) (b : Kp S H1 H2) : Kp S H H2 := fun c o h n => b c o (a c o h n) n
theorem Kp.mono {S T : List Addr} {H H' : Hp} (a : Kp S H H') (h : ∀ b, b ∈ S → b ∈ T) : Kp T H H' := fun c o e n => a c o e (n.elim (fun z => .inl fun y => z (h c y)) .inr)
theorem Kp.keep {S : List Addr} {H H' : Hp} (a : Kp S H H') : Keep S H H' := fun c o e n => a c o e (.inl n)
theorem Kp.tup {S : List Addr} {H H' : Hp} (a : Kp S H H') {t : Addr} {xs : List V} (h : H t = some (.tup xs)) : H' t = some (.tup xs) := a t _ h (.inr ⟨xs, rfl⟩)
theorem Kp.new {S : List Addr} {H : Hp} {p : Addr} {o : HO} (h : H p = none) : Kp S H (upd H p o) := Kp.same (Same.new h)
/-- a store at p, which is no tuple -/
theorem Kp.set {S : List Addr} {H : Hp} {p : Addr} {o u : HO} (h : p ∈ S) (hp : H p = some u) (hu : ∀ xs, u ≠ .tup xs) : Kp S H (upd H p o) := fun c v e n => by
  have hc : c ≠ p := fun z => by
    rw [z] at e n
    rcases n with n | ⟨xs, n⟩
    · exact n h
    · rw [hp, n] at e
      exact hu xs (Option.some.inj e)
  rw [upd_ne hc]
  exact e
theorem Kp.free {S : List Addr} {H H' : Hp} (a : Kp S H H') {p : Addr} (h : H' p = none) (hp : p ∉ S) : H p = none := by
  cases e : H p with
  | none => rfl
  | some o =>
    rw [a p o e (.inl hp)] at h
    cases h
/-! ### a ring's object: lookups and stores -/
section
variable (p : Par) (c : Core) (cyc sl lt ol : Addr) (fv : V)
theorem rf_limit : (ringF p c cyc sl lt ol fv).lookup ("limit" : Str) = some (.int p.limit) := by kernel_rfl
theorem rf_turn : (ringF p c cyc sl lt ol fv).lookup ("in_turn" : Str) = some (.bl p.turn) := by kernel_rfl
theorem rf_cycle : (ringF p c cyc sl lt ol fv).lookup ("cycle" : Str) = some (.ref cyc) := by kernel_rfl
theorem rf_sides : (ringF p c cyc sl lt ol fv).lookup ("sides" : Str) = some (.ref sl) := by kernel_rfl
theorem rf_letters : (ringF p c cyc sl lt ol fv).lookup ("letters" : Str) = some (.ref lt) := by kernel_rfl
theorem rf_taker : (ringF p c cyc sl lt ol fv).lookup ("taker_place" : Str) = some (.int c.taker) := by kernel_rfl
theorem rf_given : (ringF p c cyc sl lt ol fv).lookup ("numbers_given" : Str) = some (.int c.given) := by kernel_rfl
theorem rf_told : (ringF p c cyc sl lt ol fv).lookup ("told" : Str) = some (.int c.told) := by kernel_rfl
theorem rf_gone : (ringF p c cyc sl lt ol fv).lookup ("gone" : Str) = some (.int c.gone) := by kernel_rfl
theorem rf_open : (ringF p c cyc sl lt ol fv).lookup ("open_numbers" : Str) = some (.ref ol) := by kernel_rfl
theorem rf_made : (ringF p c cyc sl lt ol fv).lookup ("made" : Str) = some (.int c.made) := by kernel_rfl
theorem rf_found : (ringF p c cyc sl lt ol fv).lookup ("found" : Str) = some fv := by kernel_rfl
theorem rf_mWaits : (ringF p c cyc sl lt ol fv).lookup ("waits" : Str) = none := by kernel_rfl
theorem rf_mAct : (ringF p c cyc sl lt ol fv).lookup ("act" : Str) = none := by kernel_rfl
theorem rf_mTaker : (ringF p c cyc sl lt ol fv).lookup ("step_taker" : Str) = none := by kernel_rfl
theorem rf_mStep : (ringF p c cyc sl lt ol fv).lookup ("step" : Str) = none := by kernel_rfl
theorem rp_taker (y : Int) : putF "taker_place" (.int y) (ringF p c cyc sl lt ol fv) = ringF p { c with taker := y } cyc sl lt ol fv := by kernel_rfl
theorem rp_given (y : Int) : putF "numbers_given" (.int y) (ringF p c cyc sl lt ol fv) = ringF p { c with given := y } cyc sl lt ol fv := by kernel_rfl
theorem rp_told (y : Int) : putF "told" (.int y) (ringF p c cyc sl lt ol fv) = ringF p { c with told := y } cyc sl lt ol fv := by kernel_rfl
theorem rp_gone (y : Int) : putF "gone" (.int y) (ringF p c cyc sl lt ol fv) = ringF p { c with gone := y } cyc sl lt ol fv := by kernel_rfl
theorem rp_made (y : Int) : putF "made" (.int y) (ringF p c cyc sl lt ol fv) = ringF p { c with made := y } cyc sl lt ol fv := by kernel_rfl
theorem rp_found (y : V) : putF "found" y (ringF p c cyc sl lt ol fv) = ringF p c cyc sl lt ol y := by kernel_rfl
theorem rf_len : (ringF p c cyc sl lt ol fv).length < 1000 := by show 12 < 1000; decide
end
theorem rf_ne_side {p : Par} {c : Core} {cyc sl lt ol : Addr} {fv : V} {a b : Int} : ringF p c cyc sl lt ol fv ≠ sideF a b := fun z => by
  have e : (ringF p c cyc sl lt ol fv).length = (sideF a b).length := by rw [z]
  have e' : (12 : Nat) = 2 := e
  omega
section
variable {K : PySem.W.Frag} {H H' : Hp} {x cyc sl lt ol : Addr} {ss : List Addr} {p : Par} {c c' : Core} {opn : List Int}
/-- no two of the changing things are one, none is one of the standing ones -/
structure Apart (x cyc sl lt ol : Addr) (ss : List Addr) : Prop where
  xo : x ≠ ol
  xc : x ≠ cyc
  xs : x ≠ sl
  xl : x ≠ lt
  oc : ol ≠ cyc
  os : ol ≠ sl
  ot : ol ≠ lt
  sx : ∀ a, a ∈ ss → a ≠ x ∧ a ≠ ol ∧ a ≠ cyc ∧ a ≠ sl ∧ a ≠ lt
theorem cycV_head (two : Bool) : ∃ s r, cycV two = V.str s :: r := by
  cases two
  · exact ⟨_, _, rfl⟩
  · exact ⟨_, _, rfl⟩
theorem lettersV_head (m : Nat) : ∃ s r, lettersV m = V.str s :: r := by
  match m with
  | 0 => exact ⟨_, _, rfl⟩
  | m + 1 => exact ⟨_, _, rfl⟩
theorem ints_ne_str {l : List Int} {s : Str} {r : List V} : HO.lst (l.map V.int) ≠ HO.lst (V.str s :: r) := fun z => by
  have z' : l.map V.int = V.str s :: r := HO.lst.inj z
  cases l with
  | nil => cases z'
  | cons a l => cases z'
theorem RingAt.apart (R : RingAt K H x cyc sl lt ol ss p c opn) (h1 : 1 ≤ ss.length) : Apart x cyc sl lt ol ss := by
  obtain ⟨dx, fv, hx, _⟩ := R.ob
  have li : ∀ {a : Addr} {xs : List V}, H a = some (.lst xs) → x ≠ a := fun e => ne_of hx e (fun z => nomatch z)
  refine ⟨li R.op, li R.cy, li R.si, li R.le, ?_, ?_, ?_, fun a ha => ?_⟩
  · obtain ⟨s, r, e⟩ := cycV_head p.two
    exact ne_of R.op R.cy (by rw [e]; exact ints_ne_str)
  · refine ne_of R.op R.si (fun z => ?_)
    have z' : opn.map V.int = ss.map V.ref := HO.lst.inj z
    cases ss with
    | nil => cases h1
    | cons a l =>
      cases opn with
      | nil => cases z'
      | cons b m => cases z'
  · obtain ⟨s, r, e⟩ := lettersV_head c.sides.length
    exact ne_of R.op R.le (by rw [e]; exact ints_ne_str)
  · obtain ⟨k, hk⟩ := List.getElem?_of_mem ha
    obtain ⟨d, pl, ow, _, h⟩ := R.sd k a hk
    have ls : ∀ {b : Addr} {xs : List V}, H b = some (.lst xs) → a ≠ b := fun e => ne_of h e (fun z => nomatch z)
    refine ⟨ne_of h hx (fun z => ?_), ls R.op, ls R.cy, ls R.si, ls R.le⟩
    injection z with _ _ z3
    exact rf_ne_side z3.symm
theorem FoundAt.kp {fv : V} {f : Option (Int × Str × Int)} {S : List Addr} (k : Kp S H H') (h : FoundAt H fv f) : FoundAt H' fv f := by
  cases f with
  | none => exact h
  | some q =>
    obtain ⟨a, s, b⟩ := q
    obtain ⟨t, e, h⟩ := h
    exact ⟨t, e, k.tup h⟩
/-- nothing of the ring is touched -/
theorem RingAt.kp {S : List Addr} (R : RingAt K H x cyc sl lt ol ss p c opn) (k : Kp S H H') (hS : ∀ a, a ∈ x :: cyc :: sl :: lt :: ol :: ss → a ∉ S) : RingAt K H' x cyc sl lt ol ss p c opn := by
  obtain ⟨dx, fv, hx, hf⟩ := R.ob
  refine ⟨⟨dx, fv, k _ _ hx (.inl (hS _ (by simp))), hf.kp k⟩, k _ _ R.cy (.inl (hS _ (by simp))), k _ _ R.si (.inl (hS _ (by simp))), k _ _ R.le (.inl (hS _ (by simp))), k _ _ R.op (.inl (hS _ (by simp))), R.len, fun j a hj => ?_, R.nd⟩
  obtain ⟨d, pl, ow, h1, h2⟩ := R.sd j a hj
  exact ⟨d, pl, ow, h1, k _ _ h2 (.inl (hS _ (by simp [List.mem_of_getElem? hj])))⟩
theorem RingAt.new {q : Addr} {o : HO} (R : RingAt K H x cyc sl lt ol ss p c opn) (h : H q = none) : RingAt K (upd H q o) x cyc sl lt ol ss p c opn := R.kp (S := []) (Kp.new h) fun a _ => by simp
/-- the object's own fields -/
theorem RingAt.setX {dx : Addr} {fv : V} (R : RingAt K H x cyc sl lt ol ss p c opn) (A : Apart x cyc sl lt ol ss) (hs : c'.sides = c.sides) (hf : FoundAt H fv c'.found) : RingAt K (upd H x (.ins (aPutters K) dx (ringF p c' cyc sl lt ol fv))) x cyc sl lt ol ss p c' opn := by
  obtain ⟨d0, f0, hx, _⟩ := R.ob
  refine ⟨⟨dx, fv, upd_same, ?_⟩, by rw [upd_ne A.xc.symm]; exact R.cy, by rw [upd_ne A.xs.symm]; exact R.si, by rw [upd_ne A.xl.symm, hs]; exact R.le, by rw [upd_ne A.xo.symm]; exact R.op, by rw [hs]; exact R.len, fun j a hj => ?_, R.nd⟩
  · exact hf.kp (S := [x]) (Kp.set (by simp) hx (fun xs z => nomatch z))
  · obtain ⟨d, pl, ow, h1, h2⟩ := R.sd j a hj
    exact ⟨d, pl, ow, by rw [hs]; exact h1, by rw [upd_ne (A.sx a (List.mem_of_getElem? hj)).1]; exact h2⟩
/-- the open numbers -/
theorem RingAt.setO {opn' : List Int} (R : RingAt K H x cyc sl lt ol ss p c opn) (A : Apart x cyc sl lt ol ss) : RingAt K (upd H ol (.lst (opn'.map V.int))) x cyc sl lt ol ss p c opn' := by
  obtain ⟨d0, f0, hx, hf⟩ := R.ob
  refine ⟨⟨d0, f0, by rw [upd_ne A.xo]; exact hx, hf.kp (S := [ol]) (Kp.set (by simp) R.op (fun xs z => nomatch z))⟩, by rw [upd_ne A.oc.symm]; exact R.cy, by rw [upd_ne A.os.symm]; exact R.si, by rw [upd_ne A.ot.symm]; exact R.le, upd_same, R.len, fun j a hj => ?_, R.nd⟩
  obtain ⟨d, pl, ow, h1, h2⟩ := R.sd j a hj
  exact ⟨d, pl, ow, h1, by rw [upd_ne (A.sx a (List.mem_of_getElem? hj)).2.1]; exact h2⟩
theorem nd_ix' {l : List Addr} (h : l.Nodup) {i j : Nat} {a : Addr} (hi : l[i]? = some a) (hj : l[j]? = some a) : i = j := by
  obtain ⟨h1, e1⟩ := List.getElem?_eq_some_iff.mp hi
  obtain ⟨h2, e2⟩ := List.getElem?_eq_some_iff.mp hj
  exact (List.getElem_inj h).mp (e1.trans e2.symm)
/-- a putter's side -/
theorem RingAt.setS {k : Nat} {a d : Addr} {pl ow : Int} (R : RingAt K H x cyc sl lt ol ss p c opn) (A : Apart x cyc sl lt ol ss) (hk : ss[k]? = some a) :
    RingAt K (upd H a (.ins (aPutterSide K) d (sideF pl ow))) x cyc sl lt ol ss p { c with sides := c.sides.set k (pl, ow) } opn := by
  obtain ⟨d0, f0, hx, hf⟩ := R.ob
  obtain ⟨n1, n2, n3, n4, n5⟩ := A.sx a (List.mem_of_getElem? hk)
  obtain ⟨da, pa, oa, _, ha⟩ := R.sd k a hk
  have hkl : k < c.sides.length := by
    rw [← R.len]
    exact (List.getElem?_eq_some_iff.mp hk).1
  refine ⟨⟨d0, f0, by rw [upd_ne n1.symm]; exact hx, hf.kp (S := [a]) (Kp.set (by simp) ha (fun xs z => nomatch z))⟩, by rw [upd_ne n3.symm]; exact R.cy, by rw [upd_ne n4.symm]; exact R.si, ?_, by rw [upd_ne n2.symm]; exact R.op, ?_, fun j b hj => ?_, R.nd⟩
  · rw [upd_ne n5.symm]
    show H lt = some (.lst (lettersV (c.sides.set k (pl, ow)).length))
    rw [List.length_set]
    exact R.le
  · show ss.length = (c.sides.set k (pl, ow)).length
    rw [List.length_set]
    exact R.len
  · by_cases hjk : j = k
    · subst hjk
      have e : b = a := Option.some.inj (hj.symm.trans hk)
      subst e
      exact ⟨d, pl, ow, List.getElem?_set_self hkl, upd_same⟩
    · obtain ⟨db, pb, ob, h1, h2⟩ := R.sd j b hj
      have nab : b ≠ a := fun z => hjk (nd_ix' R.nd hj (by rw [z]; exact hk))
      exact ⟨db, pb, ob, by show (c.sides.set k (pl, ow))[j]? = _; rw [List.getElem?_set_ne (fun z => hjk z.symm)]; exact h1, by rw [upd_ne nab]; exact h2⟩
end
end RI

set_option maxHeartbeats 4000000
namespace RI
open PySem PySem.Spec PyProof.Rows L2
local macro_rules | `(tactic| walk_at "rd") => `(tactic| dsimp only [tVar, tC, t2I, tOp, tUn, rI, rI0, rU, tCmp, tB, tAnd, tOr, tNot, tAndV, tOrV, tNotV, tIf, tNext, tSeq, tDrop, tRet, tRetN, tIfS, gName, gNil, gCons, gTup, gSub, tAsg, tPar, tAug, ipI, iList, iTup, iRng1, iRng2, tTest, tChain, rEq, rNe, tFld, sFld, tNil, tCons, tTup, tLst, tCall, tMeth, tMake, tCB, tSl, tPart, tNoPart, tProp, tMakeK, tMakeN, rIxL, rIxT, rSetL, tBM, tBM0, rAppend, rCat, C8.tCut, tYes])
/-! ### the program's steps, plainly -/
def firstN (two : Bool) : Nm := if two then .test else .number
def waitsB (p : Par) (c : Core) (ow : Int) (nm : Nm) : Bool := if nm = .tell then (p.turn && !decide (c.told + 1 = ow)) else (decide (nm = firstN p.two) && decide (c.given - c.gone = p.limit))
def actC (p : Par) (c : Core) (opn : List Int) (k : Nat) (pl ow : Int) : Nm → Core × List Int
  | .number => ({ c with given := c.given + 1, sides := c.sides.set k (pl, c.given + 1), found := if p.limit < c.given + 1 - c.gone then some (c.made, "over", c.given + 1) else c.found }, opn ++ [c.given + 1])
  | .write => (c, opn.erase ow)
  | .tell => ({ c with told := c.told + 1 }, opn)
  | .test => (c, opn)
def tName (i : Int) : Str := if i = 0 then "look" else if i = 1 then "read" else "tell"
def takeC (c : Core) (opn : List Int) : Core :=
  if c.taker = 0 then (if c.told = c.gone then c else { c with taker := 1 })
  else if c.taker = 1 then { c with found := if c.gone + 1 ∈ opn then some (c.made, "read", c.gone + 1) else c.found, taker := 2 }
  else { c with gone := c.gone + 1, taker := 0 }
theorem dec_vi (a b : Int) : decide (V.int a = V.int b) = decide (a = b) := by
  by_cases h : a = b
  · rw [h, decide_eq_true rfl, decide_eq_true rfl]
  · rw [decide_eq_false h, decide_eq_false (fun z => h (V.int.inj z))]
theorem nm_tell (nm : Nm) : decide (V.str nm.s = V.str "tell") = decide (nm = .tell) := by cases nm <;> decide +kernel
theorem nm_number (nm : Nm) : decide (V.str nm.s = V.str "number") = decide (nm = .number) := by cases nm <;> decide +kernel
theorem nm_write (nm : Nm) : decide (V.str nm.s = V.str "write") = decide (nm = .write) := by cases nm <;> decide +kernel
theorem nm_first (nm : Nm) (two : Bool) : decide (V.str nm.s = V.str (firstN two).s) = decide (nm = firstN two) := by cases nm <;> cases two <;> decide +kernel
theorem cycV_first (two : Bool) : (cycV two)[0]? = some (.str (firstN two).s) := by cases two <;> rfl
theorem inV_int (i : Int) : ∀ l : List Int, inV (.int i) (l.map V.int) = decide (i ∈ l)
  | [] => rfl
  | a :: l => by
    have ih := inV_int i l
    have e : inV (.int i) ((a :: l).map V.int) = ((a == i) || inV (.int i) (l.map V.int)) := rfl
    rw [e, ih]
    by_cases h : a = i
    · rw [decide_eq_true (show i ∈ a :: l by rw [h]; exact List.mem_cons_self)]
      simp [h]
    · have e2 : (a == i) = false := by simpa using h
      rw [e2, Bool.false_or]
      by_cases h2 : i ∈ l
      · rw [decide_eq_true h2, decide_eq_true (List.mem_cons_of_mem _ h2)]
      · rw [decide_eq_false h2, decide_eq_false (fun z => by
          rcases List.mem_cons.mp z with z | z
          · exact h z.symm
          · exact h2 z)]
theorem flat_ints (l : List Int) : (l.map V.int).all flatV = true := by
  rw [List.all_map]
  exact List.all_eq_true.mpr fun _ _ => rfl
section
variable {P : Program} {w : World} {K : PySem.W.Frag} {mg : Str → Option Value} {base : Heap}
def sp_waits (K : PySem.W.Frag) : Sp := fun vs H Q _ => ∃ (x cyc sl lt ol : Addr) (ss : List Addr) (p : Par) (c : Core) (opn : List Int) (k : Nat) (a : Addr) (pl ow : Int) (nm : Nm), vs = [.ref x, .ref a, .str nm.s] ∧ RingAt K H x cyc sl lt ol ss p c opn ∧ ss[k]? = some a ∧ c.sides[k]? = some (pl, ow) ∧
  Q (.bl (waitsB p c ow nm)) H
theorem ok_waits (T : Txt K mg) : MthOk P w K mg base 1 (aPutters K) "waits" p_waits (sp_waits K) := by
  refine T.m_waits.ok sc_waits (fun vs H Q E h => ?_) (fun _ _ _ _ _ _ us hl => match us, hl with | [_, _, _], _ => rfl) fun cdv A outer s H vs Q E f hr h => ?_
  · obtain ⟨x, cyc, sl, lt, ol, ss, p, c, opn, k, a, pl, ow, nm, rfl, _⟩ := h
    rfl
  · refine ⟨_, pss_cons (ps_if (pt_cmpR op_eq (pv 2) pe_str (nomark _)) (pss_one (ps_ret (pe_and (pe_fld (pv 0) rfl) (pe_one (pe_cmpR op_ne (pe_op op_add (pe_fld (pv 0) rfl) pe_int) (pe_fld (pv 1) rfl) (nomark _)))))) pss_nil)
      (pss_one (ps_ret (pe_and (pe_cmpR op_eq (pv 2) (pe_ix ix_list (pe_fld (pv 0) rfl) pe_int (fun _ _ => rfl)) (nomark _)) (pe_one (pe_cmpR op_eq (pe_op op_sub (pe_fld (pv 0) rfl) (pe_fld (pv 0) rfl)) (pe_fld (pv 0) rfl) (nomark _)))))), ?_⟩
    walk_at "rd"
    obtain ⟨x, cyc, sl, lt, ol, ss, p, c, opn, k, a, pl, ow, nm, rfl, R, hk, hs, q⟩ := h
    obtain ⟨dx, fv, hx, _⟩ := R.ob
    obtain ⟨d, pl', ow', hs', ha⟩ := R.sd k a hk
    rw [hs] at hs'
    cases hs'
    unfold waitsB at q
    refine ⟨_, rfl, rfl, _, rfl, ?_⟩
    rw [nm_tell]
    refine if_d (fun h => ?_) (fun h => ?_)
    · rw [if_pos h] at q
      refine ⟨_, rfl, x, _, _, _, _, rfl, hx, T.c_Putters, T.n_Putters_in_turn, rf_turn .., _, rfl, ?_⟩
      cases ht : p.turn with
      | false =>
        rw [ht, Bool.false_and] at q
        exact if_f rfl q
      | true =>
        rw [ht, Bool.true_and] at q
        refine if_t rfl ⟨_, rfl, x, _, _, _, _, rfl, hx, T.c_Putters, T.n_Putters_told, rf_told .., _, _, rfl, rfl, _, rfl, a, _, _, _, _, rfl, ha, T.c_PutterSide, T.n_PutterSide_own_number, sideF_own .., rfl, ?_⟩
        rw [dec_vi]
        exact q
    · rw [if_neg h] at q
      refine ⟨_, rfl, _, rfl, x, _, _, _, _, rfl, hx, T.c_Putters, T.n_Putters_cycle, rf_cycle .., cyc, _, 0, _, rfl, rfl, SqL.of R.cy, atI_nat (j := 0) (cycV_first _), rfl, _, rfl, ?_⟩
      rw [nm_first]
      refine if_d (fun h2 => ?_) (fun h2 => ?_)
      · rw [decide_eq_true h2, Bool.true_and] at q
        refine ⟨_, rfl, x, _, _, _, _, rfl, hx, T.c_Putters, T.n_Putters_numbers_given, rf_given .., _, rfl, x, _, _, _, _, rfl, hx, T.c_Putters, T.n_Putters_gone, rf_gone .., _, _, rfl, rfl, _, rfl, x, _, _, _, _, rfl, hx, T.c_Putters, T.n_Putters_limit, rf_limit .., rfl, ?_⟩
        rw [dec_vi]
        exact q
      · rw [decide_eq_false h2, Bool.false_and] at q
        exact q
def sp_act (K : PySem.W.Frag) : Sp := fun vs H Q _ => ∃ (x cyc sl lt ol : Addr) (ss : List Addr) (p : Par) (c : Core) (opn : List Int) (k : Nat) (a : Addr) (pl ow : Int) (nm : Nm), vs = [.ref x, .ref a, .str nm.s] ∧ RingAt K H x cyc sl lt ol ss p c opn ∧ ss[k]? = some a ∧ c.sides[k]? = some (pl, ow) ∧
  (nm = .write → ow ∈ opn) ∧ opn.length < 1000 ∧ ∀ H', Kp (x :: ol :: ss) H H' → RingAt K H' x cyc sl lt ol ss p (actC p c opn k pl ow nm).1 (actC p c opn k pl ow nm).2 → Q .non H'
theorem ok_act (T : Txt K mg) : MthOk P w K mg base 1 (aPutters K) "act" p_act (sp_act K) := by
  refine T.m_act.ok sc_act (fun vs H Q E h => ?_) (fun _ _ _ _ _ _ us hl => match us, hl with | [_, _, _], _ => rfl) fun cdv A outer s H vs Q E f hr h => ?_
  · obtain ⟨x, cyc, sl, lt, ol, ss, p, c, opn, k, a, pl, ow, nm, rfl, _⟩ := h
    rfl
  · refine ⟨_, pss_one (ps_if (pt_cmpR op_eq (pv 2) pe_str (nomark _))
        (pss_cons (ps_fld (pv 0) (pe_op op_add (pe_fld (pv 0) rfl) pe_int) rfl) (pss_cons (ps_fld (pv 1) (pe_fld (pv 0) rfl) rfl)
          (pss_cons (ps_expr (pe_bm PySem.F.plainAttrs_list PySem.F.slot_list_append PySem.F.type_list_append mt_append (pe_fld (pv 0) rfl) (pa_cons (pe_fld (pv 1) rfl) pa_nil)))
          (pss_one (ps_if (pt_cmpR op_gt (pe_op op_sub (pe_fld (pv 0) rfl) (pe_fld (pv 0) rfl)) (pe_fld (pv 0) rfl) (nomark _)) (pss_one (ps_fld (pv 0) (pe_tup (pa_cons (pe_fld (pv 0) rfl) (pa_cons pe_str (pa_cons (pe_fld (pv 0) rfl) pa_nil)))) rfl)) pss_nil)))))
        (pss_one (ps_if (pt_cmpR op_eq (pv 2) pe_str (nomark _)) (pss_one (ps_expr (pe_bm PySem.F.plainAttrs_list PySem.F.slot_list_remove PySem.F.type_list_remove mt_remove (pe_fld (pv 0) rfl) (pa_cons (pe_fld (pv 1) rfl) pa_nil))))
          (pss_one (ps_if (pt_cmpR op_eq (pv 2) pe_str (nomark _)) (pss_one (ps_fld (pv 0) (pe_op op_add (pe_fld (pv 0) rfl) pe_int) rfl)) pss_nil))))), ?_⟩
    walk_at "rd"
    obtain ⟨x, cyc, sl, lt, ol, ss, p, c, opn, k, a, pl, ow, nm, rfl, R, hk, hs, hw, hlen, q⟩ := h
    have h1 : 1 ≤ ss.length := by
      have := (List.getElem?_eq_some_iff.mp hk).1
      omega
    have Ap := R.apart h1
    obtain ⟨dx, fv, hx, hf⟩ := R.ob
    obtain ⟨d, pl', ow', hs', ha⟩ := R.sd k a hk
    rw [hs] at hs'
    cases hs'
    have mx : x ∈ x :: ol :: ss := by simp
    have mo : ol ∈ x :: ol :: ss := by simp
    have ma : a ∈ x :: ol :: ss := by simp [List.mem_of_getElem? hk]
    refine ⟨_, rfl, rfl, _, rfl, ?_⟩
    rw [nm_number]
    refine if_d (fun h => ?_) (fun h => ?_)
    · subst h
      -- the number
      refine ⟨_, rfl, x, _, _, _, _, rfl, hx, T.c_Putters, T.n_Putters_numbers_given, rf_given .., _, _, rfl, rfl, _, rfl, x, _, _, _, rfl, hx, T.c_Putters, T.n_Putters_numbers_given, rf_len .., ?_⟩
      rw [rp_given]
      have R1 := R.setX (dx := dx) (fv := fv) (c' := { c with given := c.given + 1 }) Ap rfl hf
      have k1 : Kp (x :: ol :: ss) H _ := Kp.set (o := .ins (aPutters K) dx (ringF p { c with given := c.given + 1 } cyc sl lt ol fv)) mx hx (fun xs z => nomatch z)
      generalize upd H x (.ins (aPutters K) dx (ringF p { c with given := c.given + 1 } cyc sl lt ol fv)) = H1 at R1 k1 ⊢
      obtain ⟨dx1, fv1, hx1, hf1⟩ := R1.ob
      obtain ⟨d1, pl1, ow1, hs1, ha1⟩ := R1.sd k a hk
      have hs1' : c.sides[k]? = some (pl1, ow1) := hs1
      rw [hs] at hs1'
      cases hs1'
      refine ⟨_, rfl, x, _, _, _, _, rfl, hx1, T.c_Putters, T.n_Putters_numbers_given, rf_given .., _, rfl, a, _, _, _, rfl, ha1, T.c_PutterSide, T.n_PutterSide_own_number, (by show 2 < 1000; decide), ?_⟩
      rw [sideF_putO]
      have R2 := R1.setS (d := d1) (pl := pl) (ow := c.given + 1) Ap hk
      have k2 : Kp (x :: ol :: ss) H1 _ := Kp.set (o := .ins (aPutterSide K) d1 (sideF pl (c.given + 1))) ma ha1 (fun xs z => nomatch z)
      have ha2 : upd H1 a (.ins (aPutterSide K) d1 (sideF pl (c.given + 1))) a = some (.ins (aPutterSide K) d1 (sideF pl (c.given + 1))) := upd_same
      have k12 := k1.trans k2
      generalize upd H1 a (.ins (aPutterSide K) d1 (sideF pl (c.given + 1))) = H2 at R2 k12 ha2 ⊢
      obtain ⟨dx2, fv2, hx2, hf2⟩ := R2.ob
      refine ⟨_, rfl, x, _, _, _, _, rfl, hx2, T.c_Putters, T.n_Putters_open_numbers, rf_open .., .inl ⟨rfl, _, SqL.of R2.op⟩, _, rfl, a, _, _, _, _, rfl, ha2, T.c_PutterSide, T.n_PutterSide_own_number, sideF_own .., ol, _, _, rfl, rfl, R2.op, ?_, ?_⟩
      · rw [List.length_map, sizeLine_eq]
        omega
      have em : opn.map V.int ++ [V.int (c.given + 1)] = (opn ++ [c.given + 1]).map V.int := by rw [List.map_append]; rfl
      rw [em]
      have R3 := R2.setO (opn' := opn ++ [c.given + 1]) Ap
      have k3 : Kp (x :: ol :: ss) H2 _ := Kp.set (o := .lst ((opn ++ [c.given + 1]).map V.int)) mo R2.op (fun xs z => nomatch z)
      have k13 := k12.trans k3
      generalize upd H2 ol (.lst ((opn ++ [c.given + 1]).map V.int)) = H3 at R3 k13 ⊢
      obtain ⟨dx3, fv3, hx3, hf3⟩ := R3.ob
      refine ⟨_, rfl, x, _, _, _, _, rfl, hx3, T.c_Putters, T.n_Putters_numbers_given, rf_given .., _, rfl, x, _, _, _, _, rfl, hx3, T.c_Putters, T.n_Putters_gone, rf_gone .., _, _, rfl, rfl, _, rfl, x, _, _, _, _, rfl, hx3, T.c_Putters, T.n_Putters_limit, rf_limit .., _, _, rfl, rfl, _, rfl, ?_⟩
      refine if_d (fun h2 => ?_) (fun h2 => ?_)
      · have h2' : p.limit < c.given + 1 - c.gone := h2
        refine ⟨_, rfl, x, _, _, _, _, rfl, hx3, T.c_Putters, T.n_Putters_made, rf_made .., _, rfl, x, _, _, _, _, rfl, hx3, T.c_Putters, T.n_Putters_numbers_given, rf_given .., (by show 3 ≤ sizeLine; decide), fun t ht => ?_⟩
        have R4 := R3.new (o := .tup [.int c.made, .str "over", .int (c.given + 1)]) ht
        have hx4 : upd H3 t (.tup [.int c.made, .str "over", .int (c.given + 1)]) x = _ := (upd_ne (ne_of_none hx3 ht)).trans hx3
        refine ⟨_, rfl, x, _, _, _, rfl, hx4, T.c_Putters, T.n_Putters_found, rf_len .., ?_⟩
        rw [rp_found]
        have R5 := R4.setX (dx := dx3) (fv := .ref t) (c' := (actC p c opn k pl ow .number).1) Ap rfl (by
          show FoundAt _ _ (if p.limit < c.given + 1 - c.gone then some (c.made, "over", c.given + 1) else c.found)
          rw [if_pos h2']
          exact ⟨t, rfl, upd_same⟩)
        exact q _ ((k13.trans (Kp.new ht)).trans (Kp.set mx hx4 (fun xs z => nomatch z))) R5
      · have h2' : ¬ p.limit < c.given + 1 - c.gone := h2
        have e : actC p c opn k pl ow .number = ({ c with given := c.given + 1, sides := c.sides.set k (pl, c.given + 1) }, opn ++ [c.given + 1]) := by
          show (({ c with given := c.given + 1, sides := c.sides.set k (pl, c.given + 1), found := if p.limit < c.given + 1 - c.gone then some (c.made, "over", c.given + 1) else c.found } : Core), opn ++ [c.given + 1]) = _
          rw [if_neg h2']
        rw [e] at q
        exact q _ k13 R3
    · refine ⟨_, rfl, rfl, _, rfl, ?_⟩
      rw [nm_write]
      refine if_d (fun h2 => ?_) (fun h2 => ?_)
      · subst h2
        obtain ⟨j, j1, j2, j3, j4⟩ : ∃ j, j < opn.length ∧ opn[j]? = some ow ∧ (∀ i, i < j → opn[i]? ≠ some ow) ∧ opn.eraseIdx j = opn.erase ow := by
          have hm := hw rfl
          refine ⟨opn.findIdx (· == ow), ?_, ?_, ?_, ?_⟩
          · exact List.findIdx_lt_length_of_exists ⟨ow, hm, by simp⟩
          · have hlt : opn.findIdx (· == ow) < opn.length := List.findIdx_lt_length_of_exists ⟨ow, hm, by simp⟩
            rw [List.getElem?_eq_getElem hlt]
            have e := List.findIdx_getElem (p := (· == ow)) (w := hlt)
            have e' : opn[opn.findIdx (· == ow)] = ow := by simpa using e
            rw [e']
          · intro i hi z
            have hil : i < opn.length := (List.getElem?_eq_some_iff.mp z).1
            have e := List.not_of_lt_findIdx hi
            have e2 := (List.getElem?_eq_some_iff.mp z).2
            rw [e2] at e
            simp at e
          · rw [List.erase_eq_eraseIdx_of_idxOf]
            rfl
        have go : upd H ol (.lst ((opn.eraseIdx j).map V.int)) = upd H ol (.lst ((opn.erase ow).map V.int)) := by rw [j4]
        refine ⟨_, rfl, x, _, _, _, _, rfl, hx, T.c_Putters, T.n_Putters_open_numbers, rf_open .., .inl ⟨rfl, _, SqL.of R.op⟩, _, rfl, a, _, _, _, _, rfl, ha, T.c_PutterSide, T.n_PutterSide_own_number, sideF_own .., ol, opn, ow, j, rfl, rfl, R.op, j2, j3, ?_⟩
        rw [go]
        exact q _ (Kp.set mo R.op (fun xs z => nomatch z)) (R.setO Ap)
      · refine ⟨_, rfl, rfl, _, rfl, ?_⟩
        rw [nm_tell]
        refine if_d (fun h3 => ?_) (fun h3 => ?_)
        · subst h3
          refine ⟨_, rfl, x, _, _, _, _, rfl, hx, T.c_Putters, T.n_Putters_told, rf_told .., _, _, rfl, rfl, _, rfl, x, _, _, _, rfl, hx, T.c_Putters, T.n_Putters_told, rf_len .., ?_⟩
          rw [rp_told]
          exact q _ (Kp.set mx hx (fun xs z => nomatch z)) (R.setX (dx := dx) (fv := fv) (c' := { c with told := c.told + 1 }) Ap rfl hf)
        · have e : nm = .test := by
            cases nm
            · rfl
            · exact absurd rfl h
            · exact absurd rfl h2
            · exact absurd rfl h3
          subst e
          exact q _ (Kp.refl H) R
end
end RI

set_option maxHeartbeats 4000000
namespace RI
open PySem PySem.Spec PyProof.Rows L2
local macro_rules | `(tactic| walk_at "rd") => `(tactic| dsimp only [tVar, tC, t2I, tOp, tUn, rI, rI0, rU, tCmp, tB, tAnd, tOr, tNot, tAndV, tOrV, tNotV, tIf, tNext, tSeq, tDrop, tRet, tRetN, tIfS, gName, gNil, gCons, gTup, gSub, tAsg, tPar, tAug, ipI, iList, iTup, iRng1, iRng2, tTest, tChain, rEq, rNe, tFld, sFld, tNil, tCons, tTup, tLst, tCall, tMeth, tMake, tCB, tSl, tPart, tNoPart, tProp, tMakeK, tMakeN, rIxL, rIxT, rSetL, tBM, tBM0, rAppend, rCat, C8.tCut, tYes])
def nameV : Option Str → V
  | none => .non
  | some s => .str s
def handS : Nat → Str
  | 0 => "t"
  | 1 => "a"
  | 2 => "b"
  | 3 => "c"
  | _ => "d"
/-- one step of a hand of the program's object: 0 the taker, k + 1 the putter k -/
def stepP (p : Par) (c : Core) (opn : List Int) (h : Nat) : Core × List Int × Option Str :=
  if c.found.isSome then (c, opn, none) else
  match h with
  | 0 => (takeC { c with made := c.made + 1 } opn, opn, some (tName c.taker))
  | k + 1 => match c.sides[k]? with
    | none => (c, opn, none)
    | some (pl, ow) => match (cycN p.two)[pl.toNat]? with
      | none => (c, opn, none)
      | some nm =>
        if waitsB p { c with made := c.made + 1 } ow nm then ({ c with made := c.made + 1 }, opn, some nm.s)
        else
          let r := actC p { c with made := c.made + 1 } opn k pl ow nm
          ({ r.1 with sides := r.1.sides.set k ((pl + 1) % ((cycN p.two).length : Int), ((r.1.sides[k]?).getD (0, 0)).2) }, r.2, some nm.s)
theorem stepP_broken {p : Par} {c : Core} {opn : List Int} {h : Nat} (hf : c.found.isSome = true) : stepP p c opn h = (c, opn, none) := by
  unfold stepP
  rw [if_pos hf]
theorem stepP_t {p : Par} {c : Core} {opn : List Int} (hf : c.found = none) : stepP p c opn 0 = (takeC { c with made := c.made + 1 } opn, opn, some (tName c.taker)) := by
  unfold stepP
  rw [if_neg (by rw [hf]; simp)]
theorem stepP_wait {p : Par} {c : Core} {opn : List Int} {k : Nat} {pl ow : Int} {nm : Nm} (hf : c.found = none) (hs : c.sides[k]? = some (pl, ow)) (hn : (cycN p.two)[pl.toNat]? = some nm) (hw : waitsB p { c with made := c.made + 1 } ow nm = true) :
    stepP p c opn (k + 1) = ({ c with made := c.made + 1 }, opn, some nm.s) := by
  unfold stepP
  rw [if_neg (by rw [hf]; simp)]
  dsimp only
  rw [hs]
  dsimp only
  rw [hn]
  dsimp only
  rw [if_pos hw]
theorem stepP_act {p : Par} {c : Core} {opn : List Int} {k : Nat} {pl ow ow' : Int} {nm : Nm} (hf : c.found = none) (hs : c.sides[k]? = some (pl, ow)) (hn : (cycN p.two)[pl.toNat]? = some nm) (hw : waitsB p { c with made := c.made + 1 } ow nm = false)
    (ho : (actC p { c with made := c.made + 1 } opn k pl ow nm).1.sides[k]? = some (pl, ow')) :
    stepP p c opn (k + 1) = ({ (actC p { c with made := c.made + 1 } opn k pl ow nm).1 with sides := (actC p { c with made := c.made + 1 } opn k pl ow nm).1.sides.set k ((pl + 1) % ((cycN p.two).length : Int), ow') }, (actC p { c with made := c.made + 1 } opn k pl ow nm).2, some nm.s) := by
  unfold stepP
  rw [if_neg (by rw [hf]; simp)]
  dsimp only
  rw [hs]
  dsimp only
  rw [hn]
  dsimp only
  rw [if_neg (by rw [hw]; exact Bool.false_ne_true)]
  rw [ho]
  rfl
theorem tName_at {i : Int} (h : i = 0 ∨ i = 1 ∨ i = 2) : atI [V.str "look", V.str "read", V.str "tell"] i = some (.str (tName i)) := by
  rcases h with rfl | rfl | rfl <;> rfl
/-- what a step asks -/
structure OkC (p : Par) (c : Core) (opn : List Int) : Prop where
  many : 1 ≤ c.sides.length ∧ c.sides.length ≤ 4
  taker : c.taker = 0 ∨ c.taker = 1 ∨ c.taker = 2
  place : ∀ (k : Nat) (pl ow : Int), c.sides[k]? = some (pl, ow) → 0 ≤ pl ∧ pl < (cycN p.two).length ∧ ((cycN p.two)[pl.toNat]? = some .write → ow ∈ opn)
  few : opn.length < 1000
theorem actC_side (p : Par) (c : Core) (opn : List Int) (k : Nat) (pl ow : Int) (nm : Nm) (h : c.sides[k]? = some (pl, ow)) : ∃ ow', (actC p c opn k pl ow nm).1.sides[k]? = some (pl, ow') := by
  cases nm with
  | number =>
    refine ⟨c.given + 1, ?_⟩
    show (c.sides.set k (pl, c.given + 1))[k]? = _
    exact List.getElem?_set_self (List.getElem?_eq_some_iff.mp h).1
  | write => exact ⟨ow, h⟩
  | tell => exact ⟨ow, h⟩
  | test => exact ⟨ow, h⟩
theorem letters_in {m h : Nat} (h1 : 1 ≤ m) (h4 : m ≤ 4) (hh : h ≤ m) : inV (.str (handS h)) (lettersV m) = true := by
  match m, h1, h4 with
  | 1, _, _ => match h, hh with
    | 0, _ => decide +kernel
    | 1, _ => decide +kernel
  | 2, _, _ => match h, hh with
    | 0, _ => decide +kernel
    | 1, _ => decide +kernel
    | 2, _ => decide +kernel
  | 3, _, _ => match h, hh with
    | 0, _ => decide +kernel
    | 1, _ => decide +kernel
    | 2, _ => decide +kernel
    | 3, _ => decide +kernel
  | 4, _, _ => match h, hh with
    | 0, _ => decide +kernel
    | 1, _ => decide +kernel
    | 2, _ => decide +kernel
    | 3, _ => decide +kernel
    | 4, _ => decide +kernel
theorem letters_flat (m : Nat) : (lettersV m).all flatV = true := by
  match m with
  | 0 => rfl
  | 1 => rfl
  | 2 => rfl
  | 3 => rfl
  | m + 4 =>
    have e : lettersV (m + 4) = abcd ++ [.str "t"] := by
      show abcd.take (m + 4) ++ [.str "t"] = _
      rw [List.take_of_length_le (by show 4 ≤ m + 4; omega)]
    rw [e]
    rfl
def abcdS : List Str := ["a", "b", "c", "d"]
theorem abcd_at {k : Nat} (hk : k < 4) : abcdS[k]? = some (handS (k + 1)) ∧ ∀ m, m < k → abcdS[m]? ≠ some (handS (k + 1)) := by
  match k, hk with
  | 0, _ => exact ⟨rfl, fun m hm => absurd hm (Nat.not_lt_zero _)⟩
  | 1, _ => exact ⟨rfl, fun m hm => match m, hm with | 0, _ => by decide +kernel⟩
  | 2, _ => exact ⟨rfl, fun m hm => match m, hm with | 0, _ => by decide +kernel | 1, _ => by decide +kernel⟩
  | 3, _ => exact ⟨rfl, fun m hm => match m, hm with | 0, _ => by decide +kernel | 1, _ => by decide +kernel | 2, _ => by decide +kernel⟩
theorem hand_t {k : Nat} (hk : k < 4) : decide (V.str (handS (k + 1)) = V.str "t") = false := by
  match k, hk with
  | 0, _ => decide +kernel
  | 1, _ => decide +kernel
  | 2, _ => decide +kernel
  | 3, _ => decide +kernel
def rTupIx (K : PySem.W.Frag) : V → List V → Hp → VK → Prop := fun x xs H Q => ∃ p, ∃ ys : List Str, ∃ z j, x = .ref p ∧ xs = [.str z] ∧ SqT K H p (ys.map V.str) ∧ ys[j]? = some z ∧ (∀ m, m < j → ys[m]? ≠ some z) ∧ Q (.int (j : Nat)) H
section
variable {P : Program} {w : World} {K : PySem.W.Frag} {mg : Str → Option Value} {base : Heap}
def sp_step_taker (K : PySem.W.Frag) : Sp := fun vs H Q _ => ∃ (x cyc sl lt ol : Addr) (ss : List Addr) (p : Par) (c : Core) (opn : List Int), vs = [.ref x] ∧ RingAt K H x cyc sl lt ol ss p c opn ∧ 1 ≤ ss.length ∧ (c.taker = 0 ∨ c.taker = 1 ∨ c.taker = 2) ∧
  ∀ H', Kp (x :: ol :: ss) H H' → RingAt K H' x cyc sl lt ol ss p (takeC c opn) opn → Q (.str (tName c.taker)) H'
theorem ok_step_taker (T : Txt K mg) : MthOk P w K mg base 1 (aPutters K) "step_taker" p_step_taker (sp_step_taker K) := by
  refine T.m_step_taker.ok sc_step_taker (fun vs H Q E h => ?_) (fun _ _ _ _ _ _ us hl => match us, hl with | [_], _ => rfl) fun cdv A outer s H vs Q E f hr h => ?_
  · obtain ⟨x, cyc, sl, lt, ol, ss, p, c, opn, rfl, _⟩ := h
    rfl
  · refine ⟨_, pss_cons (ps_set (i := 1) sc_step_taker.nd rfl (Or.inl rfl) (pe_ix ix_tup (pe_tup (pa_cons pe_str (pa_cons pe_str (pa_cons pe_str pa_nil)))) (pe_fld (pv 0) rfl) (fun _ _ => rfl)))
      (pss_cons (ps_if (pw_and (pt_cmpR op_eq (pv 1) pe_str (nomark _)) (pw_and1 (pt_cmpR op_eq (pe_fld (pv 0) rfl) (pe_fld (pv 0) rfl) (nomark _)))).pt (pss_one (ps_ret (pv 1))) pss_nil)
      (pss_cons (ps_if (pw_and (pt_cmpR op_eq (pv 1) pe_str (nomark _)) (pw_and1 (pt_cmpR op_in_seq (pe_op op_add (pe_fld (pv 0) rfl) pe_int) (pe_fld (pv 0) rfl) rfl))).pt
        (pss_one (ps_fld (pv 0) (pe_tup (pa_cons (pe_fld (pv 0) rfl) (pa_cons pe_str (pa_cons (pe_op op_add (pe_fld (pv 0) rfl) pe_int) pa_nil)))) rfl)) pss_nil)
      (pss_cons (ps_if (pt_cmpR op_eq (pv 1) pe_str (nomark _)) (pss_one (ps_fld (pv 0) (pe_op op_add (pe_fld (pv 0) rfl) pe_int) rfl)) pss_nil)
      (pss_cons (ps_fld (pv 0) (pe_op op_mod (pe_op op_add (pe_fld (pv 0) rfl) pe_int) pe_int) rfl)
      (pss_one (ps_ret (pv 1))))))), ?_⟩
    walk_at "rd"
    obtain ⟨x, cyc, sl, lt, ol, ss, p, c, opn, rfl, R0, h1, ht, q⟩ := h
    have Ap := R0.apart h1
    have mx : x ∈ x :: ol :: ss := by simp
    refine ⟨(by show 3 ≤ sizeLine; decide), fun t ht0 => ?_⟩
    have R := R0.new (o := .tup [.str "look", .str "read", .str "tell"]) ht0
    have k0 : Kp (x :: ol :: ss) H _ := Kp.new (o := .tup [.str "look", .str "read", .str "tell"]) ht0
    have htt : upd H t (.tup [.str "look", .str "read", .str "tell"]) t = _ := upd_same
    generalize upd H t (.tup [.str "look", .str "read", .str "tell"]) = H1 at R k0 htt ⊢
    obtain ⟨dx, fv, hx, hf⟩ := R.ob
    refine ⟨_, rfl, x, _, _, _, _, rfl, hx, T.c_Putters, T.n_Putters_taker_place, rf_taker .., t, _, c.taker, .str (tName c.taker), rfl, rfl, SqT.of htt, tName_at ht, ?_⟩
    rcases ht with ht | ht | ht
    · -- look
      rw [ht] at q ⊢
      have e : takeC c opn = if c.told = c.gone then c else { c with taker := 1 } := by
        unfold takeC
        rw [if_pos ht]
      rw [e] at q
      refine ⟨_, rfl, rfl, _, rfl, if_t (by decide +kernel) ?_⟩
      refine ⟨_, rfl, x, _, _, _, _, rfl, hx, T.c_Putters, T.n_Putters_told, rf_told .., _, rfl, x, _, _, _, _, rfl, hx, T.c_Putters, T.n_Putters_gone, rf_gone .., rfl, _, rfl, ?_⟩
      rw [dec_vi]
      refine if_d (fun h => ?_) (fun h => ?_)
      · rw [if_pos h] at q
        exact ⟨_, rfl, q _ k0 R⟩
      · rw [if_neg h] at q
        refine ⟨_, rfl, rfl, _, rfl, if_f (by decide +kernel) (if_f rfl ?_)⟩
        refine ⟨_, rfl, rfl, _, rfl, if_f (by decide +kernel) ?_⟩
        refine ⟨_, rfl, x, _, _, _, _, rfl, hx, T.c_Putters, T.n_Putters_taker_place, rf_taker .., _, _, rfl, rfl, _, _, rfl, rfl, by decide, _, rfl, x, _, _, _, rfl, hx, T.c_Putters, T.n_Putters_taker_place, rf_len .., _, rfl, ?_⟩
        rw [rp_taker, ht]
        exact q _ (k0.trans (Kp.set mx hx (fun xs z => nomatch z))) (R.setX (c' := { c with taker := 1 }) Ap rfl hf)
    · -- read
      rw [ht] at q ⊢
      have e : takeC c opn = { c with found := if c.gone + 1 ∈ opn then some (c.made, "read", c.gone + 1) else c.found, taker := 2 } := by
        unfold takeC
        rw [if_neg (by rw [ht]; decide), if_pos ht]
      rw [e] at q
      refine ⟨_, rfl, rfl, _, rfl, if_f (by decide +kernel) (if_f rfl ?_)⟩
      refine ⟨_, rfl, rfl, _, rfl, if_t (by decide +kernel) ?_⟩
      refine ⟨_, rfl, x, _, _, _, _, rfl, hx, T.c_Putters, T.n_Putters_gone, rf_gone .., _, _, rfl, rfl, _, rfl, x, _, _, _, _, rfl, hx, T.c_Putters, T.n_Putters_open_numbers, rf_open .., ol, _, rfl, .inl (SqL.of R.op), rfl, flat_ints _, _, rfl, ?_⟩
      show if (if false = true then !inV (V.int (c.gone + 1)) (opn.map V.int) else inV (V.int (c.gone + 1)) (opn.map V.int)) = true then _ else _
      rw [if_neg Bool.false_ne_true, inV_int]
      refine if_d (fun h => ?_) (fun h => ?_)
      · rw [if_pos h] at q
        refine ⟨_, rfl, x, _, _, _, _, rfl, hx, T.c_Putters, T.n_Putters_made, rf_made .., _, rfl, x, _, _, _, _, rfl, hx, T.c_Putters, T.n_Putters_gone, rf_gone .., _, _, rfl, rfl, (by show 3 ≤ sizeLine; decide), fun t2 ht2 => ?_⟩
        have R2 := R.new (o := .tup [.int c.made, .str "read", .int (c.gone + 1)]) ht2
        have hx2 : upd H1 t2 (.tup [.int c.made, .str "read", .int (c.gone + 1)]) x = _ := (upd_ne (ne_of_none hx ht2)).trans hx
        refine ⟨_, rfl, x, _, _, _, rfl, hx2, T.c_Putters, T.n_Putters_found, rf_len .., ?_⟩
        rw [rp_found]
        refine ⟨_, rfl, rfl, _, rfl, if_f (by decide +kernel) ?_⟩
        refine ⟨_, rfl, x, _, _, _, _, rfl, upd_same, T.c_Putters, T.n_Putters_taker_place, rf_taker .., _, _, rfl, rfl, _, _, rfl, rfl, by decide, _, rfl, x, _, _, _, rfl, upd_same, T.c_Putters, T.n_Putters_taker_place, rf_len .., _, rfl, ?_⟩
        rw [upd_upd, rp_taker, ht]
        exact q _ ((k0.trans (Kp.new ht2)).trans (Kp.set mx hx2 (fun xs z => nomatch z))) (R2.setX (c' := { c with found := some (c.made, "read", c.gone + 1), taker := 2 }) Ap rfl ⟨t2, rfl, upd_same⟩)
      · rw [if_neg h] at q
        refine ⟨_, rfl, rfl, _, rfl, if_f (by decide +kernel) ?_⟩
        refine ⟨_, rfl, x, _, _, _, _, rfl, hx, T.c_Putters, T.n_Putters_taker_place, rf_taker .., _, _, rfl, rfl, _, _, rfl, rfl, by decide, _, rfl, x, _, _, _, rfl, hx, T.c_Putters, T.n_Putters_taker_place, rf_len .., _, rfl, ?_⟩
        rw [rp_taker, ht]
        exact q _ (k0.trans (Kp.set mx hx (fun xs z => nomatch z))) (R.setX (c' := { c with taker := 2 }) Ap rfl hf)
    · -- tell
      rw [ht] at q ⊢
      have e : takeC c opn = { c with gone := c.gone + 1, taker := 0 } := by
        unfold takeC
        rw [if_neg (by rw [ht]; decide), if_neg (by rw [ht]; decide)]
      rw [e] at q
      refine ⟨_, rfl, rfl, _, rfl, if_f (by decide +kernel) (if_f rfl ?_)⟩
      refine ⟨_, rfl, rfl, _, rfl, if_f (by decide +kernel) (if_f rfl ?_)⟩
      refine ⟨_, rfl, rfl, _, rfl, if_t (by decide +kernel) ?_⟩
      refine ⟨_, rfl, x, _, _, _, _, rfl, hx, T.c_Putters, T.n_Putters_gone, rf_gone .., _, _, rfl, rfl, _, rfl, x, _, _, _, rfl, hx, T.c_Putters, T.n_Putters_gone, rf_len .., ?_⟩
      rw [rp_gone]
      refine ⟨_, rfl, x, _, _, _, _, rfl, upd_same, T.c_Putters, T.n_Putters_taker_place, rf_taker .., _, _, rfl, rfl, _, _, rfl, rfl, by decide, _, rfl, x, _, _, _, rfl, upd_same, T.c_Putters, T.n_Putters_taker_place, rf_len .., _, rfl, ?_⟩
      rw [upd_upd, rp_taker, ht]
      exact q _ (k0.trans (Kp.set mx hx (fun xs z => nomatch z))) (R.setX (c' := { c with gone := c.gone + 1, taker := 0 }) Ap rfl hf)
def sp_step (K : PySem.W.Frag) : Sp := fun vs H Q _ => ∃ (x cyc sl lt ol : Addr) (ss : List Addr) (p : Par) (c : Core) (opn : List Int) (h : Nat), vs = [.ref x, .str (handS h)] ∧ RingAt K H x cyc sl lt ol ss p c opn ∧ OkC p c opn ∧ h ≤ c.sides.length ∧
  ∀ H', Kp (x :: ol :: ss) H H' → RingAt K H' x cyc sl lt ol ss p (stepP p c opn h).1 (stepP p c opn h).2.1 → Q (nameV (stepP p c opn h).2.2) H'
theorem ok_step (T : Txt K mg) : MthOk P w K mg base 2 (aPutters K) "step" p_step (sp_step K) := by
  refine T.m_step.ok sc_step (fun vs H Q E h => ?_) (fun _ _ _ _ _ _ us hl => match us, hl with | [_, _], _ => rfl) fun cdv A outer s H vs Q E f hr h => ?_
  · obtain ⟨x, cyc, sl, lt, ol, ss, p, c, opn, h, rfl, _⟩ := h
    rfl
  · refine ⟨_, pss_cons (ps_if (pt_not (pt_val (pe_callG (ok_is_word T) hr (pa_cons (pv 1) (pa_cons (pe_fld (pv 0) rfl) pa_nil))))) pss_never pss_nil)
      (pss_cons (ps_if (pt_cmpR op_notN (pe_fld (pv 0) rfl) pe_non (nomark _)) (pss_one (ps_ret pe_non)) pss_nil)
      (pss_cons (ps_fld (pv 0) (pe_op op_add (pe_fld (pv 0) rfl) pe_int) rfl)
      (pss_cons (ps_if (pt_cmpR op_eq (pv 1) pe_str (nomark _)) (pss_one (ps_ret (pe_mthG0 (pv 0) T.c_Putters (ok_step_taker T) hr))) pss_nil)
      (pss_cons (ps_set (i := 2) sc_step.nd rfl (Or.inl rfl) (pe_ix ix_list (pe_fld (pv 0) rfl) (pe_bm PySem.F.plainAttrs_tuple PySem.F.slot_tuple_index PySem.F.type_tuple_index (r := rTupIx K) mt_tup_index (pe_glob (v := .ref (He.ga K "PUTTERS")) rfl T.v_PUTTERS rfl) (pa_cons (pv 1) pa_nil)) (fun _ _ => rfl)))
      (pss_cons (ps_set (i := 3) sc_step.nd rfl (Or.inl rfl) (pe_ix ix_list (pe_fld (pv 0) rfl) (pe_fld (pv 2) rfl) (fun _ _ => rfl)))
      (pss_cons (ps_if (pt_not (pt_val (pe_mthG (pv 0) T.c_Putters (ok_waits T) hr (pa_cons (pv 2) (pa_cons (pv 3) pa_nil)))))
        (pss_cons (ps_expr (pe_mthG (pv 0) T.c_Putters (ok_act T) hr (pa_cons (pv 2) (pa_cons (pv 3) pa_nil)))) (pss_one (ps_fld (pv 2) (pe_op op_mod (pe_op op_add (pe_fld (pv 2) rfl) pe_int) (pe_len1 T (pe_fld (pv 0) rfl))) rfl))) pss_nil)
      (pss_one (ps_ret (pv 3))))))))), ?_⟩
    walk_at "rd"
    obtain ⟨x, cyc, sl, lt, ol, ss, p, c, opn, h, rfl, R, O, hh, q⟩ := h
    have h1 : 1 ≤ ss.length := by
      rw [R.len]
      exact O.many.1
    have Ap := R.apart h1
    have mx : x ∈ x :: ol :: ss := by simp
    obtain ⟨dx, fv, hx, hf⟩ := R.ob
    refine ⟨_, rfl, _, rfl, x, _, _, _, _, rfl, hx, T.c_Putters, T.n_Putters_letters, rf_letters .., ?_⟩
    refine ⟨_, lt, _, rfl, .inl (SqL.of R.le), letters_flat _, .inl ⟨_, rfl, _, rfl, if_f (by rw [letters_in O.many.1 O.many.2 hh]; rfl) ?_⟩⟩
    refine ⟨_, rfl, x, _, _, _, _, rfl, hx, T.c_Putters, T.n_Putters_found, rf_found .., rfl, _, rfl, ?_⟩
    cases hfd : c.found with
    | some w0 =>
      obtain ⟨a0, b0, c0⟩ := w0
      rw [stepP_broken (by rw [hfd]; rfl)] at q
      rw [hfd] at hf
      obtain ⟨t, rfl, _⟩ := hf
      exact if_t (by rw [decide_eq_false (fun z => nomatch z)]; rfl) (q _ (Kp.refl H) R)
    | none =>
      rw [hfd] at hf
      obtain rfl : fv = .non := hf
      refine if_f rfl ?_
      refine ⟨_, rfl, x, _, _, _, _, rfl, hx, T.c_Putters, T.n_Putters_made, rf_made .., _, _, rfl, rfl, _, rfl, x, _, _, _, rfl, hx, T.c_Putters, T.n_Putters_made, rf_len .., ?_⟩
      rw [rp_made]
      have R1 := R.setX (dx := dx) (fv := .non) (c' := { c with made := c.made + 1 }) Ap rfl (by
        show FoundAt H .non c.found
        rw [hfd]
        rfl)
      have k1 : Kp (x :: ol :: ss) H _ := Kp.set (o := .ins (aPutters K) dx (ringF p { c with made := c.made + 1 } cyc sl lt ol .non)) mx hx (fun xs z => nomatch z)
      generalize upd H x (.ins (aPutters K) dx (ringF p { c with made := c.made + 1 } cyc sl lt ol .non)) = H1 at R1 k1 ⊢
      obtain ⟨dx1, fv1, hx1, hf1⟩ := R1.ob
      match h, hh, q with
      | 0, hh, q =>
        rw [stepP_t hfd] at q
        refine ⟨_, rfl, rfl, _, rfl, if_t (by decide +kernel) ?_⟩
        exact ⟨_, rfl, x, _, _, rfl, hx1, rf_mTaker .., x, cyc, sl, lt, ol, ss, p, _, opn, rfl, R1, h1, O.taker, fun H2 k2 R2 => q H2 (k1.trans k2) R2⟩
      | k + 1, hh, q =>
        have hk4 : k < 4 := by
          have := O.many.2
          omega
        have hks : k < ss.length := by
          rw [R.len]
          omega
        have hk : ss[k]? = some ss[k] := List.getElem?_eq_getElem hks
        obtain ⟨d, pl, ow, hs, ha⟩ := R1.sd k _ hk
        have hs0 : c.sides[k]? = some (pl, ow) := hs
        obtain ⟨p0, pL, pw⟩ := O.place k pl ow hs0
        have hnl : pl.toNat < (cycN p.two).length := by omega
        have hnm : (cycN p.two)[pl.toNat]? = some (cycN p.two)[pl.toNat] := List.getElem?_eq_getElem hnl
        generalize (cycN p.two)[pl.toNat] = nm at hnm
        rw [hnm] at pw
        have hcy : (cycV p.two)[pl.toNat]? = some (.str nm.s) := by
          show ((cycN p.two).map fun m => V.str m.s)[pl.toNat]? = _
          rw [List.getElem?_map, hnm]
          rfl
        have epl : pl = ((pl.toNat : Nat) : Int) := by omega
        refine ⟨_, rfl, rfl, _, rfl, if_f (hand_t hk4) ?_⟩
        refine ⟨_, rfl, x, _, _, _, _, rfl, hx1, T.c_Putters, T.n_Putters_sides, rf_sides .., .inr (.inl ⟨rfl, T.k_PUTTERS⟩), _, rfl, ?_⟩
        refine ⟨He.ga K "PUTTERS", abcdS, _, k, rfl, rfl, T.t_PUTTERS _, (abcd_at hk4).1, (abcd_at hk4).2, ?_⟩
        refine ⟨sl, _, (k : Int), .ref ss[k], rfl, rfl, SqL.of R1.si, atI_nat (j := k) (by rw [List.getElem?_map, hk]; rfl), ?_⟩
        refine ⟨_, rfl, x, _, _, _, _, rfl, hx1, T.c_Putters, T.n_Putters_cycle, rf_cycle .., _, rfl, ss[k], _, _, _, _, rfl, ha, T.c_PutterSide, T.n_PutterSide_place, sideF_place .., ?_⟩
        refine ⟨cyc, _, pl, .str nm.s, rfl, rfl, SqL.of R1.cy, (by rw [epl]; exact atI_nat (j := pl.toNat) hcy), ?_⟩
        refine ⟨_, rfl, x, _, _, rfl, hx1, rf_mWaits .., _, rfl, _, rfl, ?_⟩
        refine ⟨x, cyc, sl, lt, ol, ss, p, _, opn, k, ss[k], pl, ow, nm, rfl, R1, hk, hs, _, rfl, ?_⟩
        cases hwt : waitsB p { c with made := c.made + 1 } ow nm with
        | true =>
          rw [stepP_wait hfd hs0 hnm hwt] at q
          exact if_f rfl ⟨_, rfl, q _ k1 R1⟩
        | false =>
          refine if_t rfl ⟨_, rfl, x, _, _, rfl, hx1, rf_mAct .., _, rfl, _, rfl, ?_⟩
          refine ⟨x, cyc, sl, lt, ol, ss, p, _, opn, k, ss[k], pl, ow, nm, rfl, R1, hk, hs, (fun z => pw (by rw [z])), O.few, fun H2 k2 R2 => ?_⟩
          obtain ⟨dx2, fv2, hx2, hf2⟩ := R2.ob
          obtain ⟨d2, pl2, ow2, hs2, ha2⟩ := R2.sd k _ hk
          obtain ⟨ow', hs2'⟩ := actC_side p { c with made := c.made + 1 } opn k pl ow nm hs
          rw [hs2'] at hs2
          cases hs2
          rw [stepP_act hfd hs0 hnm hwt hs2'] at q
          have hcl : ((cycV p.two).length : Int) = ((cycN p.two).length : Int) := by
            show (((cycN p.two).map fun m => V.str m.s).length : Int) = _
            rw [List.length_map]
          have hpos : 0 < ((cycV p.two).length : Int) := by
            rw [hcl]
            omega
          refine ⟨_, rfl, ss[k], _, _, _, _, rfl, ha2, T.c_PutterSide, T.n_PutterSide_place, sideF_place .., _, _, rfl, rfl, _, rfl, x, _, _, _, _, rfl, hx2, T.c_Putters, T.n_Putters_cycle, rf_cycle .., cyc, _, rfl, .inl (SqL.of R2.cy), _, _, rfl, rfl, hpos, _, rfl, ss[k], _, _, _, rfl, ha2, T.c_PutterSide, T.n_PutterSide_place, (by show 2 < 1000; decide), ?_⟩
          rw [sideF_putP, hcl]
          refine ⟨_, rfl, q _ ((k1.trans k2).trans (Kp.set (by simp) ha2 (fun xs z => nomatch z))) (R2.setS Ap hk)⟩
end
end RI

set_option maxHeartbeats 4000000
namespace RI
open PySem PySem.Spec PyProof.Rows L2
local macro_rules | `(tactic| walk_at "rd") => `(tactic| dsimp only [tVar, tC, t2I, tOp, tUn, rI, rI0, rU, tCmp, tB, tAnd, tOr, tNot, tAndV, tOrV, tNotV, tIf, tNext, tSeq, tDrop, tRet, tRetN, tIfS, gName, gNil, gCons, gTup, gSub, tAsg, tPar, tAug, ipI, iList, iTup, iRng1, iRng2, tTest, tChain, rEq, rNe, tFld, sFld, tNil, tCons, tTup, tLst, tCall, tMeth, tMake, tCB, tSl, tPart, tNoPart, tProp, tMakeK, tMakeN, rIxL, rIxT, rSetL, tBM, tBM0, rAppend, rCat, C8.tCut, tYes, tDGet, tDIn, sDPut, tDNewK])
/-! ### the pool -/
def PoolAt (H : Hp) (pl : Addr) : Prop := ∃ cl cs i1 i2 i3 i4, H pl = some (.lst [.ref cl, .int i1, .int i2, .int i3, .int i4]) ∧ H cl = some (.lst (cs.map V.int)) ∧ (cs : List Int).length ≤ 1000 ∧ (0 : Int) ≤ i1
theorem PoolAt.kp {S : List Addr} {H H' : Hp} {pl : Addr} (h : PoolAt H pl) (k : Kp S H H') (hS : ∀ b xs, b ∈ S → H b = some (.lst xs) → b ≠ pl ∧ ∀ cs : List Int, xs ≠ cs.map V.int) : PoolAt H' pl := by
  obtain ⟨cl, cs, i1, i2, i3, i4, h1, h2, h3, h4⟩ := h
  refine ⟨cl, cs, i1, i2, i3, i4, k _ _ h1 (.inl fun z => (hS _ _ z h1).1 rfl), k _ _ h2 (.inl fun z => (hS _ _ z h2).2 cs rfl), h3, h4⟩
theorem PoolAt.same {H H' : Hp} {pl : Addr} (h : PoolAt H pl) (k : Same H H') : PoolAt H' pl := h.kp (S := []) (Kp.same k) fun b xs hb => by cases hb
section
variable {P : Program} {w : World} {K : PySem.W.Frag} {mg : Str → Option Value} {base : Heap}
def sp_law_mixed : Sp := fun vs H Q _ => ∃ n p m : Int, vs = [.int n, .int p, .int m] ∧ 0 < m ∧ ∀ r, 0 ≤ r → r < m → Q (.int r) H
theorem ok_law_mixed (T : Txt K mg) : Glb P w K mg base 1 "_law_mixed" p_law_mixed sp_law_mixed := by
  refine T.f_law_mixed.ok sc_law_mixed (fun vs H Q E h => ?_) (fun _ _ _ _ _ _ us hl => match us, hl with | [_, _, _], _ => rfl) fun cdv A outer s H vs Q E f hr h => ?_
  · obtain ⟨n, p, m, rfl, _⟩ := h
    rfl
  · refine ⟨_, pss_cons (ps_set (i := 3) sc_law_mixed.nd rfl (Or.inl rfl) (pe_op op_mod (pe_int1 T (pe_op op_add (pe_op op_add (pe_op op_mul (pv 0) pe_int) (pe_op op_mul (pv 1) pe_int)) pe_int)) pe_int))
      (pss_cons (ps_set (i := 4) sc_law_mixed.nd rfl (Or.inl rfl) (pe_op op_mod (pe_int1 T (pe_op op_add (pe_op op_add (pe_op op_mul (pv 3) pe_int) (pe_op op_mul (pv 1) pe_int)) pe_int)) pe_int))
      (pss_one (ps_ret (pe_op op_mod (pe_int1 T (pv 4)) (pv 2))))), ?_⟩
    walk_at "rd"
    obtain ⟨n, p, m, rfl, hm, q⟩ := h
    refine ⟨_, rfl, _, _, rfl, rfl, .inr ⟨by decide, by decide⟩, _, rfl, _, _, rfl, rfl, .inr ⟨by decide, by decide⟩, _, _, rfl, rfl, _, _, rfl, rfl, .inl ⟨_, rfl, _, _, rfl, rfl, by decide, ?_⟩⟩
    refine ⟨_, rfl, _, _, rfl, rfl, .inr ⟨by decide, by decide⟩, _, rfl, _, _, rfl, rfl, .inr ⟨by decide, by decide⟩, _, _, rfl, rfl, _, _, rfl, rfl, .inl ⟨_, rfl, _, _, rfl, rfl, by decide, ?_⟩⟩
    refine ⟨_, rfl, .inl ⟨_, rfl, _, rfl, _, _, rfl, rfl, hm, q _ (Int.emod_nonneg _ (by omega)) (Int.emod_lt_of_pos _ hm)⟩⟩
def sp_law_pool (K : PySem.W.Frag) : Sp := fun vs H Q _ => ∃ (a : Addr) (ns : List Int), vs = [.ref a] ∧ SqL K H a (ns.map V.int) ∧ ns.length ≤ 63 ∧ ∀ pl H', Same H H' → H pl = none → PoolAt H' pl → Q (.ref pl) H'
theorem ok_law_pool (T : Txt K mg) : Glb P w K mg base 1 "_law_pool" p_law_pool (sp_law_pool K) := by
  refine T.f_law_pool.ok sc_law_pool (fun vs H Q E h => ?_) (fun _ _ _ _ _ _ us hl => match us, hl with | [_], _ => rfl) fun cdv A outer s H vs Q E f hr h => ?_
  · obtain ⟨a, ns, rfl, _⟩ := h
    rfl
  · refine ⟨_, pss_one (ps_ret (pe_lst (pa_cons (pe_lc (own := [("_law_cell", 1)]) (g := gName 1) rfl sc_law_pool.nd (pi_list (pv 0)) (blkOk_by (own := [("_law_cell", 1)]) (N := n_law_pool) (sc := defScope s_law_pool) (by decide +kernel))
        (fun _ _ _ _ _ => pg_name (i := 1) sc_law_pool.nd rfl (Or.inl rfl)) (fun _ _ _ _ _ => pts_nil) (fun _ _ _ _ _ => pe_int1 T (pv 1)))
      (pa_cons pe_int (pa_cons pe_int (pa_cons pe_int (pa_cons (pe_un un_neg pe_int) pa_nil))))))), ?_⟩
    walk_at "rd"
    obtain ⟨a, ns, rfl, hS, hl, q⟩ := h
    refine ⟨_, rfl, a, rfl, ⟨_, hS⟩, fun D hD => ?_⟩
    refine lc_list (K := K) (a := a) (xs := ns.map V.int) (fun i H' => Same H H' ∧ H' D = some (.lst ((ns.take i).map V.int))) ⟨Same.new hD, upd_same⟩ (fun i H' _ h => h.1.seq hS) ?_ ?_
    · rintro i y H' hi ⟨s1, hD1⟩
      obtain ⟨z, hz, rfl⟩ : ∃ z, ns[i]? = some z ∧ y = V.int z := by
        rw [List.getElem?_map] at hi
        cases e : ns[i]? with
        | none =>
          rw [e] at hi
          cases hi
        | some z =>
          rw [e] at hi
          exact ⟨z, rfl, (Option.some.inj hi).symm⟩
      refine ⟨rfl, ?_⟩
      walk_at "rd"
      refine if_t rfl ⟨_, rfl, .inl ⟨_, rfl, _, hD1, ?_, ?_, ?_⟩⟩
      · rw [List.length_map, List.length_take, sizeLine_eq]
        omega
      · intro b o e
        rw [upd_ne (ne_of_none e hD)]
        exact s1 b o e
      · rw [upd_same, List.take_succ, hz, List.map_append]
        rfl
    · rintro H' ⟨s1, hD1⟩
      rw [List.length_map, List.take_length] at hD1
      refine ⟨_, rfl, (by show 5 ≤ sizeLine; decide), fun p hp => ?_⟩
      have s2 := s1.trans (Same.new (o := .lst [.ref D, .int 0, .int 0, .int 0, .int (-1)]) hp)
      exact q p _ s2 (s1.free hp) ⟨D, ns, 0, 0, 0, -1, upd_same, by rw [upd_ne (ne_of_none hD1 hp)]; exact hD1, by omega, by decide⟩
/-- the pool at pl bears these; all else as it was -/
structure Pl (H H' : Hp) (pl cl : Addr) (i1 i2 i3 i4 : Int) : Prop where
  at_ : H' pl = some (.lst [.ref cl, .int i1, .int i2, .int i3, .int i4])
  off : ∀ b, b ≠ pl → H' b = H b
theorem Pl.set {H H' : Hp} {pl cl : Addr} {i1 i2 i3 i4 j1 j2 j3 j4 : Int} (h : Pl H H' pl cl i1 i2 i3 i4) : Pl H (upd H' pl (.lst [.ref cl, .int j1, .int j2, .int j3, .int j4])) pl cl j1 j2 j3 j4 :=
  ⟨upd_same, fun b hb => by rw [upd_ne hb]; exact h.off b hb⟩
def sp_law_draw : Sp := fun vs H Q _ => ∃ (pl : Addr) (m : Int), vs = [.ref pl, .int m] ∧ PoolAt H pl ∧ 0 < m ∧ m < 1073741824 ∧ ∀ r H', 0 ≤ r → r < m → PoolAt H' pl → Kp [pl] H H' → Q (.int r) H'
theorem ok_law_draw (T : Txt K mg) : Glb P w K mg base 2 "_law_draw" p_law_draw sp_law_draw := by
  refine T.f_law_draw.ok sc_law_draw (fun vs H Q E h => ?_) (fun _ _ _ _ _ _ us hl => match us, hl with | [_, _], _ => rfl) fun cdv A outer s H vs Q E f hr h => ?_
  · obtain ⟨pl, m, rfl, _⟩ := h
    rfl
  · refine ⟨_, pss_cons (ps_set (i := 2) sc_law_draw.nd rfl (Or.inl rfl) (pe_ix ix_list (pv 0) pe_int (fun _ _ => rfl)))
      (pss_cons (ps_asg (pe_op op_add (pe_ix ix_list (pv 0) pe_int (fun _ _ => rfl)) pe_int) (pg_sub (pv 0) pe_int set_list))
      (pss_cons (ps_if (pt_cmpR op_ge (pe_ix ix_list (pv 0) pe_int (fun _ _ => rfl)) (pe_len1 T (pv 2)) (nomark _))
        (pss_one (ps_ret (pe_callG (ok_law_mixed T) hr (pa_cons (pe_op op_add (pe_op op_mul (pe_ix ix_list (pv 0) pe_int (fun _ _ => rfl)) pe_int) (pe_len1 T (pv 2))) (pa_cons (pe_ix ix_list (pv 0) pe_int (fun _ _ => rfl)) (pa_cons (pv 1) pa_nil)))))) pss_nil)
      (pss_cons (ps_set (i := 3) sc_law_draw.nd rfl (Or.inl rfl) (pe_ix ix_list (pv 2) (pe_ix ix_list (pv 0) pe_int (fun _ _ => rfl)) (fun _ _ => rfl)))
      (pss_cons (ps_asg (pe_op op_add (pe_ix ix_list (pv 0) pe_int (fun _ _ => rfl)) pe_int) (pg_sub (pv 0) pe_int set_list))
      (C8.pss_cut (ps_if (pw_and (pt_cmpR op_lt (pe_ix ix_list (pv 0) pe_int (fun _ _ => rfl)) pe_int (nomark _)) (pw_and1 (pt_cmpR op_ge (pv 3) (pe_op op_pow pe_int pe_int) (nomark _)))).pt (pss_one (ps_asg (pv 3) (pg_sub (pv 0) pe_int set_list))) pss_nil)
      (C8.pss_cut (ps_if (pt_cmpR op_lt (pe_ix ix_list (pv 0) pe_int (fun _ _ => rfl)) pe_int (nomark _))
          (pss_cons (ps_set (i := 4) sc_law_draw.nd rfl (Or.inl rfl) (pe_callG (ok_law_mixed T) hr (pa_cons (pv 3) (pa_cons (pe_ix ix_list (pv 0) pe_int (fun _ _ => rfl)) (pa_cons (pv 1) pa_nil))))) (pss_one (ps_set (i := 5) sc_law_draw.nd rfl (Or.inl rfl) pe_int)))
          (pss_cons (ps_set (i := 4) sc_law_draw.nd rfl (Or.inl rfl) (pe_op op_mod (pe_int1 T (pe_ix ix_list (pv 0) pe_int (fun _ _ => rfl))) (pv 1))) (pss_cons (ps_asg (pe_op op_fdiv (pe_ix ix_list (pv 0) pe_int (fun _ _ => rfl)) (pv 1)) (pg_sub (pv 0) pe_int set_list)) (pss_one (ps_set (i := 5) sc_law_draw.nd rfl (Or.inl rfl) pe_int)))))
      (pss_cons (ps_if (pw_or (pt_cmpR op_ge (pe_ix ix_list (pv 0) pe_int (fun _ _ => rfl)) (pv 5) (nomark _)) (pw_or1 (pt_cmpR op_eq (pe_ix ix_list (pv 0) pe_int (fun _ _ => rfl)) pe_int (nomark _)))).pt
          (pss_cons (ps_asg (pe_op op_add (pe_ix ix_list (pv 0) pe_int (fun _ _ => rfl)) pe_int) (pg_sub (pv 0) pe_int set_list)) (pss_cons (ps_asg pe_int (pg_sub (pv 0) pe_int set_list)) (pss_one (ps_asg (pe_un un_neg pe_int) (pg_sub (pv 0) pe_int set_list))))) pss_nil)
      (pss_one (ps_ret (pv 4)))))))))), ?_⟩
    walk_at "rd"
    obtain ⟨pl, m, rfl, ⟨cl, cs, i1, i2, i3, i4, hp, hc, h63, h0⟩, hm, hm2, q⟩ := h
    have ncl : cl ≠ pl := ne_of hc hp (fun z => by
      have z' : cs.map V.int = _ := HO.lst.inj z
      cases cs with
      | nil => cases z'
      | cons a l => cases z')
    have fin : ∀ {H' : Hp} {j1 j2 j3 j4 r : Int}, Pl H H' pl cl j1 j2 j3 j4 → 0 ≤ j1 → 0 ≤ r → r < m → Q (.int r) H' := fun {H' j1 j2 j3 j4 r} L hj h1 h2 =>
      q r H' h1 h2 ⟨cl, cs, j1, j2, j3, j4, L.at_, by rw [L.off cl ncl]; exact hc, h63, hj⟩ fun b o e n => by
        have nb : b ≠ pl := fun z => by
          rcases n with n | ⟨xs, n⟩
          · exact n (by rw [z]; exact List.mem_singleton.mpr rfl)
          · rw [z, hp] at e
            rw [n] at e
            cases e
        rw [L.off b nb]
        exact e
    have L0 : Pl H H pl cl i1 i2 i3 i4 := ⟨hp, fun _ _ => rfl⟩
    refine ⟨_, rfl, pl, _, 0, _, rfl, rfl, SqL.of hp, rfl, ?_⟩
    refine ⟨_, rfl, pl, _, 3, _, rfl, rfl, SqL.of hp, rfl, _, _, rfl, rfl, _, rfl, pl, _, 3, 3, rfl, rfl, hp, rfl, ?_⟩
    have L1 : Pl H (upd H pl (.lst ([V.ref cl, .int i1, .int i2, .int i3, .int i4].set 3 (.int (i3 + 1))))) pl cl i1 i2 (i3 + 1) i4 := L0.set
    generalize upd H pl (.lst ([V.ref cl, .int i1, .int i2, .int i3, .int i4].set 3 (.int (i3 + 1)))) = H1 at L1 ⊢
    have hp1 := L1.at_
    have hc1 : H1 cl = some (.lst (cs.map V.int)) := by
      rw [L1.off cl ncl]
      exact hc
    refine ⟨_, rfl, pl, _, 1, _, rfl, rfl, SqL.of hp1, rfl, _, rfl, cl, _, rfl, .inl (SqL.of hc1), _, _, rfl, rfl, _, rfl, if_d (fun hge => ?_) (fun hge => ?_)⟩
    · refine ⟨_, rfl, pl, _, 3, _, rfl, rfl, SqL.of hp1, rfl, _, _, rfl, rfl, .inr ⟨by decide, by decide⟩, _, rfl, cl, _, rfl, .inl (SqL.of hc1), _, _, rfl, rfl, _, rfl, pl, _, 3, _, rfl, rfl, SqL.of hp1, rfl, _, rfl, _, _, m, rfl, hm, fun r r0 r1 => ?_⟩
      exact fin L1 h0 r0 r1
    · rw [List.length_map] at hge
      obtain ⟨j, ej⟩ : ∃ j : Nat, i1 = (j : Int) := ⟨i1.toNat, by omega⟩
      have hj : j < cs.length := by omega
      refine ⟨_, rfl, _, rfl, pl, _, 1, _, rfl, rfl, SqL.of hp1, rfl, cl, _, _, .int cs[j], rfl, rfl, SqL.of hc1, (by rw [ej]; exact atI_nat (j := j) (by rw [List.getElem?_map, List.getElem?_eq_getElem hj]; rfl)), ?_⟩
      generalize cs[j] = cell
      refine ⟨_, rfl, pl, _, 2, _, rfl, rfl, SqL.of hp1, rfl, _, _, rfl, rfl, _, rfl, pl, _, 2, 2, rfl, rfl, hp1, rfl, ?_⟩
      have L2 : Pl H (upd H1 pl (.lst ([V.ref cl, .int i1, .int i2, .int (i3 + 1), .int i4].set 2 (.int (i2 + 1))))) pl cl i1 (i2 + 1) (i3 + 1) i4 := L1.set
      generalize upd H1 pl (.lst ([V.ref cl, .int i1, .int i2, .int (i3 + 1), .int i4].set 2 (.int (i2 + 1)))) = H2 at L2 ⊢
      have hp2 := L2.at_
      -- the great number
      refine ⟨fun σ H' => σ = [some (.ref pl), some (.int m), some (.ref cl), some (.int cell), none, none] ∧ ∃ j4, Pl H H' pl cl i1 (i2 + 1) (i3 + 1) j4, ?_, ?_⟩
      · refine ⟨_, rfl, pl, _, 4, _, rfl, rfl, SqL.of hp2, rfl, _, _, rfl, rfl, _, rfl, if_d (fun h1 => ?_) (fun h1 => ?_)⟩
        · refine ⟨_, rfl, _, _, rfl, rfl, ⟨by decide, by decide, by decide⟩, _, _, rfl, rfl, _, rfl, if_d (fun h2 => ?_) (fun h2 => ?_)⟩
          · exact ⟨_, rfl, _, rfl, pl, _, 4, 4, rfl, rfl, hp2, rfl, rfl, cell, L2.set⟩
          · exact ⟨rfl, i4, L2⟩
        · exact if_f rfl ⟨rfl, i4, L2⟩
      · rintro σ H3 ⟨rfl, j4, L3⟩
        have hp3 := L3.at_
        refine ⟨fun σ H' => ∃ told last j4', σ = [some (.ref pl), some (.int m), some (.ref cl), some (.int cell), some (.int told), some (.int last)] ∧ Pl H H' pl cl i1 (i2 + 1) (i3 + 1) j4' ∧ 0 ≤ told ∧ told < m, ?_, ?_⟩
        · refine ⟨_, rfl, pl, _, 4, _, rfl, rfl, SqL.of hp3, rfl, _, _, rfl, rfl, _, rfl, if_d (fun h1 => ?_) (fun h1 => ?_)⟩
          · exact ⟨_, rfl, _, rfl, pl, _, 3, _, rfl, rfl, SqL.of hp3, rfl, _, rfl, _, _, m, rfl, hm, fun r r0 r1 => ⟨r, 3, j4, rfl, L3, r0, r1⟩⟩
          · refine ⟨_, rfl, pl, _, 4, _, rfl, rfl, SqL.of hp3, rfl, .inl ⟨_, rfl, _, rfl, _, _, rfl, rfl, hm, ?_⟩⟩
            refine ⟨_, rfl, pl, _, 4, _, rfl, rfl, SqL.of hp3, rfl, _, rfl, _, _, rfl, rfl, ⟨hm, hm2⟩, _, rfl, pl, _, 4, 4, rfl, rfl, hp3, rfl, ?_⟩
            exact ⟨j4 % m, 60, j4 / m, rfl, L3.set, Int.emod_nonneg _ (by omega), Int.emod_lt_of_pos _ hm⟩
        · rintro σ H4 ⟨told, last, k4, rfl, L4, t0, t1⟩
          have hp4 := L4.at_
          have done : ∀ (H5 : Hp) (j1 j2 j3 j5 : Int), Pl H H5 pl cl j1 j2 j3 j5 → 0 ≤ j1 → Q (.int told) H5 := fun H5 j1 j2 j3 j5 L5 z => fin L5 z t0 t1
          have stores : ∃ v, (some (V.int told)) = some v ∧ True := ⟨_, rfl, trivial⟩
          have tail : ∀ {B : Prop}, (∀ H5, Pl H H5 pl cl (i1 + 1) 0 (i3 + 1) (-1) → B) → True := fun _ => trivial
          refine ⟨_, rfl, pl, _, 2, _, rfl, rfl, SqL.of hp4, rfl, _, rfl, _, _, rfl, rfl, _, rfl, ?_⟩
          refine if_d (fun h1 => if_t rfl ?_) (fun h1 => ⟨_, rfl, pl, _, 4, _, rfl, rfl, SqL.of hp4, rfl, rfl, _, rfl, if_d (fun h2 => ?_) (fun h2 => ?_)⟩)
          · refine ⟨_, rfl, pl, _, 1, _, rfl, rfl, SqL.of hp4, rfl, _, _, rfl, rfl, _, rfl, pl, _, 1, 1, rfl, rfl, hp4, rfl, ?_⟩
            refine ⟨_, rfl, pl, _, 2, 2, rfl, rfl, upd_same, rfl, ?_⟩
            refine ⟨_, rfl, _, rfl, pl, _, 4, 4, rfl, rfl, upd_same, rfl, ?_⟩
            rw [upd_upd, upd_upd]
            exact ⟨_, rfl, done _ (i1 + 1) 0 (i3 + 1) (-1) L4.set (by omega)⟩
          · refine ⟨_, rfl, pl, _, 1, _, rfl, rfl, SqL.of hp4, rfl, _, _, rfl, rfl, _, rfl, pl, _, 1, 1, rfl, rfl, hp4, rfl, ?_⟩
            refine ⟨_, rfl, pl, _, 2, 2, rfl, rfl, upd_same, rfl, ?_⟩
            refine ⟨_, rfl, _, rfl, pl, _, 4, 4, rfl, rfl, upd_same, rfl, ?_⟩
            rw [upd_upd, upd_upd]
            exact ⟨_, rfl, done _ (i1 + 1) 0 (i3 + 1) (-1) L4.set (by omega)⟩
          · exact ⟨_, rfl, done _ _ _ _ _ L4 h0⟩
end
end RI

set_option maxHeartbeats 4000000
namespace RI
open PySem PySem.Spec PyProof.Rows L2
local macro_rules | `(tactic| walk_at "rd") => `(tactic| dsimp only [tVar, tC, t2I, tOp, tUn, rI, rI0, rU, tCmp, tB, tAnd, tOr, tNot, tAndV, tOrV, tNotV, tIf, tNext, tSeq, tDrop, tRet, tRetN, tIfS, gName, gNil, gCons, gTup, gSub, tAsg, tPar, tAug, ipI, iList, iTup, iRng1, iRng2, tTest, tChain, rEq, rNe, tFld, sFld, tNil, tCons, tTup, tLst, tCall, tMeth, tMake, tCB, tSl, tPart, tNoPart, tProp, tMakeK, tMakeN, rIxL, rIxT, rSetL, tBM, tBM0, rAppend, rCat, C8.tCut, tYes, tDGet, tDIn, sDPut, tDNewK])
/-! ### the rows that the law draws, and what holds of all of them (by the kernel) -/
def slotF (rule : Str) (n c : Int) : Int := if V.str rule = V.str "rest" then c % n else if V.str rule = V.str "mask" then Builtin.bitAnd c (n - 1) else if c < n then c else if c < 2 * n then c - n else -1
def lookI (l : List (Int × Int)) (k : Int) : Option Int := (l.find? fun q => decide (q.1 = k)).map (·.2)
def putI (l : List (Int × Int)) (k v : Int) : List (Int × Int) := if l.any (fun q => decide (q.1 = k)) = true then l.map fun q => if q.1 = k then (q.1, v) else q else l ++ [(k, v)]
/-- one turn of the window's loop -/
def wStep (rule : Str) (n M : Int) (s : List (Int × Int) × Int) (i : Nat) : List (Int × Int) × Int :=
  (putI s.1 (slotF rule n ((i : Int) % M)) i, match lookI s.1 (slotF rule n ((i : Int) % M)) with
    | some j => if (i : Int) - j < s.2 then (i : Int) - j else s.2
    | none => s.2)
def winS (rule : Str) (n M : Int) (k : Nat) : List (Int × Int) × Int := (List.range k).foldl (wStep rule n M) ([], M)
def winF (rule : Str) (n M : Int) : Int := (winS rule n M (2 * M).toNat).2
def rightF (r : Row) (n : Int) : Bool := decide (1 ≤ roomF r.brim n (modF r.turn n)) && (decide (roomF r.brim n (modF r.turn n) ≤ winF r.rule n (modF r.turn n)) && decide (roomF r.brim n (modF r.turn n) < modF r.turn n))
def upTo (k : Nat) : List Int := (List.range k).map fun (i : Nat) => (i : Int)
def rows0 : List Row := (upTo 4).flatMap fun i => (upTo 5).map fun j => ⟨.form (1 + i) 0, "rest", .lim "=" 0 (1 + j)⟩
def rows1 : List Row := [⟨.form 1 0, "rest", .next⟩, ⟨.form 1 0, "off", .next⟩]
def rows2 : List Row := (["rest", "off"] : List Str).flatMap fun s => (upTo 3).map fun j => ⟨.form 2 0, s, .lim "=" 1 (-j)⟩
def rows3 : List Row := (upTo 5).flatMap fun i => (["rest", "mask"] : List Str).flatMap fun s => (upTo 4).map fun j => ⟨.width (1 + i), s, .lim ">=" 0 (1 + j)⟩
def rows6 : List Row := (upTo 21).flatMap fun i => (upTo 5).map fun j => ⟨.form 1 i, "rest", .lim "=" 0 (1 + j)⟩
def allRows : List Row := rows0 ++ (rows1 ++ (rows2 ++ (rows3 ++ rows6)))
/-- turn and rule of all rows -/
def turnRules : List (RTurn × Str) := (upTo 4).map (fun i => (RTurn.form (1 + i) 0, ("rest" : Str))) ++ ([(RTurn.form 1 0, ("off" : Str)), (RTurn.form 2 0, ("off" : Str))] ++ ((upTo 5).flatMap (fun i => [(RTurn.width (1 + i), ("rest" : Str)), (RTurn.width (1 + i), ("mask" : Str))]) ++ (upTo 21).map fun i => (RTurn.form 1 i, ("rest" : Str))))
theorem mem_upTo {k : Nat} {i : Int} (h0 : 0 ≤ i) (h1 : i < k) : i ∈ upTo k := List.mem_map.mpr ⟨i.toNat, List.mem_range.mpr (by omega), by omega⟩
def goodTurnB : RTurn → Bool
  | .form a b => decide (0 ≤ a) && decide (a ≤ 4) && decide (-20 ≤ b) && decide (b ≤ 20)
  | .width n => decide (1 ≤ n) && decide (n ≤ 100)
def goodBrimB : RBrim → Bool
  | .next => true
  | .lim op a b => (decide (op = "=") || decide (op = ">=")) && decide (0 ≤ a) && decide (a ≤ 4) && decide (-20 ≤ b) && decide (b ≤ 20)
def isWidth : RTurn → Bool
  | .width _ => true
  | _ => false
def goodRowB (r : Row) : Bool := goodTurnB r.turn && ((decide (r.rule = "rest") || (decide (r.rule = "off") || (decide (r.rule = "mask") && isWidth r.turn))) && (goodBrimB r.brim && turnRules.contains (r.turn, r.rule)))
theorem rows_good : (allRows.all goodRowB) = true := by decide +kernel
/-- what is checked of one turn, rule and size: the modulus, the window of both, slots inside and apart within the window -/
def geoB (rule : Str) (n M : Int) : Bool := decide (1 ≤ M) && (decide (M ≤ 1000) && (decide (winF rule n M = progWin rule n M) && (!outB rule n M && ((upTo M.toNat).all fun c => decide (0 ≤ slotF rule n c) && (decide (slotF rule n c < n) &&
  (upTo (winF rule n M).toNat).all fun d => decide (d = 0) || !decide (slotF rule n c = slotF rule n ((c + d) % M)))))))
theorem geo_all : (turnRules.all fun q => (upTo 12).all fun k => geoB q.2 (1 + k) (modF q.1 (1 + k))) = true := by decide +kernel
theorem fall_all : ((upTo 12).all fun k => rightF ⟨.form 2 0, "off", .lim "=" 1 0⟩ (1 + k)) = true := by decide +kernel
theorem bt {a b : Bool} (h : (a && b) = true) : a = true ∧ b = true := Bool.and_eq_true_iff.mp h
theorem row_good {r : Row} (h : r ∈ allRows) : GoodRow r ∧ (r.turn, r.rule) ∈ turnRules := by
  have z := List.all_eq_true.mp rows_good r h
  obtain ⟨z1, z⟩ := bt z
  obtain ⟨z2, z⟩ := bt z
  obtain ⟨z3, z4⟩ := bt z
  refine ⟨⟨?_, ?_, ?_⟩, List.contains_iff_mem.mp z4⟩
  · cases ht : r.turn with
    | form a b =>
      rw [ht] at z1
      obtain ⟨y, y4⟩ := bt z1
      obtain ⟨y, y3⟩ := bt y
      obtain ⟨y1, y2⟩ := bt y
      exact ⟨of_decide_eq_true y1, of_decide_eq_true y2, of_decide_eq_true y3, of_decide_eq_true y4⟩
    | width n =>
      rw [ht] at z1
      obtain ⟨y1, y2⟩ := bt z1
      exact ⟨of_decide_eq_true y1, of_decide_eq_true y2⟩
  · rcases Bool.or_eq_true_iff.mp z2 with y | y
    · exact .inl (of_decide_eq_true y)
    · rcases Bool.or_eq_true_iff.mp y with y | y
      · exact .inr (.inl (of_decide_eq_true y))
      · obtain ⟨y1, y2⟩ := bt y
        refine .inr (.inr ⟨of_decide_eq_true y1, ?_⟩)
        cases ht : r.turn with
        | form a b =>
          rw [ht] at y2
          cases y2
        | width n => exact ⟨n, rfl⟩
  · cases hb : r.brim with
    | next => trivial
    | lim op a b =>
      rw [hb] at z3
      obtain ⟨y, y4⟩ := bt z3
      obtain ⟨y, y3⟩ := bt y
      obtain ⟨y, y2⟩ := bt y
      obtain ⟨y0, y1⟩ := bt y
      refine ⟨?_, of_decide_eq_true y1, of_decide_eq_true y2, of_decide_eq_true y3, of_decide_eq_true y4⟩
      rcases Bool.or_eq_true_iff.mp y0 with x | x
      · exact .inl (of_decide_eq_true x)
      · exact .inr (of_decide_eq_true x)
/-- the geometry of a row at a size -/
structure Geo (rule : Str) (n M : Int) : Prop where
  m1 : 1 ≤ M
  m2 : M ≤ 1000
  win : winF rule n M = progWin rule n M
  out : outB rule n M = false
  ins : ∀ c, 0 ≤ c → c < M → 0 ≤ slotF rule n c ∧ slotF rule n c < n
  apart : ∀ c d, 0 ≤ c → c < M → 1 ≤ d → d < winF rule n M → slotF rule n c ≠ slotF rule n ((c + d) % M)
theorem row_geo {r : Row} (h : r ∈ allRows) {n : Int} (n1 : 1 ≤ n) (n2 : n ≤ 12) : Geo r.rule n (modF r.turn n) := by
  have z : geoB r.rule (1 + (n - 1)) (modF r.turn (1 + (n - 1))) = true := List.all_eq_true.mp (List.all_eq_true.mp geo_all _ (row_good h).2) (n - 1) (mem_upTo (by omega) (by omega))
  have e : (1 : Int) + (n - 1) = n := by omega
  rw [e] at z
  obtain ⟨z1, z⟩ := bt z
  obtain ⟨z2, z⟩ := bt z
  obtain ⟨z3, z⟩ := bt z
  obtain ⟨z4, z5⟩ := bt z
  refine ⟨of_decide_eq_true z1, of_decide_eq_true z2, of_decide_eq_true z3, by simpa using z4, fun c c0 c1 => ?_, fun c d c0 c1 d1 d2 => ?_⟩
  · obtain ⟨y1, y⟩ := bt (List.all_eq_true.mp z5 c (mem_upTo c0 (by omega)))
    obtain ⟨y2, _⟩ := bt y
    exact ⟨of_decide_eq_true y1, of_decide_eq_true y2⟩
  · obtain ⟨_, y⟩ := bt (List.all_eq_true.mp z5 c (mem_upTo c0 (by omega)))
    obtain ⟨_, y⟩ := bt y
    have x := List.all_eq_true.mp y d (mem_upTo (by omega) (by omega))
    rcases Bool.or_eq_true_iff.mp x with x | x
    · have := of_decide_eq_true x
      omega
    · have x' : decide (slotF r.rule n c = slotF r.rule n ((c + d) % modF r.turn n)) = false := by simpa using x
      exact of_decide_eq_false x'
theorem right_of {r : Row} (h : r ∈ allRows) {n : Int} (n1 : 1 ≤ n) (n2 : n ≤ 12) (hr : rightF r n = true) : RightC r n := by
  have G := row_geo h n1 n2
  obtain ⟨z1, z⟩ := bt hr
  obtain ⟨z2, z3⟩ := bt z
  refine ⟨n1, by omega, (row_good h).1, G.m1, of_decide_eq_true z1, of_decide_eq_true z3, G.out, ?_⟩
  rw [← G.win]
  exact of_decide_eq_true z2
theorem fall_right {n : Int} (n1 : 1 ≤ n) (n2 : n ≤ 12) : rightF ⟨.form 2 0, "off", .lim "=" 1 0⟩ n = true := by
  have z := List.all_eq_true.mp fall_all (n - 1) (mem_upTo (by omega) (by omega))
  have e : (1 : Int) + (n - 1) = n := by omega
  rw [e] at z
  exact z
end RI

set_option maxHeartbeats 4000000
namespace RI
open PySem PySem.Spec PyProof.Rows L2
local macro_rules | `(tactic| walk_at "rd") => `(tactic| dsimp only [tVar, tC, t2I, tOp, tUn, rI, rI0, rU, tCmp, tB, tAnd, tOr, tNot, tAndV, tOrV, tNotV, tIf, tNext, tSeq, tDrop, tRet, tRetN, tIfS, gName, gNil, gCons, gTup, gSub, tAsg, tPar, tAug, ipI, iList, iTup, iRng1, iRng2, tTest, tChain, rEq, rNe, tFld, sFld, tNil, tCons, tTup, tLst, tCall, tMeth, tMake, tCB, tSl, tPart, tNoPart, tProp, tMakeK, tMakeN, rIxL, rIxT, rSetL, tBM, tBM0, rAppend, rCat, C8.tCut, tYes, tDGet, tDIn, sDPut, tDNewK])
/-! ### the law's rows as tuples -/
def TurnAt (H : Hp) (v : V) : RTurn → Prop
  | .form a b => ∃ t, v = .ref t ∧ H t = some (.tup [.int a, .int b])
  | .width n => v = .int n
def BrimAt (H : Hp) (v : V) : RBrim → Prop
  | .next => ∃ t, v = .ref t ∧ H t = some (.tup [.str "next"])
  | .lim op a b => ∃ t u, v = .ref t ∧ H t = some (.tup [.str "diff", .str op, .ref u]) ∧ H u = some (.tup [.int a, .int b])
def RowAt (H : Hp) (v : V) (r : Row) : Prop := ∃ t vt vb, v = .ref t ∧ H t = some (.tup [vt, .str r.rule, .str "same", vb]) ∧ TurnAt H vt r.turn ∧ BrimAt H vb r.brim
theorem TurnAt.kp {S : List Addr} {H H' : Hp} {v : V} {t : RTurn} (k : Kp S H H') (h : TurnAt H v t) : TurnAt H' v t := by
  cases t with
  | form a b =>
    obtain ⟨t, e, h⟩ := h
    exact ⟨t, e, k.tup h⟩
  | width n => exact h
theorem BrimAt.kp {S : List Addr} {H H' : Hp} {v : V} {b : RBrim} (k : Kp S H H') (h : BrimAt H v b) : BrimAt H' v b := by
  cases b with
  | next =>
    obtain ⟨t, e, h⟩ := h
    exact ⟨t, e, k.tup h⟩
  | lim op a b =>
    obtain ⟨t, u, e, h, h2⟩ := h
    exact ⟨t, u, e, k.tup h, k.tup h2⟩
theorem RowAt.kp {S : List Addr} {H H' : Hp} {v : V} {r : Row} (k : Kp S H H') (h : RowAt H v r) : RowAt H' v r := by
  obtain ⟨t, vt, vb, e, h, h1, h2⟩ := h
  exact ⟨t, vt, vb, e, k.tup h, h1.kp k, h2.kp k⟩
theorem RowAt.same {H H' : Hp} {v : V} {r : Row} (k : Same H H') (h : RowAt H v r) : RowAt H' v r := h.kp (Kp.same (S := []) k)
section
variable {P : Program} {w : World} {K : PySem.W.Frag} {mg : Str → Option Value} {base : Heap}
def sp_law_wide : Sp := fun vs H Q _ => ∃ (pl : Addr) (m : Int), vs = [.ref pl, .int m] ∧ PoolAt H pl ∧ 0 ≤ m ∧ ∀ r H', 0 ≤ r → r ≤ m → PoolAt H' pl → Kp [pl] H H' → Q (.int r) H'
theorem ok_law_wide (T : Txt K mg) : Glb P w K mg base 3 "_law_wide" p_law_wide sp_law_wide := by
  refine T.f_law_wide.ok sc_law_wide (fun vs H Q E h => ?_) (fun _ _ _ _ _ _ us hl => match us, hl with | [_, _], _ => rfl) fun cdv A outer s H vs Q E f hr h => ?_
  · obtain ⟨pl, m, rfl, _⟩ := h
    rfl
  · refine ⟨_, pss_cons (ps_set (i := 2) sc_law_wide.nd rfl (Or.inl rfl) (pe_callG (ok_law_draw T) hr (pa_cons (pv 0) (pa_cons pe_int pa_nil))))
      (pss_cons (ps_if (pt_cmpR op_eq (pv 2) pe_int (nomark _)) (pss_one (ps_ret (pe_op op_mod (pe_int1 T (pe_callG (ok_law_draw T) hr (pa_cons (pv 0) (pa_cons pe_int pa_nil)))) (pe_op op_add (pv 1) pe_int)))) pss_nil)
      (pss_cons (ps_if (pt_cmpR op_eq (pv 2) pe_int (nomark _)) (pss_one (ps_ret (pe_op op_mod (pe_int1 T (pe_callG (ok_law_draw T) hr (pa_cons (pv 0) (pa_cons pe_int pa_nil)))) (pe_op op_add (pv 1) pe_int)))) pss_nil)
      (pss_cons (ps_set (i := 3) sc_law_wide.nd rfl (Or.inl rfl) (pe_op op_add (pe_op op_add (pe_op op_mul (pe_callG (ok_law_draw T) hr (pa_cons (pv 0) (pa_cons (pe_op op_pow pe_int pe_int) pa_nil))) (pe_op op_pow pe_int pe_int))
          (pe_op op_mul (pe_callG (ok_law_draw T) hr (pa_cons (pv 0) (pa_cons (pe_op op_pow pe_int pe_int) pa_nil))) (pe_op op_pow pe_int pe_int))) (pe_callG (ok_law_draw T) hr (pa_cons (pv 0) (pa_cons (pe_op op_pow pe_int pe_int) pa_nil)))))
      (C8.pss_cut (ps_if (pt_cmpR op_eq (pv 2) pe_int (nomark _)) (pss_one (ps_set (i := 3) sc_law_wide.nd rfl (Or.inl rfl) (pe_op op_add (pe_op op_mul (pv 3) (pe_op op_pow pe_int pe_int)) (pe_callG (ok_law_draw T) hr (pa_cons (pv 0) (pa_cons (pe_op op_pow pe_int pe_int) pa_nil)))))) pss_nil)
      (pss_one (ps_ret (pe_op op_mod (pe_int1 T (pv 3)) (pe_op op_add (pv 1) pe_int)))))))), ?_⟩
    walk_at "rd"
    obtain ⟨pl, m, rfl, hp, hm, q⟩ := h
    have fin : ∀ (i : Int) (H' : Hp), PoolAt H' pl → Kp [pl] H H' → Q (.int (i % (m + 1))) H' := fun i H' p k => q _ H' (Int.emod_nonneg _ (by omega)) (by have := Int.emod_lt_of_pos i (show 0 < m + 1 by omega); omega) p k
    have m1 : (0 : Int) < m + 1 := by omega
    have c9 : CPow 10 9 := ⟨by decide, by decide, by decide⟩
    have p9 : (0 : Int) < 10 ^ (9 : Int).toNat := by decide +kernel
    have q9 : (10 : Int) ^ (9 : Int).toNat < 1073741824 := by decide +kernel
    have c18 : CPow 10 18 := ⟨by decide, by decide, by decide⟩
    have c13 : CPow 10 13 := ⟨by decide, by decide, by decide⟩
    have w18 : -(2 ^ 64) < (10 : Int) ^ (18 : Int).toNat ∧ (10 : Int) ^ (18 : Int).toNat < 2 ^ 64 := by decide +kernel
    have w13 : -(2 ^ 64) < (10 : Int) ^ (13 : Int).toNat ∧ (10 : Int) ^ (13 : Int).toNat < 2 ^ 64 := by decide +kernel
    have w9 : -(2 ^ 64) < (10 : Int) ^ (9 : Int).toNat ∧ (10 : Int) ^ (9 : Int).toNat < 2 ^ 64 := by decide +kernel
    refine ⟨_, rfl, pl, 4, rfl, hp, by decide, by decide, fun kd H1 _ _ hp1 k1 => ?_⟩
    refine ⟨_, rfl, rfl, _, rfl, if_d (fun h => ?_) (fun h => ?_)⟩
    · exact ⟨_, rfl, pl, 13, rfl, hp1, by decide, by decide, fun r H2 _ _ hp2 k2 => .inl ⟨_, rfl, _, rfl, _, _, rfl, rfl, _, _, rfl, rfl, m1, fin r H2 hp2 (k1.trans k2)⟩⟩
    refine ⟨_, rfl, rfl, _, rfl, if_d (fun h => ?_) (fun h => ?_)⟩
    · exact ⟨_, rfl, pl, 1000, rfl, hp1, by decide, by decide, fun r H2 _ _ hp2 k2 => .inl ⟨_, rfl, _, rfl, _, _, rfl, rfl, _, _, rfl, rfl, m1, fin r H2 hp2 (k1.trans k2)⟩⟩
    refine ⟨_, rfl, _, _, rfl, rfl, c9, pl, _, rfl, hp1, p9, q9, fun a1 H2 _ _ hp2 k2 => ?_⟩
    refine ⟨_, _, rfl, rfl, c18, _, _, rfl, rfl, .inr w18, ?_⟩
    refine ⟨_, rfl, _, _, rfl, rfl, c9, pl, _, rfl, hp2, p9, q9, fun a2 H3 _ _ hp3 k3 => ?_⟩
    refine ⟨_, _, rfl, rfl, c9, _, _, rfl, rfl, .inr w9, _, _, rfl, rfl, ?_⟩
    refine ⟨_, rfl, _, _, rfl, rfl, c9, pl, _, rfl, hp3, p9, q9, fun a3 H4 _ _ hp4 k4 => ?_⟩
    refine ⟨_, _, rfl, rfl, ?_⟩
    have k14 := ((k1.trans k2).trans k3).trans k4
    refine ⟨fun σ H' => ∃ z : Int, σ = [some (.ref pl), some (.int m), some (.int kd), some (.int z)] ∧ PoolAt H' pl ∧ Kp [pl] H H', ?_, ?_⟩
    · refine ⟨_, rfl, rfl, _, rfl, if_d (fun h => ?_) (fun h => ?_)⟩
      · refine ⟨_, rfl, _, _, rfl, rfl, c13, _, _, rfl, rfl, .inr w13, ?_⟩
        exact ⟨_, rfl, _, _, rfl, rfl, c9, pl, _, rfl, hp4, p9, q9, fun a4 H5 _ _ hp5 k5 => ⟨_, _, rfl, rfl, _, rfl, hp5, k14.trans k5⟩⟩
      · exact ⟨_, rfl, hp4, k14⟩
    · rintro σ H5 ⟨z, rfl, hp5, k5⟩
      exact ⟨_, rfl, .inl ⟨_, rfl, _, rfl, _, _, rfl, rfl, _, _, rfl, rfl, m1, fin z H5 hp5 k5⟩⟩
def sp_law_modulus : Sp := fun vs H Q _ => ∃ (v : V) (t : RTurn) (n : Int), vs = [v, .int n] ∧ TurnAt H v t ∧ GoodTurn t ∧ Q (.int (modF t n)) H
theorem ok_law_modulus (T : Txt K mg) : Glb P w K mg base 1 "_law_modulus" p_law_modulus sp_law_modulus := by
  refine T.f_law_modulus.ok sc_law_modulus (fun vs H Q E h => ?_) (fun _ _ _ _ _ _ us hl => match us, hl with | [_, _], _ => rfl) fun cdv A outer s H vs Q E f hr h => ?_
  · obtain ⟨v, t, n, rfl, _⟩ := h
    rfl
  · refine ⟨_, pss_cons (ps_if (pt_val (pe_isi T (pv 0) (pe_tyTuple T))) (pss_one (ps_ret (pe_op op_add (pe_op op_mul (pe_ix ix_tup (pv 0) pe_int (fun _ _ => rfl)) (pv 1)) (pe_ix ix_tup (pv 0) pe_int (fun _ _ => rfl))))) pss_nil)
      (pss_cons (ps_set (i := 2) sc_law_modulus.nd rfl (Or.inl rfl) pe_int)
      (pss_cons (ps_for PassesOwn.never rfl (pi_range1 rfl T.b_range (pa_cons (pv 0) pa_nil)) (pg_name (i := 3) sc_law_modulus.nd rfl (Or.inl rfl)) (pss_one (ps_set (i := 2) sc_law_modulus.nd rfl (Or.inl rfl) (pe_op op_mul (pv 2) pe_int))))
      (pss_one (ps_ret (pv 2))))), ?_⟩
    walk_at "rd"
    obtain ⟨v, t, n, rfl, ht, hg, q⟩ := h
    cases t with
    | form a b =>
      obtain ⟨t, rfl, ht⟩ := ht
      obtain ⟨g1, g2, g3, g4⟩ := hg
      exact ⟨_, rfl, ri_tt ht ⟨_, rfl, if_t rfl ⟨_, rfl, t, _, 0, _, rfl, rfl, SqT.of ht, rfl, _, rfl, _, _, rfl, rfl, .inl ⟨by omega, by omega⟩, _, rfl, t, _, 1, _, rfl, rfl, SqT.of ht, rfl, _, _, rfl, rfl, q⟩⟩⟩
    | width k =>
      obtain rfl : v = .int k := ht
      obtain ⟨g1, g2⟩ := hg
      refine ⟨_, rfl, ri_it ⟨_, rfl, if_f rfl ?_⟩⟩
      refine ⟨_, rfl, k, rfl, by omega, by omega, ?_⟩
      refine for_range (lo := 0) (n := k.toNat) (fun i σ H' => H' = H ∧ ∃ o, σ = [some (.int k), some (.int n), some (.int (2 ^ i)), o]) ⟨rfl, none, rfl⟩ ?_ ?_
      · rintro i σ H' hi ⟨rfl, o, rfl⟩
        walk_at "rd"
        refine ⟨_, rfl, _, _, rfl, rfl, .inr ⟨by decide, by decide⟩, rfl, _, rfl⟩
      · rintro σ H' ⟨rfl, o, rfl⟩
        exact ⟨_, rfl, q⟩
def sp_law_slot : Sp := fun vs H Q _ => ∃ (r : Str) (n c : Int), vs = [.str r, .int n, .int c] ∧ 0 < n ∧ Q (.int (slotF r n c)) H
theorem ok_law_slot (T : Txt K mg) : Glb P w K mg base 1 "_law_slot" p_law_slot sp_law_slot := by
  refine T.f_law_slot.ok sc_law_slot (fun vs H Q E h => ?_) (fun _ _ _ _ _ _ us hl => match us, hl with | [_, _, _], _ => rfl) fun cdv A outer s H vs Q E f hr h => ?_
  · obtain ⟨r, n, c, rfl, _⟩ := h
    rfl
  · refine ⟨_, pss_cons (ps_if (pt_cmpR op_eq (pv 0) pe_str (nomark _)) (pss_one (ps_ret (pe_op op_mod (pe_int1 T (pv 2)) (pv 1)))) pss_nil)
      (pss_cons (ps_if (pt_cmpR op_eq (pv 0) pe_str (nomark _)) (pss_one (ps_ret (pe_op op_and (pv 2) (pe_op op_sub (pv 1) pe_int)))) pss_nil)
      (pss_cons (ps_if (pt_cmpR op_lt (pv 2) (pv 1) (nomark _)) (pss_one (ps_ret (pv 2))) pss_nil)
      (pss_cons (ps_if (pt_cmpR op_lt (pv 2) (pe_op op_mul pe_int (pv 1)) (nomark _)) (pss_one (ps_ret (pe_op op_sub (pv 2) (pv 1)))) pss_nil)
      (pss_one (ps_ret (pe_un un_neg pe_int)))))), ?_⟩
    walk_at "rd"
    obtain ⟨r, n, c, rfl, hn, q⟩ := h
    unfold slotF at q
    refine ⟨_, rfl, rfl, _, rfl, if_d (fun h1 => ?_) (fun h1 => ?_)⟩
    · rw [if_pos h1] at q
      exact ⟨_, rfl, .inl ⟨_, rfl, _, rfl, _, _, rfl, rfl, hn, q⟩⟩
    rw [if_neg h1] at q
    refine ⟨_, rfl, rfl, _, rfl, if_d (fun h2 => ?_) (fun h2 => ?_)⟩
    · rw [if_pos h2] at q
      exact ⟨_, rfl, _, rfl, _, _, rfl, rfl, _, _, rfl, rfl, q⟩
    rw [if_neg h2] at q
    refine ⟨_, rfl, _, rfl, _, _, rfl, rfl, _, rfl, if_d (fun h3 => ?_) (fun h3 => ?_)⟩
    · rw [if_pos h3] at q
      exact ⟨_, rfl, q⟩
    rw [if_neg h3] at q
    refine ⟨_, rfl, _, rfl, _, _, rfl, rfl, .inl ⟨by decide, by decide⟩, _, _, rfl, rfl, _, rfl, if_d (fun h4 => ?_) (fun h4 => ?_)⟩
    · rw [if_pos h4] at q
      exact ⟨_, rfl, _, rfl, _, _, rfl, rfl, q⟩
    rw [if_neg h4] at q
    exact ⟨_, rfl, q⟩
def sp_law_room : Sp := fun vs H Q _ => ∃ (v : V) (b : RBrim) (n M : Int), vs = [v, .int n, .int M] ∧ BrimAt H v b ∧ GoodBrim b ∧ ∀ H', Same H H' → Q (.int (roomF b n M)) H'
theorem ok_law_room (T : Txt K mg) : Glb P w K mg base 1 "_law_room" p_law_room sp_law_room := by
  refine T.f_law_room.ok sc_law_room (fun vs H Q E h => ?_) (fun _ _ _ _ _ _ us hl => match us, hl with | [_, _, _], _ => rfl) fun cdv A outer s H vs Q E f hr h => ?_
  · obtain ⟨v, b, n, M, rfl, _⟩ := h
    rfl
  · refine ⟨_, pss_cons (ps_if (pt_cmpR op_eq (pe_ix ix_tup (pv 0) pe_int (fun _ _ => rfl)) pe_str (nomark _)) (pss_one (ps_ret (pe_op op_sub (pv 2) pe_int))) pss_nil)
      (pss_cons (ps_if (pt_cmpR op_eq (pe_ix ix_tup (pv 0) pe_int (fun _ _ => rfl)) pe_str (nomark _)) pss_never pss_nil)
      (pss_cons (ps_set (i := 3) sc_law_room.nd rfl (Or.inl rfl) (pe_op op_add (pe_op op_mul (pe_ix ix_tup (pe_ix ix_tup (pv 0) pe_int (fun _ _ => rfl)) pe_int (fun _ _ => rfl)) (pv 1)) (pe_ix ix_tup (pe_ix ix_tup (pv 0) pe_int (fun _ _ => rfl)) pe_int (fun _ _ => rfl))))
      (pss_cons (ps_if (pt_cmpR op_lt (pv 3) pe_int (nomark _)) (pss_one (ps_ret (pe_ix ix_list (pe_lst (pa_cons (pe_un un_neg pe_int) (pa_cons pe_int pa_nil))) (pe_int1 T (pe_cmpR op_eq (pe_ix ix_tup (pv 0) pe_int (fun _ _ => rfl)) pe_str (nomark _))) (fun _ _ => rfl)))) pss_nil)
      (pss_cons (ps_if (pw_and (pt_cmpR op_eq (pe_ix ix_tup (pv 0) pe_int (fun _ _ => rfl)) pe_str (nomark _)) (pw_and1 (pt_cmpR op_ge (pv 3) (pv 2) (nomark _)))).pt (pss_one (ps_ret (pe_un un_neg pe_int))) pss_nil)
      (pss_one (ps_ret (pv 3))))))), ?_⟩
    walk_at "rd"
    obtain ⟨v, b, n, M, rfl, hb, hg, q⟩ := h
    cases b with
    | next =>
      obtain ⟨t, rfl, ht⟩ := hb
      exact ⟨_, rfl, t, _, 0, _, rfl, rfl, SqT.of ht, rfl, rfl, _, rfl, if_t (by decide +kernel) ⟨_, rfl, _, _, rfl, rfl, q _ (Same.refl H)⟩⟩
    | lim op a b =>
      obtain ⟨t, u, rfl, ht, hu⟩ := hb
      obtain ⟨hop, g1, g2, g3, g4⟩ := hg
      have e : roomF (.lim op a b) n M = if a * n + b < 0 then (if V.str op = V.str ">=" then 0 else -1) else if M ≤ a * n + b then -1 else a * n + b := rfl
      rw [e] at q
      refine ⟨_, rfl, t, _, 0, _, rfl, rfl, SqT.of ht, rfl, rfl, _, rfl, if_f (by decide +kernel) ?_⟩
      refine ⟨_, rfl, t, _, 0, _, rfl, rfl, SqT.of ht, rfl, rfl, _, rfl, if_f (by decide +kernel) ?_⟩
      refine ⟨_, rfl, t, _, 2, _, rfl, rfl, SqT.of ht, rfl, u, _, 0, _, rfl, rfl, SqT.of hu, rfl, _, rfl, _, _, rfl, rfl, .inl ⟨by omega, by omega⟩, _, rfl, t, _, 2, _, rfl, rfl, SqT.of ht, rfl, u, _, 1, _, rfl, rfl, SqT.of hu, rfl, _, _, rfl, rfl, ?_⟩
      refine ⟨_, rfl, _, _, rfl, rfl, _, rfl, if_d (fun h1 => ?_) (fun h1 => ?_)⟩
      · rw [if_pos h1] at q
        refine ⟨_, rfl, (by show 2 ≤ sizeLine; decide), fun l hl => ?_⟩
        have s1 : Same H (upd H l (.lst [.int (-1), .int 0])) := Same.new hl
        refine ⟨_, rfl, t, _, 1, _, rfl, rfl, SqT.of (s1 _ _ ht), rfl, rfl, .inr ⟨_, rfl, ?_⟩⟩
        by_cases h2 : V.str op = V.str ">="
        · rw [if_pos h2] at q
          refine ⟨l, _, 1, .int 0, rfl, (by rw [decide_eq_true h2]; rfl), SqL.of upd_same, rfl, q _ s1⟩
        · rw [if_neg h2] at q
          refine ⟨l, _, 0, .int (-1), rfl, (by rw [decide_eq_false h2]; rfl), SqL.of upd_same, rfl, q _ s1⟩
      · rw [if_neg h1] at q
        refine ⟨_, rfl, t, _, 0, _, rfl, rfl, SqT.of ht, rfl, rfl, _, rfl, if_t (by decide +kernel) ?_⟩
        refine ⟨_, rfl, _, rfl, _, _, rfl, rfl, _, rfl, if_d (fun h2 => ?_) (fun h2 => ?_)⟩
        · rw [if_pos h2] at q
          exact ⟨_, rfl, q _ (Same.refl H)⟩
        · rw [if_neg h2] at q
          exact ⟨_, rfl, q _ (Same.refl H)⟩
end
end RI

set_option maxHeartbeats 4000000
namespace RI
open PySem PySem.Spec PyProof.Rows L2
local macro_rules | `(tactic| walk_at "rd") => `(tactic| dsimp only [tVar, tC, t2I, tOp, tUn, rI, rI0, rU, tCmp, tB, tAnd, tOr, tNot, tAndV, tOrV, tNotV, tIf, tNext, tSeq, tDrop, tRet, tRetN, tIfS, gName, gNil, gCons, gTup, gSub, tAsg, tPar, tAug, ipI, iList, iTup, iRng1, iRng2, tTest, tChain, rEq, rNe, tFld, sFld, tNil, tCons, tTup, tLst, tCall, tMeth, tMake, tCB, tSl, tPart, tNoPart, tProp, tMakeK, tMakeN, rIxL, rIxT, rSetL, tBM, tBM0, rAppend, rCat, C8.tCut, tYes, tDGet, tDIn, sDPut, tDNewK])
/-! ### the window's dict -/
def toK (l : List (Int × Int)) : List (Key × V) := l.map fun q => (Sum.inl q.1, V.int q.2)
theorem dec_key (a b : Int) : decide ((Sum.inl a : Key) = Sum.inl b) = decide (a = b) := by
  by_cases h : a = b
  · rw [h, decide_eq_true rfl, decide_eq_true rfl]
  · rw [decide_eq_false h, decide_eq_false (fun z => h (Sum.inl.inj z))]
theorem valV_toK (k : Int) : ∀ l : List (Int × Int), valV (toK l) (Sum.inl k : Key) = (lookI l k).map V.int
  | [] => rfl
  | q :: l => by
    by_cases h : q.1 = k
    · have e1 : valV (toK (q :: l)) (Sum.inl k : Key) = some (V.int q.2) := valV_pos (p := ((Sum.inl q.1 : Key), V.int q.2)) (congrArg Sum.inl h)
      have e2 : lookI (q :: l) k = some q.2 := by
        unfold lookI
        rw [List.find?_cons, decide_eq_true h]
        rfl
      rw [e1, e2]
      rfl
    · have e1 : valV (toK (q :: l)) (Sum.inl k : Key) = valV (toK l) (Sum.inl k : Key) := valV_neg (p := ((Sum.inl q.1 : Key), V.int q.2)) (fun z => h (Sum.inl.inj z))
      have e2 : lookI (q :: l) k = lookI l k := by
        unfold lookI
        rw [List.find?_cons, decide_eq_false h]
      rw [e1, e2]
      exact valV_toK k l
theorem any_toK (k : Int) : ∀ l : List (Int × Int), ((toK l).any fun kv => decide (kv.1 = (Sum.inl k : Key))) = l.any fun q => decide (q.1 = k)
  | [] => rfl
  | q :: l => by
    have ih := any_toK k l
    have e : ((toK (q :: l)).any fun kv => decide (kv.1 = (Sum.inl k : Key))) = (decide ((Sum.inl q.1 : Key) = Sum.inl k) || (toK l).any fun kv => decide (kv.1 = (Sum.inl k : Key))) := rfl
    rw [e, ih, dec_key]
    rfl
theorem repl_toK (k v : Int) : ∀ l : List (Int × Int), ((toK l).map fun kv => if kv.1 = (Sum.inl k : Key) then (kv.1, V.int v) else kv) = toK (l.map fun q => if q.1 = k then (q.1, v) else q)
  | [] => rfl
  | q :: l => by
    have ih := repl_toK k v l
    have e : ((toK (q :: l)).map fun kv => if kv.1 = (Sum.inl k : Key) then (kv.1, V.int v) else kv) = (if (Sum.inl q.1 : Key) = Sum.inl k then ((Sum.inl q.1 : Key), V.int v) else (Sum.inl q.1, V.int q.2)) :: (toK l).map fun kv => if kv.1 = (Sum.inl k : Key) then (kv.1, V.int v) else kv := rfl
    have e2 : toK ((q :: l).map fun q => if q.1 = k then (q.1, v) else q) = toK ((if q.1 = k then (q.1, v) else q) :: l.map fun q => if q.1 = k then (q.1, v) else q) := rfl
    rw [e, ih, e2]
    by_cases h : q.1 = k
    · rw [if_pos (congrArg Sum.inl h), if_pos h]
      rfl
    · rw [if_neg (fun z => h (Sum.inl.inj z)), if_neg h]
      rfl
theorem putK_toK (k v : Int) (l : List (Int × Int)) : putK (toK l) (Sum.inl k : Key) (V.int v) = toK (putI l k v) := by
  unfold putK putI
  rw [any_toK]
  by_cases h : (l.any fun q => decide (q.1 = k)) = true
  · rw [if_pos h, if_pos h, repl_toK]
  · rw [if_neg h, if_neg h]
    show toK l ++ [((Sum.inl k : Key), V.int v)] = toK (l ++ [(k, v)])
    unfold toK
    rw [List.map_append]
    rfl
theorem putI_len (l : List (Int × Int)) (k v : Int) : (putI l k v).length ≤ l.length + 1 := by
  unfold putI
  by_cases h : (l.any fun q => decide (q.1 = k)) = true
  · rw [if_pos h, List.length_map]
    omega
  · rw [if_neg h, List.length_append]
    exact Nat.le_refl _
theorem winS_succ (r : Str) (n M : Int) (i : Nat) : winS r n M (i + 1) = wStep r n M (winS r n M i) i := by
  unfold winS
  rw [List.range_succ, List.foldl_append]
  rfl
theorem winS_len (r : Str) (n M : Int) : ∀ i : Nat, (winS r n M i).1.length ≤ i
  | 0 => Nat.le_refl _
  | i + 1 => by
    rw [winS_succ]
    have ih := winS_len r n M i
    have := putI_len (winS r n M i).1 (slotF r n ((i : Int) % M)) i
    show (putI (winS r n M i).1 (slotF r n ((i : Int) % M)) i).length ≤ i + 1
    omega
section
variable {P : Program} {w : World} {K : PySem.W.Frag} {mg : Str → Option Value} {base : Heap}
def sp_law_window : Sp := fun vs H Q _ => ∃ (r : Str) (n M : Int), vs = [.str r, .int n, .int M] ∧ 0 < n ∧ 1 ≤ M ∧ M ≤ 1000 ∧ (∀ c, 0 ≤ c → c < M → 0 ≤ slotF r n c) ∧ ∀ H', Same H H' → Q (.int (winF r n M)) H'
theorem ok_law_window (T : Txt K mg) : Glb P w K mg base 2 "_law_window" p_law_window sp_law_window := by
  refine T.f_law_window.ok sc_law_window (fun vs H Q E h => ?_) (fun _ _ _ _ _ _ us hl => match us, hl with | [_, _, _], _ => rfl) fun cdv A outer s H vs Q E f hr h => ?_
  · obtain ⟨r, n, M, rfl, _⟩ := h
    rfl
  · have hu := hu_of hr
    refine ⟨_, pss_cons (ps_set (i := 3) sc_law_window.nd rfl (Or.inl rfl) pe_dnewK) (pss_cons (ps_set (i := 4) sc_law_window.nd rfl (Or.inl rfl) (pv 2))
      (pss_cons (ps_for PassesOwn.never rfl (pi_range1 rfl T.b_range (pa_cons (pe_op op_mul pe_int (pv 2)) pa_nil)) (pg_name (i := 5) sc_law_window.nd rfl (Or.inl rfl))
        (pss_cons (ps_set (i := 6) sc_law_window.nd rfl (Or.inl rfl) (pe_callG (ok_law_slot T) hr (pa_cons (pv 0) (pa_cons (pv 1) (pa_cons (pe_op op_mod (pe_int1 T (pv 5)) (pv 2)) pa_nil)))))
        (pss_cons (ps_if (pt_cmpR op_lt (pv 6) pe_int (nomark _)) pss_never pss_nil)
        (C8.pss_cut (ps_if (pw_and (pt_cmp (pc_din hu (pv 6) (pv 3))) (pw_and1 (pt_cmpR op_lt (pe_op op_sub (pv 5) (pe_dget hu (pv 3) (pv 6) (fun _ _ => rfl))) (pv 4) (nomark _)))).pt (pss_one (ps_set (i := 4) sc_law_window.nd rfl (Or.inl rfl) (pe_op op_sub (pv 5) (pe_dget hu (pv 3) (pv 6) (fun _ _ => rfl))))) pss_nil)
        (pss_one (ps_dput hu (pv 3) (pv 6) (pv 5) rfl))))))
      (pss_one (ps_ret (pv 4))))), ?_⟩
    walk_at "rd"
    obtain ⟨r, n, M, rfl, hn, m1, m2, hs0, q⟩ := h
    intro d hd
    refine ⟨_, rfl, _, rfl, _, _, rfl, rfl, .inl ⟨by decide, by decide⟩, _, rfl, (by clear hu; omega), (by clear hu; omega), ?_⟩
    refine for_range (lo := 0) (n := (2 * M).toNat) (fun i σ H' => Same H H' ∧ H' d = some (.dK (toK (winS r n M i).1)) ∧ ∃ o5 o6, σ = [some (.str r), some (.int n), some (.int M), some (.ref d), some (.int (winS r n M i).2), o5, o6])
      ⟨Same.new hd, upd_same, none, none, rfl⟩ ?_ ?_
    · rintro i σ H1 hi ⟨s1, hd1, o5, o6, rfl⟩
      walk_at "rd"
      rw [Int.zero_add]
      refine ⟨_, rfl, _, rfl, _, rfl, .inl ⟨_, rfl, _, rfl, _, _, rfl, rfl, by omega, r, n, _, rfl, hn, ?_⟩⟩
      have c0 := Int.emod_nonneg (i : Int) (show M ≠ 0 by omega)
      have c1 := Int.emod_lt_of_pos (i : Int) (show 0 < M by omega)
      have l0 := hs0 _ c0 c1
      have hw := winS_succ r n M i
      unfold wStep at hw
      generalize slotF r n ((i : Int) % M) = lies at l0 hw ⊢
      refine ⟨_, rfl, _, _, rfl, rfl, _, rfl, if_f (decide_eq_false (by omega)) ?_⟩
      refine ⟨fun σ H' => H' = H1 ∧ σ = [some (.str r), some (.int n), some (.int M), some (.ref d), some (.int (winS r n M (i + 1)).2), some (.int i), some (.int lies)], ?_, ?_⟩
      · refine ⟨_, rfl, _, rfl, d, _, rfl, DGet.k (k := Sum.inl lies) hd1, _, rfl, ?_⟩
        rw [valV_toK]
        cases hl : lookI (winS r n M i).1 lies with
        | none =>
          rw [hl] at hw
          rw [hw]
          exact if_f rfl (if_f rfl ⟨rfl, rfl⟩)
        | some j =>
          rw [hl] at hw
          have g := DGet.k (k := Sum.inl lies) hd1
          rw [valV_toK, hl] at g
          refine if_t rfl ⟨_, rfl, _, rfl, _, rfl, d, .int j, rfl, g, _, _, rfl, rfl, _, rfl, _, _, rfl, rfl, _, rfl, if_d (fun h2 => ?_) (fun h2 => ?_)⟩
          · dsimp only at hw
            rw [if_pos h2] at hw
            rw [hw]
            exact ⟨_, rfl, _, rfl, _, rfl, d, .int j, rfl, g, _, _, rfl, rfl, rfl, rfl⟩
          · dsimp only at hw
            rw [if_neg h2] at hw
            rw [hw]
            exact ⟨rfl, rfl⟩
      · rintro σ H' ⟨rfl, rfl⟩
        refine ⟨_, rfl, _, rfl, _, rfl, d, _, rfl, DPut.k (k := Sum.inl lies) hd1 ?_, ?_, ?_, _, _, rfl⟩
        · have := winS_len r n M i
          show (toK (winS r n M i).1).length < sizeLine
          unfold toK
          rw [List.length_map, sizeLine_eq]
          omega
        · intro b o e
          rw [upd_ne (ne_of_none e hd)]
          exact s1 b o e
        · rw [upd_same, putK_toK, hw]
    · rintro σ H1 ⟨s1, _, o5, o6, rfl⟩
      exact ⟨_, rfl, q H1 s1⟩
def sp_law_due : Sp := fun vs H Q _ => ∃ (v : V) (r : Row) (n : Int), vs = [v, .int n] ∧ RowAt H v r ∧ r ∈ allRows ∧ 1 ≤ n ∧ n ≤ 12 ∧
  ∀ p H', Same H H' → H' p = some (.tup [.int (modF r.turn n), .int (roomF r.brim n (modF r.turn n)), .int (winF r.rule n (modF r.turn n)), .bl (rightF r n)]) → Q (.ref p) H'
theorem ok_law_due (T : Txt K mg) : Glb P w K mg base 3 "_law_due" p_law_due sp_law_due := by
  refine T.f_law_due.ok sc_law_due (fun vs H Q E h => ?_) (fun _ _ _ _ _ _ us hl => match us, hl with | [_, _], _ => rfl) fun cdv A outer s H vs Q E f hr h => ?_
  · obtain ⟨v, r, n, rfl, _⟩ := h
    rfl
  · refine ⟨_, pss_cons (ps_set (i := 2) sc_law_due.nd rfl (Or.inl rfl) (pe_callG (ok_law_modulus T) (hr.mono (by decide)) (pa_cons (pe_ix ix_tup (pv 0) pe_int (fun _ _ => rfl)) (pa_cons (pv 1) pa_nil))))
      (pss_cons (ps_if (pt_cmpR op_lt (pv 2) pe_int (nomark _)) pss_never pss_nil)
      (pss_cons (ps_set (i := 3) sc_law_due.nd rfl (Or.inl rfl) (pe_callG (ok_law_room T) (hr.mono (by decide)) (pa_cons (pe_ix ix_tup (pv 0) pe_int (fun _ _ => rfl)) (pa_cons (pv 1) (pa_cons (pv 2) pa_nil)))))
      (pss_cons (ps_set (i := 4) sc_law_due.nd rfl (Or.inl rfl) (pe_callG (ok_law_window T) hr (pa_cons (pe_ix ix_tup (pv 0) pe_int (fun _ _ => rfl)) (pa_cons (pv 1) (pa_cons (pv 2) pa_nil)))))
      (pss_cons (ps_set (i := 5) sc_law_due.nd rfl (Or.inl rfl) (pe_and (pe_chain op_le op_le pe_int (pv 3) (pv 4)) (pe_one (pe_or (pe_cmpR op_ne (pe_ix ix_tup (pv 0) pe_int (fun _ _ => rfl)) pe_str (nomark _)) (pe_one (pe_cmpR op_lt (pv 3) (pv 2) (nomark _)))))))
      (pss_one (ps_ret (pe_tup (pa_cons (pv 2) (pa_cons (pv 3) (pa_cons (pv 4) (pa_cons (pv 5) pa_nil))))))))))), ?_⟩
    walk_at "rd"
    obtain ⟨v, r, n, rfl, ⟨t, vt, vb, rfl, ht, h1, h2⟩, hm, n1, n2, q⟩ := h
    have G := row_geo hm n1 n2
    have Gd := (row_good hm).1
    refine ⟨_, rfl, t, _, 0, _, rfl, rfl, SqT.of ht, rfl, _, rfl, _, r.turn, n, rfl, h1, Gd.turn, ?_⟩
    have m1 := G.m1
    refine ⟨_, rfl, _, _, rfl, rfl, _, rfl, if_f (decide_eq_false (by omega)) ?_⟩
    refine ⟨_, rfl, t, _, 3, _, rfl, rfl, SqT.of ht, rfl, _, rfl, _, rfl, _, r.brim, n, _, rfl, h2, Gd.brim, fun H1 s1 => ?_⟩
    refine ⟨_, rfl, t, _, 1, _, rfl, rfl, SqT.of (s1 _ _ ht), rfl, _, rfl, _, rfl, _, n, _, rfl, by omega, G.m1, G.m2, fun c c0 c1 => (G.ins c c0 c1).1, fun H2 s2 => ?_⟩
    have s12 := s1.trans s2
    have key : ∀ (b : Bool), rightF r n = b → ∀ p, H2 p = none → Q (.ref p) (upd H2 p (.tup [.int (modF r.turn n), .int (roomF r.brim n (modF r.turn n)), .int (winF r.rule n (modF r.turn n)), .bl b])) := fun b e p hp =>
      q p _ (s12.trans (Same.new hp)) (by rw [upd_same, e])
    have er : rightF r n = (decide (1 ≤ roomF r.brim n (modF r.turn n)) && (decide (roomF r.brim n (modF r.turn n) ≤ winF r.rule n (modF r.turn n)) && decide (roomF r.brim n (modF r.turn n) < modF r.turn n))) := rfl
    refine ⟨_, rfl, _, _, rfl, rfl, _, rfl, if_d (fun a1 => ?_) (fun a1 => ?_)⟩
    · rw [decide_eq_true a1, Bool.true_and] at er
      refine ⟨_, rfl, _, _, rfl, rfl, _, rfl, if_d (fun a2 => ?_) (fun a2 => ?_)⟩
      · rw [decide_eq_true a2, Bool.true_and] at er
        refine ⟨_, rfl, t, _, 2, _, rfl, rfl, SqT.of (s12 _ _ ht), rfl, rfl, _, rfl, if_f (by decide +kernel) ?_⟩
        exact ⟨_, rfl, _, rfl, _, _, rfl, rfl, _, rfl, _, rfl, _, rfl, _, rfl, (by show 4 ≤ sizeLine; decide), key _ er⟩
      · rw [decide_eq_false a2, Bool.false_and] at er
        exact ⟨_, rfl, _, rfl, _, rfl, _, rfl, (by show 4 ≤ sizeLine; decide), key _ er⟩
    · rw [decide_eq_false a1, Bool.false_and] at er
      exact ⟨_, rfl, if_f rfl ⟨_, rfl, _, rfl, _, rfl, _, rfl, (by show 4 ≤ sizeLine; decide), key _ er⟩⟩
end
end RI

set_option maxHeartbeats 4000000
namespace RI
open PySem PySem.Spec PyProof.Rows L2
local macro_rules | `(tactic| walk_at "rd") => `(tactic| dsimp only [tVar, tC, t2I, tOp, tUn, rI, rI0, rU, tCmp, tB, tAnd, tOr, tNot, tAndV, tOrV, tNotV, tIf, tNext, tSeq, tDrop, tRet, tRetN, tIfS, gName, gNil, gCons, gTup, gSub, tAsg, tPar, tAug, ipI, iList, iTup, iRng1, iRng2, tTest, tChain, rEq, rNe, tFld, sFld, tNil, tCons, tTup, tLst, tCall, tMeth, tMake, tCB, tSl, tPart, tNoPart, tProp, tMakeK, tMakeN, rIxL, rIxT, rSetL, tBM, tBM0, rAppend, rCat, C8.tCut, tYes, tDGet, tDIn, sDPut, tDNewK])
section
variable {P : Program} {w : World} {K : PySem.W.Frag} {mg : Str → Option Value} {base : Heap}
def sp_law_made (K : PySem.W.Frag) : Sp := fun vs H Q _ => ∃ (v : V) (r : Row), vs = [v, .str "refuse"] ∧ RowAt H v r ∧ r ∈ allRows ∧ ∀ sc H', Same H H' → SchemeAt K H' sc r → Q (.ref sc) H'
theorem ok_law_made (T : Txt K mg) : Glb P w K mg base 6 "_law_made" p_law_made (sp_law_made K) := by
  refine T.f_law_made.ok sc_law_made (fun vs H Q E h => ?_) (fun _ _ _ _ _ _ us hl => match us, hl with | [_, _], _ => rfl) fun cdv A outer s H vs Q E f hr h => ?_
  · obtain ⟨v, r, rfl, _⟩ := h
    rfl
  · refine ⟨_, pss_cons (ps_asg (pv 0) (pg_tup rfl (pgs_cons (pg_name (i := 2) sc_law_made.nd rfl (Or.inl rfl)) (pgs_cons (pg_name (i := 3) sc_law_made.nd rfl (Or.inl rfl)) (pgs_cons (pg_name (i := 4) sc_law_made.nd rfl (Or.inl rfl)) (pgs_cons (pg_name (i := 5) sc_law_made.nd rfl (Or.inl rfl)) pgs_nil))))))
      (C8.pss_cut (ps_if (pt_val (pe_isi T (pv 2) (pe_tyTuple T))) (pss_one (ps_set (i := 2) sc_law_made.nd rfl (Or.inl rfl) (pe_mkG (ok_form_init T) (hr.mono (by decide)) (pa_cons (pe_ix ix_tup (pv 2) pe_int (fun _ _ => rfl)) (pa_cons (pe_ix ix_tup (pv 2) pe_int (fun _ _ => rfl)) pa_nil))))) pss_nil)
      (C8.pss_cut (ps_if (pt_cmpR op_eq (pe_len1 T (pv 5)) pe_int (nomark _)) (pss_one (ps_set (i := 5) sc_law_made.nd rfl (Or.inl rfl) (pe_tup (pa_cons (pe_ix ix_tup (pv 5) pe_int (fun _ _ => rfl)) (pa_cons (pe_ix ix_tup (pv 5) pe_int (fun _ _ => rfl))
          (pa_cons (pe_mkG (ok_form_init T) (hr.mono (by decide)) (pa_cons (pe_ix ix_tup (pe_ix ix_tup (pv 5) pe_int (fun _ _ => rfl)) pe_int (fun _ _ => rfl)) (pa_cons (pe_ix ix_tup (pe_ix ix_tup (pv 5) pe_int (fun _ _ => rfl)) pe_int (fun _ _ => rfl)) pa_nil))) pa_nil)))))) pss_nil)
      (pss_one (ps_ret (pe_mkK0 (ok_scheme_init T) hr (pk_cons (pv 2) (pk_cons (pv 3) (pk_cons (pv 4) (pk_cons (pv 5) (pk_cons (pv 1) pk_nil)))))))))), ?_⟩
    walk_at "rd"
    obtain ⟨v, r, rfl, ⟨t, vt, vb, rfl, ht, h1, h2⟩, hm, q⟩ := h
    have Gd := (row_good hm).1
    refine ⟨_, rfl, t, _, rfl, SqT.of ht, rfl, _, _, rfl, _, _, rfl, _, _, rfl, _, _, rfl, rfl, ?_⟩
    refine ⟨fun σ H' => ∃ vw, σ = [some (.ref t), some (.str "refuse"), some vw, some (.str r.rule), some (.str "same"), some vb] ∧ Same H H' ∧ WrapAt K H' vw r.turn, ?_, ?_⟩
    · cases hT : r.turn with
      | form a b =>
        rw [hT] at h1
        obtain ⟨u, rfl, hu⟩ := h1
        refine ⟨_, rfl, ri_tt hu ⟨_, rfl, if_t rfl ?_⟩⟩
        refine ⟨_, rfl, u, _, 0, _, rfl, rfl, SqT.of hu, rfl, _, rfl, u, _, 1, _, rfl, rfl, SqT.of hu, rfl, fun x dx hx hd hne => ?_⟩
        refine ⟨x, dx, a, b, rfl, upd_same, rfl, .ref x, rfl, ?_, x, dx, rfl, upd_same⟩
        rw [upd_upd]
        exact (Same.new hd).trans (Same.new (by rw [upd_ne (fun e => hne e.symm)]; exact hx))
      | width n =>
        rw [hT] at h1
        obtain rfl : vt = .int n := h1
        exact ⟨_, rfl, ri_it ⟨_, rfl, if_f rfl ⟨_, rfl, Same.refl H, rfl⟩⟩⟩
    · rintro σ H1 ⟨vw, rfl, s1, hw⟩
      refine ⟨fun σ H' => ∃ vf, σ = [some (.ref t), some (.str "refuse"), some vw, some (.str r.rule), some (.str "same"), some vf] ∧ Same H1 H' ∧ FullAt K H' vf r.brim, ?_, ?_⟩
      · have h2' := h2.kp (Kp.same (S := []) s1)
        cases hB : r.brim with
        | next =>
          rw [hB] at h2'
          obtain ⟨u, rfl, hu⟩ := h2'
          exact ⟨_, rfl, u, _, rfl, .inr (SqT.of hu), rfl, _, rfl, if_f rfl ⟨_, rfl, Same.refl _, u, rfl, hu⟩⟩
        | lim op a b =>
          rw [hB] at h2'
          obtain ⟨u, z, rfl, hu, hz⟩ := h2'
          refine ⟨_, rfl, u, _, rfl, .inr (SqT.of hu), rfl, _, rfl, if_t rfl ?_⟩
          refine ⟨_, rfl, u, _, 0, _, rfl, rfl, SqT.of hu, rfl, _, rfl, u, _, 1, _, rfl, rfl, SqT.of hu, rfl, _, rfl, u, _, 2, _, rfl, rfl, SqT.of hu, rfl, z, _, 0, _, rfl, rfl, SqT.of hz, rfl, _, rfl, u, _, 2, _, rfl, rfl, SqT.of hu, rfl, z, _, 1, _, rfl, rfl, SqT.of hz, rfl, fun x dx hx hd hne => ?_⟩
          refine ⟨x, dx, a, b, rfl, upd_same, rfl, (by show 3 ≤ sizeLine; decide), fun p hp => ?_⟩
          rw [upd_upd] at hp ⊢
          have s2 : Same H1 (upd (upd H1 dx (.own x)) x (.ins (aForm K) dx (formF a b))) := (Same.new hd).trans (Same.new (by rw [upd_ne (fun e => hne e.symm)]; exact hx))
          refine ⟨.ref p, rfl, s2.trans (Same.new hp), p, .ref x, rfl, upd_same, x, dx, rfl, ?_⟩
          rw [upd_ne (ne_of_none upd_same hp)]
          exact upd_same
      · rintro σ H2 ⟨vf, rfl, s2, hf⟩
        refine ⟨_, rfl, _, rfl, _, rfl, _, rfl, _, rfl, rfl, rfl, fun x dx hx hd hne => ?_⟩
        have s3 : Same H2 (upd (upd H2 dx (.own x)) x (.ins (aScheme K) dx [])) := (Same.new hd).trans (Same.new (by rw [upd_ne (fun e => hne e.symm)]; exact hx))
        refine ⟨x, dx, vw, vf, r, rfl, upd_same, (hw.same s2).same s3, hf.same s3, Gd, fun H4 k4 h4 => ⟨rfl, ?_⟩⟩
        have hx3 : upd H2 dx (.own x) x = none := by
          rw [upd_ne (fun e => hne e.symm)]
          exact hx
        have s4 : Same H2 H4 := fun b o e => k4 b o (s3 b o e) (by
          have : b ≠ x := ne_of_none (Same.new (o := .own x) hd b o e) hx3
          simpa using this)
        exact q x H4 ((s1.trans s2).trans s4) ⟨dx, vw, vf, h4, (hw.same s2).same s4, hf.same s4⟩
theorem mem0 {i j : Int} (i0 : 0 ≤ i) (i1 : i < 4) (j0 : 0 ≤ j) (j1 : j < 5) : (⟨.form (1 + i) 0, "rest", .lim "=" 0 (1 + j)⟩ : Row) ∈ allRows := List.mem_append_left _ (List.mem_flatMap.mpr ⟨i, mem_upTo i0 i1, List.mem_map.mpr ⟨j, mem_upTo j0 j1, rfl⟩⟩)
theorem mem1 {x : Str} (h : x = "rest" ∨ x = "off") : (⟨.form 1 0, x, .next⟩ : Row) ∈ allRows := List.mem_append_right _ (List.mem_append_left _ (by
  rcases h with rfl | rfl
  · exact List.mem_cons_self
  · exact List.mem_cons_of_mem _ List.mem_cons_self))
theorem mem2 {x : Str} {j : Int} (h : x = "rest" ∨ x = "off") (j0 : 0 ≤ j) (j1 : j < 3) : (⟨.form 2 0, x, .lim "=" 1 (-j)⟩ : Row) ∈ allRows := List.mem_append_right _ (List.mem_append_right _ (List.mem_append_left _ (List.mem_flatMap.mpr ⟨x, by
  rcases h with rfl | rfl
  · exact List.mem_cons_self
  · exact List.mem_cons_of_mem _ List.mem_cons_self, List.mem_map.mpr ⟨j, mem_upTo j0 j1, rfl⟩⟩)))
theorem mem3 {x : Str} {i j : Int} (i0 : 0 ≤ i) (i1 : i < 5) (h : x = "rest" ∨ x = "mask") (j0 : 0 ≤ j) (j1 : j < 4) : (⟨.width (1 + i), x, .lim ">=" 0 (1 + j)⟩ : Row) ∈ allRows := List.mem_append_right _ (List.mem_append_right _ (List.mem_append_right _ (List.mem_append_left _ (List.mem_flatMap.mpr ⟨i, mem_upTo i0 i1, List.mem_flatMap.mpr ⟨x, by
  rcases h with rfl | rfl
  · exact List.mem_cons_self
  · exact List.mem_cons_of_mem _ List.mem_cons_self, List.mem_map.mpr ⟨j, mem_upTo j0 j1, rfl⟩⟩⟩))))
theorem mem6 {i j : Int} (i0 : 0 ≤ i) (i1 : i < 21) (j0 : 0 ≤ j) (j1 : j < 5) : (⟨.form 1 i, "rest", .lim "=" 0 (1 + j)⟩ : Row) ∈ allRows := List.mem_append_right _ (List.mem_append_right _ (List.mem_append_right _ (List.mem_append_right _ (List.mem_flatMap.mpr ⟨i, mem_upTo i0 i1, List.mem_map.mpr ⟨j, mem_upTo j0 j1, rfl⟩⟩))))
theorem two_at {x y : Str} {r : Int} (r0 : 0 ≤ r) (r1 : r < 2) : ∃ z, atI [V.str x, V.str y] r = some (.str z) ∧ (z = x ∨ z = y) := by
  have : r = 0 ∨ r = 1 := by omega
  rcases this with rfl | rfl
  · exact ⟨x, rfl, .inl rfl⟩
  · exact ⟨y, rfl, .inr rfl⟩
def wayOk (y : Int) : Prop := y = 0 ∨ y = 1 ∨ y = 2 ∨ y = 3 ∨ y = 6
theorem way_at {r : Int} (r0 : 0 ≤ r) (r1 : r < 8) : ∃ y, atI [V.int 0, .int 1, .int 2, .int 3, .int 6, .int 2, .int 0, .int 3] r = some (.int y) ∧ wayOk y := by
  have : r = 0 ∨ r = 1 ∨ r = 2 ∨ r = 3 ∨ r = 4 ∨ r = 5 ∨ r = 6 ∨ r = 7 := by omega
  unfold wayOk
  rcases this with rfl | rfl | rfl | rfl | rfl | rfl | rfl | rfl
  · exact ⟨0, rfl, by decide⟩
  · exact ⟨1, rfl, by decide⟩
  · exact ⟨2, rfl, by decide⟩
  · exact ⟨3, rfl, by decide⟩
  · exact ⟨6, rfl, by decide⟩
  · exact ⟨2, rfl, by decide⟩
  · exact ⟨0, rfl, by decide⟩
  · exact ⟨3, rfl, by decide⟩
def sp_law_good : Sp := fun vs H Q _ => ∃ (pl : Addr) (y : Int), vs = [.ref pl, .int y] ∧ PoolAt H pl ∧ wayOk y ∧ ∀ v r H', r ∈ allRows → RowAt H' v r → PoolAt H' pl → Kp [pl] H H' → Q v H'
theorem ok_law_good (T : Txt K mg) : Glb P w K mg base 3 "_law_good" p_law_good sp_law_good := by
  refine T.f_law_good.ok sc_law_good (fun vs H Q E h => ?_) (fun _ _ _ _ _ _ us hl => match us, hl with | [_, _], _ => rfl) fun cdv A outer s H vs Q E f hr h => ?_
  · obtain ⟨pl, y, rfl, _⟩ := h
    rfl
  · refine ⟨_, (pss_cons (ps_if (pt_cmpR op_eq (pv 1) pe_int (nomark _))
        (pss_one (ps_ret (pe_tup (pa_cons (pe_tup (pa_cons (pe_op op_add pe_int (pe_callG (ok_law_draw T) hr (pa_cons (pv 0) (pa_cons pe_int pa_nil)))) (pa_cons pe_int pa_nil))) (pa_cons pe_str (pa_cons pe_str (pa_cons (pe_tup (pa_cons pe_str (pa_cons pe_str (pa_cons (pe_tup (pa_cons pe_int (pa_cons (pe_op op_add pe_int (pe_callG (ok_law_draw T) hr (pa_cons (pv 0) (pa_cons pe_int pa_nil)))) pa_nil))) pa_nil)))) pa_nil))))))) pss_nil)
      (pss_cons (ps_if (pt_cmpR op_eq (pv 1) pe_int (nomark _))
        (pss_one (ps_ret (pe_tup (pa_cons (pe_tup (pa_cons pe_int (pa_cons pe_int pa_nil))) (pa_cons (pe_ix ix_tup (pe_tup (pa_cons pe_str (pa_cons pe_str pa_nil))) (pe_callG (ok_law_draw T) hr (pa_cons (pv 0) (pa_cons pe_int pa_nil))) (fun _ _ => rfl)) (pa_cons pe_str (pa_cons (pe_tup (pa_cons pe_str pa_nil)) pa_nil))))))) pss_nil)
      (pss_cons (ps_if (pt_cmpR op_eq (pv 1) pe_int (nomark _))
        (pss_one (ps_ret (pe_tup (pa_cons (pe_tup (pa_cons pe_int (pa_cons pe_int pa_nil))) (pa_cons (pe_ix ix_tup (pe_tup (pa_cons pe_str (pa_cons pe_str pa_nil))) (pe_callG (ok_law_draw T) hr (pa_cons (pv 0) (pa_cons pe_int pa_nil))) (fun _ _ => rfl)) (pa_cons pe_str (pa_cons (pe_tup (pa_cons pe_str (pa_cons pe_str (pa_cons (pe_tup (pa_cons pe_int (pa_cons (pe_un un_neg (pe_callG (ok_law_draw T) hr (pa_cons (pv 0) (pa_cons pe_int pa_nil)))) pa_nil))) pa_nil)))) pa_nil))))))) pss_nil)
      (pss_cons (ps_if (pt_cmpR op_eq (pv 1) pe_int (nomark _))
        (pss_cons (ps_set (i := 2) sc_law_good.nd rfl (Or.inl rfl) (pe_op op_add pe_int (pe_callG (ok_law_draw T) hr (pa_cons (pv 0) (pa_cons pe_int pa_nil))))) (pss_one (ps_ret (pe_tup (pa_cons (pv 2) (pa_cons (pe_ix ix_tup (pe_tup (pa_cons pe_str (pa_cons pe_str pa_nil))) (pe_callG (ok_law_draw T) hr (pa_cons (pv 0) (pa_cons pe_int pa_nil))) (fun _ _ => rfl)) (pa_cons pe_str (pa_cons (pe_tup (pa_cons pe_str (pa_cons pe_str (pa_cons (pe_tup (pa_cons pe_int (pa_cons (pe_op op_add pe_int (pe_callG (ok_law_draw T) hr (pa_cons (pv 0) (pa_cons pe_int pa_nil)))) pa_nil))) pa_nil)))) pa_nil)))))))) pss_nil)
      (pss_cons (ps_if (pt_cmpR op_eq (pv 1) pe_int (nomark _))
        pss_never pss_nil)
      (pss_cons (ps_if (pt_cmpR op_eq (pv 1) pe_int (nomark _))
        pss_never pss_nil)
      (pss_cons (ps_if (pt_cmpR op_eq (pv 1) pe_int (nomark _))
        (pss_one (ps_ret (pe_tup (pa_cons (pe_tup (pa_cons pe_int (pa_cons (pe_callG (ok_law_draw T) hr (pa_cons (pv 0) (pa_cons pe_int pa_nil))) pa_nil))) (pa_cons pe_str (pa_cons pe_str (pa_cons (pe_tup (pa_cons pe_str (pa_cons pe_str (pa_cons (pe_tup (pa_cons pe_int (pa_cons (pe_op op_add pe_int (pe_callG (ok_law_draw T) hr (pa_cons (pv 0) (pa_cons pe_int pa_nil)))) pa_nil))) pa_nil)))) pa_nil))))))) pss_nil)
      pss_never))))))), ?_⟩
    walk_at "rd"
    obtain ⟨pl, y, rfl, hp, hy, q⟩ := h
    have n10 : ∀ {a b : Int}, a ≠ b → decide (V.int a = V.int b) = false := fun h => decide_eq_false (fun z => h (V.int.inj z))
    rcases hy with rfl | rfl | rfl | rfl | rfl
    · refine ⟨_, rfl, rfl, _, rfl, if_t (by decide +kernel) ?_⟩
      refine ⟨_, rfl, pl, 4, rfl, hp, by decide, by decide, fun i H1 i0 i1 hp1 k1 => ⟨_, _, rfl, rfl, (by show 2 ≤ sizeLine; decide), fun p1 e1 => ?_⟩⟩
      have k2 := k1.trans (Kp.new (S := [pl]) (o := .tup [.int (1 + i), .int 0]) e1)
      refine ⟨_, rfl, pl, 5, rfl, hp1.same (Same.new e1), by decide, by decide, fun j H2 j0 j1 hp2 k3 => ⟨_, _, rfl, rfl, (by show 2 ≤ sizeLine; decide), fun p2 e2 => ⟨(by show 3 ≤ sizeLine; decide), fun p3 e3 => ⟨(by show 4 ≤ sizeLine; decide), fun p4 e4 => ?_⟩⟩⟩⟩
      have t1 := k3.tup (upd_same (H := H1) (a := p1) (o := .tup [.int (1 + i), .int 0]))
      have s2 : Same H2 _ := Same.new (o := .tup [.int 0, .int (1 + j)]) e2
      have s3 : Same _ _ := Same.new (o := .tup [.str "diff", .str "=", .ref p2]) e3
      have s4 : Same _ _ := Same.new (o := .tup [.ref p1, .str "rest", .str "same", .ref p3]) e4
      have s24 := (s2.trans s3).trans s4
      exact q _ _ _ (mem0 i0 i1 j0 j1) ⟨p4, .ref p1, .ref p3, rfl, upd_same, ⟨p1, rfl, s24 _ _ t1⟩, p3, p2, rfl, s4 _ _ upd_same, (s3.trans s4) _ _ upd_same⟩ (hp2.same s24) ((k2.trans k3).trans (Kp.same s24))
    · refine ⟨_, rfl, rfl, _, rfl, if_f (by decide +kernel) ⟨_, rfl, rfl, _, rfl, if_t (by decide +kernel) ?_⟩⟩
      refine ⟨(by show 2 ≤ sizeLine; decide), fun p1 e1 => ⟨(by show 2 ≤ sizeLine; decide), fun p2 e2 => ?_⟩⟩
      have s1 : Same H _ := Same.new (o := .tup [.int 1, .int 0]) e1
      have s2 : Same _ _ := Same.new (o := .tup [.str "rest", .str "off"]) e2
      refine ⟨_, rfl, pl, 2, rfl, (hp.same s1).same s2, by decide, by decide, fun i H1 i0 i1 hp1 k1 => ?_⟩
      obtain ⟨x, hx, hxx⟩ := two_at i0 i1 (x := "rest") (y := "off")
      refine ⟨p2, _, i, _, rfl, rfl, SqT.of (k1.tup upd_same), hx, (by show 1 ≤ sizeLine; decide), fun p3 e3 => ⟨(by show 4 ≤ sizeLine; decide), fun p4 e4 => ?_⟩⟩
      have t1 := k1.tup (s2 _ _ (upd_same (H := H) (a := p1) (o := .tup [.int 1, .int 0])))
      have s3 : Same H1 _ := Same.new (o := .tup [.str "next"]) e3
      have s4 : Same _ _ := Same.new (o := .tup [.ref p1, .str x, .str "same", .ref p3]) e4
      have s34 := s3.trans s4
      exact q _ _ _ (mem1 hxx) ⟨p4, .ref p1, .ref p3, rfl, upd_same, ⟨p1, rfl, s34 _ _ t1⟩, p3, rfl, s4 _ _ upd_same⟩ (hp1.same s34) (((Kp.same (s1.trans s2)).trans k1).trans (Kp.same s34))
    · refine ⟨_, rfl, rfl, _, rfl, if_f (by decide +kernel) ⟨_, rfl, rfl, _, rfl, if_f (by decide +kernel) ⟨_, rfl, rfl, _, rfl, if_t (by decide +kernel) ?_⟩⟩⟩
      refine ⟨(by show 2 ≤ sizeLine; decide), fun p1 e1 => ⟨(by show 2 ≤ sizeLine; decide), fun p2 e2 => ?_⟩⟩
      have s1 : Same H _ := Same.new (o := .tup [.int 2, .int 0]) e1
      have s2 : Same _ _ := Same.new (o := .tup [.str "rest", .str "off"]) e2
      refine ⟨_, rfl, pl, 2, rfl, (hp.same s1).same s2, by decide, by decide, fun i H1 i0 i1 hp1 k1 => ?_⟩
      obtain ⟨x, hx, hxx⟩ := two_at i0 i1 (x := "rest") (y := "off")
      refine ⟨p2, _, i, _, rfl, rfl, SqT.of (k1.tup upd_same), hx, ?_⟩
      have t1 := k1.tup (s2 _ _ (upd_same (H := H) (a := p1) (o := .tup [.int 2, .int 0])))
      refine ⟨_, rfl, pl, 3, rfl, hp1, by decide, by decide, fun j H2 j0 j1 hp2 k2 => ⟨_, rfl, (by show 2 ≤ sizeLine; decide), fun p3 e3 => ⟨(by show 3 ≤ sizeLine; decide), fun p4 e4 => ⟨(by show 4 ≤ sizeLine; decide), fun p5 e5 => ?_⟩⟩⟩⟩
      have t2 := k2.tup t1
      have s3 : Same H2 _ := Same.new (o := .tup [.int 1, .int (-j)]) e3
      have s4 : Same _ _ := Same.new (o := .tup [.str "diff", .str "=", .ref p3]) e4
      have s5 : Same _ _ := Same.new (o := .tup [.ref p1, .str x, .str "same", .ref p4]) e5
      have s35 := (s3.trans s4).trans s5
      exact q _ _ _ (mem2 hxx j0 j1) ⟨p5, .ref p1, .ref p4, rfl, upd_same, ⟨p1, rfl, s35 _ _ t2⟩, p4, p3, rfl, s5 _ _ upd_same, (s4.trans s5) _ _ upd_same⟩ (hp2.same s35) ((((Kp.same (s1.trans s2)).trans k1).trans k2).trans (Kp.same s35))
    · refine ⟨_, rfl, rfl, _, rfl, if_f (by decide +kernel) ⟨_, rfl, rfl, _, rfl, if_f (by decide +kernel) ⟨_, rfl, rfl, _, rfl, if_f (by decide +kernel) ⟨_, rfl, rfl, _, rfl, if_t (by decide +kernel) ?_⟩⟩⟩⟩
      refine ⟨_, rfl, pl, 5, rfl, hp, by decide, by decide, fun i H1 i0 i1 hp1 k1 => ⟨_, _, rfl, rfl, ?_⟩⟩
      refine ⟨_, rfl, (by show 2 ≤ sizeLine; decide), fun p2 e2 => ?_⟩
      have s2 : Same H1 _ := Same.new (o := .tup [.str "rest", .str "mask"]) e2
      refine ⟨_, rfl, pl, 2, rfl, hp1.same s2, by decide, by decide, fun d H2 d0 d1 hp2 k2 => ?_⟩
      obtain ⟨x, hx, hxx⟩ := two_at d0 d1 (x := "rest") (y := "mask")
      refine ⟨p2, _, d, _, rfl, rfl, SqT.of (k2.tup upd_same), hx, ?_⟩
      refine ⟨_, rfl, pl, 4, rfl, hp2, by decide, by decide, fun j H3 j0 j1 hp3 k3 => ⟨_, _, rfl, rfl, (by show 2 ≤ sizeLine; decide), fun p3 e3 => ⟨(by show 3 ≤ sizeLine; decide), fun p4 e4 => ⟨(by show 4 ≤ sizeLine; decide), fun p5 e5 => ?_⟩⟩⟩⟩
      have s3 : Same H3 _ := Same.new (o := .tup [.int 0, .int (1 + j)]) e3
      have s4 : Same _ _ := Same.new (o := .tup [.str "diff", .str ">=", .ref p3]) e4
      have s5 : Same _ _ := Same.new (o := .tup [.int (1 + i), .str x, .str "same", .ref p4]) e5
      have s35 := (s3.trans s4).trans s5
      exact q _ _ _ (mem3 i0 i1 hxx j0 j1) ⟨p5, .int (1 + i), .ref p4, rfl, upd_same, rfl, p4, p3, rfl, s5 _ _ upd_same, (s4.trans s5) _ _ upd_same⟩ (hp3.same s35) ((((k1.trans (Kp.same s2)).trans k2).trans k3).trans (Kp.same s35))
    · refine ⟨_, rfl, rfl, _, rfl, if_f (by decide +kernel) ⟨_, rfl, rfl, _, rfl, if_f (by decide +kernel) ⟨_, rfl, rfl, _, rfl, if_f (by decide +kernel) ⟨_, rfl, rfl, _, rfl, if_f (by decide +kernel) ⟨_, rfl, rfl, _, rfl, if_f (by decide +kernel) ⟨_, rfl, rfl, _, rfl, if_f (by decide +kernel) ⟨_, rfl, rfl, _, rfl, if_t (by decide +kernel) ?_⟩⟩⟩⟩⟩⟩⟩
      refine ⟨_, rfl, pl, 21, rfl, hp, by decide, by decide, fun i H1 i0 i1 hp1 k1 => ⟨(by show 2 ≤ sizeLine; decide), fun p1 e1 => ?_⟩⟩
      have k2 := k1.trans (Kp.new (S := [pl]) (o := .tup [.int 1, .int i]) e1)
      refine ⟨_, rfl, pl, 5, rfl, hp1.same (Same.new e1), by decide, by decide, fun j H2 j0 j1 hp2 k3 => ⟨_, _, rfl, rfl, (by show 2 ≤ sizeLine; decide), fun p2 e2 => ⟨(by show 3 ≤ sizeLine; decide), fun p3 e3 => ⟨(by show 4 ≤ sizeLine; decide), fun p4 e4 => ?_⟩⟩⟩⟩
      have t1 := k3.tup (upd_same (H := H1) (a := p1) (o := .tup [.int 1, .int i]))
      have s2 : Same H2 _ := Same.new (o := .tup [.int 0, .int (1 + j)]) e2
      have s3 : Same _ _ := Same.new (o := .tup [.str "diff", .str "=", .ref p2]) e3
      have s4 : Same _ _ := Same.new (o := .tup [.ref p1, .str "rest", .str "same", .ref p3]) e4
      have s24 := (s2.trans s3).trans s4
      exact q _ _ _ (mem6 i0 i1 j0 j1) ⟨p4, .ref p1, .ref p3, rfl, upd_same, ⟨p1, rfl, s24 _ _ t1⟩, p3, p2, rfl, s4 _ _ upd_same, (s3.trans s4) _ _ upd_same⟩ (hp2.same s24) ((k2.trans k3).trans (Kp.same s24))
def sp_law_right_size : Sp := fun vs H Q _ => ∃ (v : V) (r : Row) (f : Int), vs = [v, .int f] ∧ RowAt H v r ∧ r ∈ allRows ∧ ∀ n H', Same H H' → (n = 0 ∨ (1 ≤ n ∧ n ≤ 12 ∧ rightF r n = true)) → Q (.int n) H'
theorem ok_law_right_size (T : Txt K mg) : Glb P w K mg base 4 "_law_right_size" p_law_right_size sp_law_right_size := by
  refine T.f_law_right_size.ok sc_law_right_size (fun vs H Q E h => ?_) (fun _ _ _ _ _ _ us hl => match us, hl with | [_, _], _ => rfl) fun cdv A outer s H vs Q E f hr h => ?_
  · obtain ⟨v, r, f, rfl, _⟩ := h
    rfl
  · refine ⟨_, pss_cons (ps_for PassesOwn.never rfl (pi_range1 rfl T.b_range (pa_cons pe_int pa_nil)) (pg_name (i := 2) sc_law_right_size.nd rfl (Or.inl rfl))
        (pss_cons (ps_set (i := 3) sc_law_right_size.nd rfl (Or.inl rfl) (pe_op op_add pe_int (pe_op op_mod (pe_int1 T (pe_op op_add (pv 1) (pv 2))) pe_int)))
        (pss_one (ps_if (pt_val (pe_ix ix_tup (pe_callG (ok_law_due T) hr (pa_cons (pv 0) (pa_cons (pv 3) pa_nil))) pe_int (fun _ _ => rfl))) (pss_one (ps_ret (pv 3))) pss_nil))))
      (pss_one (ps_ret pe_int)), ?_⟩
    walk_at "rd"
    obtain ⟨v, r, f, rfl, hR, hm, q⟩ := h
    refine ⟨12, rfl, by decide, by decide, ?_⟩
    refine for_range (lo := 0) (n := 12) (fun i σ H' => Same H H' ∧ ∃ o2 o3, σ = [some v, some (.int f), o2, o3]) ⟨Same.refl H, none, none, rfl⟩ ?_ ?_
    · rintro i σ H1 hi ⟨s1, o2, o3, rfl⟩
      walk_at "rd"
      refine ⟨_, rfl, _, rfl, _, _, rfl, rfl, .inl ⟨_, rfl, _, _, rfl, rfl, by decide, _, _, rfl, rfl, ?_⟩⟩
      have c0 := Int.emod_nonneg (f + (0 + (i : Int))) (show (12 : Int) ≠ 0 by decide)
      have c1 := Int.emod_lt_of_pos (f + (0 + (i : Int))) (show (0 : Int) < 12 by decide)
      generalize (f + (0 + (i : Int))) % 12 = c at c0 c1 ⊢
      refine ⟨_, rfl, _, rfl, v, r, 1 + c, rfl, hR.same s1, hm, by omega, by omega, fun p H2 s2 hp => ?_⟩
      refine ⟨p, _, 3, _, rfl, rfl, SqT.of hp, rfl, _, rfl, ?_⟩
      cases h : rightF r (1 + c) with
      | true => exact if_t rfl ⟨_, rfl, q _ H2 (s1.trans s2) (.inr ⟨by omega, by omega, h⟩)⟩
      | false => exact if_f rfl ⟨s1.trans s2, _, _, rfl⟩
    · rintro σ H1 ⟨s1, o2, o3, rfl⟩
      exact q 0 H1 s1 (.inl rfl)
def sp_law_counter_row : Sp := fun vs H Q _ => ∃ pl : Addr, vs = [.ref pl] ∧ PoolAt H pl ∧ ∀ t v r n H', r ∈ allRows → 1 ≤ n → n ≤ 12 → rightF r n = true → RowAt H' v r → H' t = some (.tup [v, .int n]) → PoolAt H' pl → Kp [pl] H H' → Q (.ref t) H'
theorem ok_law_counter_row (T : Txt K mg) : Glb P w K mg base 5 "_law_counter_row" p_law_counter_row sp_law_counter_row := by
  refine T.f_law_counter_row.ok sc_law_counter_row (fun vs H Q E h => ?_) (fun _ _ _ _ _ _ us hl => match us, hl with | [_], _ => rfl) fun cdv A outer s H vs Q E f hr h => ?_
  · obtain ⟨pl, rfl, _⟩ := h
    rfl
  · refine ⟨_, pss_cons (ps_set (i := 1) sc_law_counter_row.nd rfl (Or.inl rfl) (pe_callG (ok_law_good T) (hr.mono (by decide)) (pa_cons (pv 0) (pa_cons (pe_ix ix_tup (pe_tup (pa_cons pe_int (pa_cons pe_int (pa_cons pe_int (pa_cons pe_int (pa_cons pe_int (pa_cons pe_int (pa_cons pe_int (pa_cons pe_int pa_nil))))))))) (pe_callG (ok_law_draw T) (hr.mono (by decide)) (pa_cons (pv 0) (pa_cons pe_int pa_nil))) (fun _ _ => rfl)) pa_nil))))
      (pss_cons (ps_set (i := 2) sc_law_counter_row.nd rfl (Or.inl rfl) (pe_callG (ok_law_right_size T) hr (pa_cons (pv 1) (pa_cons (pe_callG (ok_law_draw T) (hr.mono (by decide)) (pa_cons (pv 0) (pa_cons pe_int pa_nil))) pa_nil))))
      (pss_cons (ps_if (pt_cmpR op_eq (pv 2) pe_int (nomark _)) (pss_one (ps_ret (pe_tup (pa_cons (pe_tup (pa_cons (pe_tup (pa_cons pe_int (pa_cons pe_int pa_nil))) (pa_cons pe_str (pa_cons pe_str (pa_cons (pe_tup (pa_cons pe_str (pa_cons pe_str (pa_cons (pe_tup (pa_cons pe_int (pa_cons pe_int pa_nil))) pa_nil)))) pa_nil))))) (pa_cons (pe_op op_add pe_int (pe_callG (ok_law_draw T) (hr.mono (by decide)) (pa_cons (pv 0) (pa_cons pe_int pa_nil)))) pa_nil))))) pss_nil)
      (pss_one (ps_ret (pe_tup (pa_cons (pv 1) (pa_cons (pv 2) pa_nil))))))), ?_⟩
    walk_at "rd"
    obtain ⟨pl, rfl, hp, q⟩ := h
    refine ⟨_, rfl, (by show 8 ≤ sizeLine; decide), fun p1 e1 => ?_⟩
    have s1 : Same H _ := Same.new (o := .tup [.int 0, .int 1, .int 2, .int 3, .int 6, .int 2, .int 0, .int 3]) e1
    refine ⟨_, rfl, pl, 8, rfl, hp.same s1, by decide, by decide, fun i H1 i0 i1 hp1 k1 => ?_⟩
    obtain ⟨y, hy, hw⟩ := way_at i0 i1
    refine ⟨p1, _, i, _, rfl, rfl, SqT.of (k1.tup upd_same), hy, pl, y, rfl, hp1, hw, fun v r H2 hm hR hp2 k2 => ?_⟩
    have k02 := ((Kp.same (S := [pl]) s1).trans k1).trans k2
    refine ⟨_, rfl, _, rfl, pl, 12, rfl, hp2, by decide, by decide, fun g H3 g0 g1 hp3 k3 => ?_⟩
    refine ⟨v, r, g, rfl, hR.kp k3, hm, fun n H4 s4 hn => ?_⟩
    have k04 := (k02.trans k3).trans (Kp.same s4)
    refine ⟨_, rfl, rfl, _, rfl, if_d (fun h => ?_) (fun h => ?_)⟩
    · refine ⟨(by show 2 ≤ sizeLine; decide), fun a1 f1 => ⟨(by show 2 ≤ sizeLine; decide), fun a2 f2 => ⟨(by show 3 ≤ sizeLine; decide), fun a3 f3 => ⟨(by show 4 ≤ sizeLine; decide), fun a4 f4 => ?_⟩⟩⟩⟩
      have u1 : Same H4 _ := Same.new (o := .tup [.int 2, .int 0]) f1
      have u2 : Same _ _ := Same.new (o := .tup [.int 1, .int 0]) f2
      have u3 : Same _ _ := Same.new (o := .tup [.str "diff", .str "=", .ref a2]) f3
      have u4 : Same _ _ := Same.new (o := .tup [.ref a1, .str "off", .str "same", .ref a3]) f4
      have u14 := ((u1.trans u2).trans u3).trans u4
      refine ⟨_, rfl, pl, 12, rfl, (hp3.same s4).same u14, by decide, by decide, fun g2 H5 _ _ hp5 k5 => ⟨_, _, rfl, rfl, (by show 2 ≤ sizeLine; decide), fun a5 f5 => ?_⟩⟩
      have R4 : RowAt (upd (upd (upd (upd H4 a1 (.tup [.int 2, .int 0])) a2 (.tup [.int 1, .int 0])) a3 (.tup [.str "diff", .str "=", .ref a2])) a4 (.tup [.ref a1, .str "off", .str "same", .ref a3])) (.ref a4) ⟨.form 2 0, "off", .lim "=" 1 0⟩ :=
        ⟨a4, .ref a1, .ref a3, rfl, upd_same, ⟨a1, rfl, ((u2.trans u3).trans u4) _ _ upd_same⟩, a3, a2, rfl, u4 _ _ upd_same, (u3.trans u4) _ _ upd_same⟩
      have s5 : Same H5 _ := Same.new (o := .tup [.ref a4, .int (1 + g2)]) f5
      exact q a5 (.ref a4) ⟨.form 2 0, "off", .lim "=" 1 0⟩ (1 + g2) _ (mem2 (j := 0) (.inr rfl) (by decide) (by decide)) (by omega) (by omega) (fall_right (by omega) (by omega)) ((R4.kp k5).same s5) upd_same (hp5.same s5) (((k04.trans (Kp.same u14)).trans k5).trans (Kp.same s5))
    · refine ⟨_, rfl, _, rfl, (by show 2 ≤ sizeLine; decide), fun a5 f5 => ?_⟩
      have s5 : Same H4 _ := Same.new (o := .tup [v, .int n]) f5
      have hn' : 1 ≤ n ∧ n ≤ 12 ∧ rightF r n = true := hn.resolve_left (fun z => h (by rw [z]))
      exact q a5 v r n _ hm hn'.1 hn'.2.1 hn'.2.2 (((hR.kp k3).same s4).same s5) upd_same ((hp3.same s4).same s5) (k04.trans (Kp.same s5))
end
end RI

set_option maxHeartbeats 4000000
namespace RI
open PySem PySem.Spec PyProof.Rows L2
local macro_rules | `(tactic| walk_at "rd") => `(tactic| dsimp only [tVar, tC, t2I, tOp, tUn, rI, rI0, rU, tCmp, tB, tAnd, tOr, tNot, tAndV, tOrV, tNotV, tIf, tNext, tSeq, tDrop, tRet, tRetN, tIfS, gName, gNil, gCons, gTup, gSub, tAsg, tPar, tAug, ipI, iList, iTup, iRng1, iRng2, tTest, tChain, rEq, rNe, tFld, sFld, tNil, tCons, tTup, tLst, tCall, tMeth, tMake, tCB, tSl, tPart, tNoPart, tProp, tMakeK, tMakeN, rIxL, rIxT, rSetL, tBM, tBM0, rAppend, rCat, C8.tCut, tYes, tDGet, tDIn, sDPut, tDNewK])
abbrev aNoSteps (K : PySem.W.Frag) : Addr := He.ga K "NoSteps"
structure Nst (P : Program) (K : PySem.W.Frag) (mg : Str → Option Value) : Prop where
  tx : ∃ fI cc cda, PySem.NstX.NstTxt P K mg (aNoSteps K) fI cc cda
  xf : XfC K (aNoSteps K)
  te : PySem.W.exmOne K (.ref (aNoSteps K)) (.ref (aNoSteps K)) = some true
section
variable {P : Program} {w : World} {K : PySem.W.Frag} {mg : Str → Option Value} {base : Heap}
theorem FunM.okX {C : Addr} {x qual : Str} {st : Stmt} {N ps : List Str} {k : Nat} {sp : Sp} (F : FunM K C x qual st) (S : FnScope N ps (defScope st)) (len : ∀ vs H Q E, sp vs H Q E → vs.length = ps.length)
    (hb : ∀ (kV doc pm : Value) (an : Option Addr) (cdv ct : Value) (us : List Value), us.length = ps.length → bindArgs (PySem.W.fnOf x qual (defArgs st) (defBody st) (defScope st) .none kV doc pm an cdv ct) ⟨us, []⟩ = pure (ps.zip us))
    (hbody : ∀ (cdv : Value) (A : Around) (outer : List Env) (s : Shared) (H : Hp) (vs : List V) (Q : VK) (E : XK) (f : Addr), Room k (A.deeper (envOfC qual (defScope st) s.heap.objs.size f cdv)) → sp vs H Q E →
      ∃ t, PSs (cxOf (L2.CX P w) P w K mg base N qual (defScope st) f cdv A outer s H E) (defBody st) t ∧ t { nx := fun _ H' => Q .non H', rt := Q } (start N vs) H) :
    ∃ f fd, FnOk P w K mg base (L2.CX P w) (k + 1) f fd ps sp ∧ Meth K C x f ∧ Binds K fd ps [] := by
  obtain ⟨f, fd, F, hm⟩ := F.ex
  exact ⟨f, fd, F.ok S len (fun cdv A outer s H vs Q E hr hsp => hbody cdv A outer s H vs Q E f hr hsp), hm, F.bindsN hb⟩
/-- a hand that the ring does not know -/
def BadHand (m : Nat) (v : V) : Prop := (∃ s : Str, v = .str s ∧ inV (.str s) (lettersV m) = false) ∨ ∃ i : Int, v = .int i
def sp_step_ref (K : PySem.W.Frag) : Sp := fun vs H _ E => ∃ (x cyc sl lt ol : Addr) (ss : List Addr) (p : Par) (c : Core) (opn : List Int) (v : V), vs = [.ref x, v] ∧ RingAt K H x cyc sl lt ol ss p c opn ∧ BadHand c.sides.length v ∧
  ∀ d, H d = none → E (.ref (aNoSteps K)) (some d) (upd H d (.xd [(("at" : Str), .int 0)]))
theorem ok_step_ref (T : Txt K mg) (N : Nst P K mg) : ∃ f fd, FnOk P w K mg base (L2.CX P w) 2 f fd p_step (sp_step_ref K) ∧ Meth K (aPutters K) "step" f ∧ Binds K fd p_step [] := by
  refine FunM.okX T.m_step sc_step (fun vs H Q E h => ?_) (fun _ _ _ _ _ _ us hl => match us, hl with | [_, _], _ => rfl) fun cdv A outer s H vs Q E f hr h => ?_
  · obtain ⟨x, cyc, sl, lt, ol, ss, p, c, opn, v, rfl, _⟩ := h
    rfl
  · obtain ⟨fI, cc, cda, N1⟩ := N.tx
    refine ⟨_, pss_cons (ps_if (pt_not (pt_val (pe_callG (ok_is_word T) hr (pa_cons (pv 1) (pa_cons (pe_fld (pv 0) rfl) pa_nil))))) (pss_one (ps_raise rfl (takes_of rfl rfl rfl rfl) (pmk_nst N1 hr (pa_cons pe_int pa_nil)))) pss_nil) pss_never, ?_⟩
    walk_at "rd"
    obtain ⟨x, cyc, sl, lt, ol, ss, p, c, opn, v, rfl, R, hb, q⟩ := h
    obtain ⟨dx, fv, hx, hf⟩ := R.ob
    refine ⟨_, rfl, _, rfl, x, _, _, _, _, rfl, hx, T.c_Putters, T.n_Putters_letters, rf_letters .., ?_⟩
    rcases hb with ⟨s', rfl, hv⟩ | ⟨i, rfl⟩
    · refine ⟨_, lt, _, rfl, .inl (SqL.of R.le), letters_flat _, .inl ⟨_, rfl, _, rfl, if_t (by rw [hv]; rfl) ?_⟩⟩
      exact ⟨_, rfl, q⟩
    · refine ⟨_, lt, _, rfl, .inl (SqL.of R.le), letters_flat _, .inr ⟨_, rfl, _, rfl, if_t rfl ?_⟩⟩
      exact ⟨_, rfl, q⟩
end
section
variable {X : Cx} {CX : CXT} {k : Nat} {C f : Addr} {m : Str} {fd : FuncData} {ps : List Str} {sp : Sp} {E : L2.St → XK} {o e : Expr} {es : List Expr} {ta : TE} {t : TA} {p apos pos : Pos}
/-- o.m(e, ..), where an exception may come out -/
def tMethE (C : Addr) (m : Str) (sp : Sp) (E : L2.St → XK) (ta : TE) (t : TA) : TE := fun σ H Q => ta σ H fun x H1 => ∃ a dx fs, x = .ref a ∧ H1 a = some (.ins C dx fs) ∧ fs.lookup m = none ∧ t σ H1 fun vs H2 => sp (x :: vs) H2 Q (E σ)
theorem pe_methE {pl : Sem Bool} (he : PE X o ta) (c : Cls X.K C) (hm : Meth X.K C m f) (F : FnOk X.prog X.w X.K X.mg X.base CX k f fd ps sp) (hr : Room k X.A) (hb : Binds X.K fd ps []) (hx : ∀ σ, PassesAt CX X σ (E σ)) (ha : PA X (e :: es) t)
    (hst : starEach (e :: es) X.env = (false, eval e X.env) :: starEach es X.env := by rfl) (hpl : (backTo pos (starEach es X.env)).any (·.1) = false := by rfl)
    (ht : eval (.Call (.Attribute o m apos) (e :: es) [] pos) X.env = (do
      let ov ← eval o X.env
      standAt apos.atName
      let (f, first) ← holding [ov] (getMethod ov m pl)
      callWith pos f first (backTo pos (starEach (e :: es) X.env)) (backToKw pos (keywordEach [] X.env))) := by rfl) :
    PE X (.Call (.Attribute o m apos) (e :: es) [] pos) (tMethE C m sp E ta t) := by
  refine ⟨fun pins s σ H Q I h => ?_⟩
  refine PySem.W.methodCall_KW (pl := pl) (thn (he.run pins s σ H _ I h) fun u s1 ⟨x, H1, I1, rx, a, dx, fs, ex, ea, l, q⟩ => ?_) ht
  subst ex
  obtain rfl : u = Value.ref a := rx
  refine getmeth_ok I1 ea c hm l ?_
  refine PySem.W.callWith_K (first := [.ref a]) (h₀ := X.base) I.ok.mod.kin hm.kp (thn (ha.run pos pins s1 σ H1 _ I1 q) fun us s2 ⟨vs, H2, I2, r, q2⟩ => ⟨I2.kIn, ?_⟩) hst hpl
  exact run_fnS (us := .ref a :: us) (vs := .ref a :: vs) F hr hb (hx σ) I2 (.cons rfl r) q2
end
section
variable {P : Program} {w : World} {K : PySem.W.Frag} {mg : Str → Option Value} {base : Heap}
def sp_law_refused (K : PySem.W.Frag) : Sp := fun vs H Q _ => ∃ (x cyc sl lt ol : Addr) (ss : List Addr) (p : Par) (c : Core) (opn : List Int) (v : V), vs = [.ref x, v] ∧ RingAt K H x cyc sl lt ol ss p c opn ∧ BadHand c.sides.length v ∧ ∀ H', Same H H' → Q (.bl true) H'
theorem ok_law_refused (T : Txt K mg) (N : Nst P K mg) : Glb P w K mg base 3 "_law_refused" p_law_refused (sp_law_refused K) := by
  refine T.f_law_refused.ok sc_law_refused (fun vs H Q E h => ?_) (fun _ _ _ _ _ _ us hl => match us, hl with | [_, _], _ => rfl) fun cdv A outer s H vs Q E f hr h => ?_
  · obtain ⟨x, cyc, sl, lt, ol, ss, p, c, opn, v, rfl, _⟩ := h
    rfl
  · obtain ⟨fI, cc, cda, N1⟩ := N.tx
    obtain ⟨fs, fds, F, hM, hB⟩ := ok_step_ref (w := w) (base := base) T N
    refine ⟨_, pss_one (ps_try_as (i := 2) (x := "NoSteps") (n := "e") (c := .ref (aNoSteps K)) rfl rfl sc_law_refused.nd rfl rfl ⟨rfl, by decide, .inl N1.gC⟩ takes0
      (fun W pn xe tk _ => pss_cons (ps_expr (pe_methE (pv 0) T.c_Putters hM F hr hB (fun σ => passAt tk σ) (pa_cons (pv 1) pa_nil))) pss_never)
      (fun a oe cls d pn hz hf => pss_one (ps_ret (pe_cmpR op_eq (pe_xf N.xf N1.noN hz hf (pv 2)) pe_int (nomark _))))), ?_⟩
    walk_at "rd"
    dsimp only [tMethE, wAs, tXf]
    walk_at "rd"
    obtain ⟨x, cyc, sl, lt, ol, ss, p, c, opn, v, rfl, R, hb, q⟩ := h
    obtain ⟨dx, fv, hx, hf⟩ := R.ob
    refine ⟨_, rfl, x, _, _, rfl, hx, rf_mStep .., _, rfl, x, cyc, sl, lt, ol, ss, p, c, opn, v, rfl, R, hb, fun d hd => ?_⟩
    refine ⟨true, N.te, fun _ a ha => ?_, fun z => nomatch z⟩
    refine ⟨_, rfl, rfl, rfl, d, _, _, rfl, upd_same, rfl, rfl, ?_⟩
    exact q _ (Same.new hd)
end
end RI

namespace RI
open PySem PySem.Spec PyProof.Rows L2
theorem nst {K : PySem.W.Frag} {h : Heap} {mg : Str → Option Value} (X : K.In h) (G : h.Ns mainGlobals mg) (c : SaysR fa fn K) : Nst PySem.Challenge.pw_ringindexes_k72_whole_putters_beside_slo K mg := by
  obtain ⟨e, o⟩ := c.raw 64 (d := nstDef)
  obtain ⟨cc, cda, p1, p2, p3⟩ := nst_parts e o (c.fact 129 (f := ns14))
  exact ⟨⟨nI K, cc, cda, { gC := He.glo_ok X G (c.fact 131), ox := ⟨nstX_ok (c.fact 130 (f := nstX)), (of_decide_eq_true (c.fact 116 (f := ns1))), (of_decide_eq_true (c.fact 117 (f := ns2))), (of_decide_eq_true (c.fact 118 (f := ns3))), c.fact 119 (f := ns4)⟩, noN := (of_decide_eq_true (c.fact 120 (f := ns5))), iC := (of_decide_eq_true (c.fact 121 (f := ns6))), tI := (of_decide_eq_true (c.fact 122 (f := ns7))), fn := p1, code := p2, cell := p3, sub := (of_decide_eq_true (c.fact 123 (f := ns8))), opq := (of_decide_eq_true (c.fact 124 (f := ns9))), sup := (of_decide_eq_true (c.fact 125 (f := ns10))), subV := (of_decide_eq_true (c.fact 126 (f := ns11))), gS := He.free_ok X G (c.fact 132), top := by decide +kernel }⟩, xfB_ok (c.fact 127 (f := ns12)), (of_decide_eq_true (c.fact 128 (f := ns13)))⟩
end RI

set_option maxHeartbeats 4000000
namespace RI
open PySem PySem.Spec PyProof.Rows L2
local macro_rules | `(tactic| walk_at "rd") => `(tactic| dsimp only [tVar, tC, t2I, tOp, tUn, rI, rI0, rU, tCmp, tB, tAnd, tOr, tNot, tAndV, tOrV, tNotV, tIf, tNext, tSeq, tDrop, tRet, tRetN, tIfS, gName, gNil, gCons, gTup, gSub, tAsg, tPar, tAug, ipI, iList, iTup, iRng1, iRng2, tTest, tChain, rEq, rNe, tFld, sFld, tNil, tCons, tTup, tLst, tCall, tMeth, tMake, tCB, tSl, tPart, tNoPart, tProp, tMakeK, tMakeN, rIxL, rIxT, rSetL, tBM, tBM0, rAppend, rCat, C8.tCut, tYes, tDGet, tDIn, sDPut, tDNewK])
/-! ### the law's game -/
structure GP where
  rule : Str
  n : Int
  M : Int
  base : Int
def gD (q : GP) (p : Par) (c : Core) (cyc cl hl lv : Addr) (bv : V) : List (Key × V) := [(Sum.inr "rule", .str q.rule), (Sum.inr "n", .int q.n), (Sum.inr "modulus", .int q.M), (Sum.inr "room", .int p.limit), (Sum.inr "cycle", .ref cyc), (Sum.inr "turn", .bl p.turn), (Sum.inr "cells", .ref cl),
  (Sum.inr "base", .int q.base), (Sum.inr "hands", .ref hl), (Sum.inr "taker", .int c.taker), (Sum.inr "levels", .ref lv), (Sum.inr "steps", .int c.made), (Sum.inr "broken", bv)]
section
variable (q : GP) (p : Par) (c : Core) (cyc cl hl lv : Addr) (bv : V)
theorem gd_rule : valV (gD q p c cyc cl hl lv bv) (Sum.inr "rule") = some (.str q.rule) := by kernel_rfl
theorem gd_n : valV (gD q p c cyc cl hl lv bv) (Sum.inr "n") = some (.int q.n) := by kernel_rfl
theorem gd_M : valV (gD q p c cyc cl hl lv bv) (Sum.inr "modulus") = some (.int q.M) := by kernel_rfl
theorem gd_room : valV (gD q p c cyc cl hl lv bv) (Sum.inr "room") = some (.int p.limit) := by kernel_rfl
theorem gd_cycle : valV (gD q p c cyc cl hl lv bv) (Sum.inr "cycle") = some (.ref cyc) := by kernel_rfl
theorem gd_turn : valV (gD q p c cyc cl hl lv bv) (Sum.inr "turn") = some (.bl p.turn) := by kernel_rfl
theorem gd_cells : valV (gD q p c cyc cl hl lv bv) (Sum.inr "cells") = some (.ref cl) := by kernel_rfl
theorem gd_base : valV (gD q p c cyc cl hl lv bv) (Sum.inr "base") = some (.int q.base) := by kernel_rfl
theorem gd_hands : valV (gD q p c cyc cl hl lv bv) (Sum.inr "hands") = some (.ref hl) := by kernel_rfl
theorem gd_taker : valV (gD q p c cyc cl hl lv bv) (Sum.inr "taker") = some (.int c.taker) := by kernel_rfl
theorem gd_levels : valV (gD q p c cyc cl hl lv bv) (Sum.inr "levels") = some (.ref lv) := by kernel_rfl
theorem gd_steps : valV (gD q p c cyc cl hl lv bv) (Sum.inr "steps") = some (.int c.made) := by kernel_rfl
theorem gd_broken : valV (gD q p c cyc cl hl lv bv) (Sum.inr "broken") = some bv := by kernel_rfl
theorem gp_taker (y : Int) : putK (gD q p c cyc cl hl lv bv) (Sum.inr "taker") (.int y) = gD q p { c with taker := y } cyc cl hl lv bv := by kernel_rfl
theorem gp_steps (y : Int) : putK (gD q p c cyc cl hl lv bv) (Sum.inr "steps") (.int y) = gD q p { c with made := y } cyc cl hl lv bv := by kernel_rfl
theorem gp_broken (y : V) : putK (gD q p c cyc cl hl lv bv) (Sum.inr "broken") y = gD q p c cyc cl hl lv y := by kernel_rfl
theorem gd_few : (gD q p c cyc cl hl lv bv).length < sizeLine := by show 13 < sizeLine; decide
end
theorem dg {H : Hp} {a : Addr} {kvs : List (Key × V)} {k : Str} {v : V} (h : H a = some (.dK kvs)) (e : valV kvs (Sum.inr k) = some v) : DGet H a (.str k) (some v) := by
  have z := DGet.k (k := Sum.inr k) h
  rw [e] at z
  exact z
theorem dp {H : Hp} {a : Addr} {kvs ls : List (Key × V)} {k : Str} {v : V} (h : H a = some (.dK kvs)) (hl : kvs.length < sizeLine) (e : putK kvs (Sum.inr k) v = ls) : DPut H a (.str k) v (upd H a (.dK ls)) := by
  have z := DPut.k (k := Sum.inr k) (v := v) h hl
  rw [e] at z
  exact z
structure GameAt (H : Hp) (g cyc cl hl lv : Addr) (hs : List Addr) (q : GP) (p : Par) (c : Core) (cs : List Int) : Prop where
  ob : ∃ bv, H g = some (.dK (gD q p c cyc cl hl lv bv)) ∧ FoundAt H bv c.found
  cy : H cyc = some (.lst (cycV p.two))
  ce : H cl = some (.lst (cs.map V.int))
  ha : H hl = some (.lst (hs.map V.ref))
  le : H lv = some (.lst [.int c.gone, .int c.told, .int c.given])
  len : hs.length = c.sides.length
  sd : ∀ (k : Nat) (a : Addr), hs[k]? = some a → ∃ pl ow, c.sides[k]? = some (pl, ow) ∧ H a = some (.lst [.int pl, .int ow])
  nd : (g :: cyc :: cl :: hl :: lv :: hs).Nodup
section
variable {H H' : Hp} {g cyc cl hl lv : Addr} {hs : List Addr} {q : GP} {p : Par} {c c' : Core} {cs : List Int}
structure GApart (g cyc cl hl lv : Addr) (hs : List Addr) : Prop where
  g1 : g ≠ cyc
  g2 : g ≠ cl
  g3 : g ≠ hl
  g4 : g ≠ lv
  c1 : cl ≠ cyc
  c2 : cl ≠ hl
  c3 : cl ≠ lv
  l1 : lv ≠ cyc
  l2 : lv ≠ hl
  hx : ∀ a, a ∈ hs → a ≠ g ∧ a ≠ cyc ∧ a ≠ cl ∧ a ≠ hl ∧ a ≠ lv
  nd : hs.Nodup
theorem gapart (h : (g :: cyc :: cl :: hl :: lv :: hs).Nodup) : GApart g cyc cl hl lv hs := by
  obtain ⟨h1, h⟩ := List.nodup_cons.mp h
  obtain ⟨h2, h⟩ := List.nodup_cons.mp h
  obtain ⟨h3, h⟩ := List.nodup_cons.mp h
  obtain ⟨h4, h⟩ := List.nodup_cons.mp h
  obtain ⟨h5, h⟩ := List.nodup_cons.mp h
  simp only [List.mem_cons, not_or] at h1 h2 h3 h4
  obtain ⟨a1, a2, a3, a4, a5⟩ := h1
  obtain ⟨b1, b2, b3, b4⟩ := h2
  obtain ⟨d1, d2, d3⟩ := h3
  obtain ⟨e1, e2⟩ := h4
  exact ⟨a1, a2, a3, a4, b1 ∘ Eq.symm, d1, d2, b3 ∘ Eq.symm, e1 ∘ Eq.symm, fun a ha => ⟨fun z => a5 (z ▸ ha), fun z => b4 (z ▸ ha), fun z => d3 (z ▸ ha), fun z => e2 (z ▸ ha), fun z => h5 (z ▸ ha)⟩, h⟩
theorem GameAt.ap (G : GameAt H g cyc cl hl lv hs q p c cs) : GApart g cyc cl hl lv hs := gapart G.nd
theorem GameAt.kp {S : List Addr} (G : GameAt H g cyc cl hl lv hs q p c cs) (k : Kp S H H') (hS : ∀ a, a ∈ g :: cyc :: cl :: hl :: lv :: hs → a ∉ S) : GameAt H' g cyc cl hl lv hs q p c cs := by
  obtain ⟨bv, hg, hf⟩ := G.ob
  refine ⟨⟨bv, k _ _ hg (.inl (hS _ (by simp))), hf.kp k⟩, k _ _ G.cy (.inl (hS _ (by simp))), k _ _ G.ce (.inl (hS _ (by simp))), k _ _ G.ha (.inl (hS _ (by simp))), k _ _ G.le (.inl (hS _ (by simp))), G.len, fun j a hj => ?_, G.nd⟩
  obtain ⟨pl, ow, h1, h2⟩ := G.sd j a hj
  exact ⟨pl, ow, h1, k _ _ h2 (.inl (hS _ (by simp [List.mem_of_getElem? hj])))⟩
theorem GameAt.new {b : Addr} {o : HO} (G : GameAt H g cyc cl hl lv hs q p c cs) (h : H b = none) : GameAt (upd H b o) g cyc cl hl lv hs q p c cs := G.kp (S := []) (Kp.new h) fun a _ => by simp
/-- the dict's own entries -/
theorem GameAt.setG {bv : V} (G : GameAt H g cyc cl hl lv hs q p c cs) (hs' : c'.sides = c.sides) (h1 : c'.gone = c.gone) (h2 : c'.told = c.told) (h3 : c'.given = c.given) (hf : FoundAt H bv c'.found) : GameAt (upd H g (.dK (gD q p c' cyc cl hl lv bv))) g cyc cl hl lv hs q p c' cs := by
  have A := G.ap
  obtain ⟨b0, hg, _⟩ := G.ob
  refine ⟨⟨bv, upd_same, hf.kp (S := [g]) (Kp.set (by simp) hg (fun xs z => nomatch z))⟩, by rw [upd_ne A.g1.symm]; exact G.cy, by rw [upd_ne A.g2.symm]; exact G.ce, by rw [upd_ne A.g3.symm]; exact G.ha, by rw [upd_ne A.g4.symm, h1, h2, h3]; exact G.le, by rw [hs']; exact G.len, fun j a hj => ?_, G.nd⟩
  obtain ⟨pl, ow, z1, z2⟩ := G.sd j a hj
  exact ⟨pl, ow, by rw [hs']; exact z1, by rw [upd_ne (A.hx a (List.mem_of_getElem? hj)).1]; exact z2⟩
/-- the levels -/
theorem GameAt.setL {x y z : Int} (G : GameAt H g cyc cl hl lv hs q p c cs) : GameAt (upd H lv (.lst [.int x, .int y, .int z])) g cyc cl hl lv hs q p { c with gone := x, told := y, given := z } cs := by
  have A := G.ap
  obtain ⟨b0, hg, hf⟩ := G.ob
  refine ⟨⟨b0, by rw [upd_ne A.g4]; exact hg, hf.kp (S := [lv]) (Kp.set (by simp) G.le (fun xs z => nomatch z))⟩, by rw [upd_ne A.l1.symm]; exact G.cy, by rw [upd_ne A.c3]; exact G.ce, by rw [upd_ne A.l2.symm]; exact G.ha, upd_same, G.len, fun j a hj => ?_, G.nd⟩
  obtain ⟨pl, ow, z1, z2⟩ := G.sd j a hj
  exact ⟨pl, ow, z1, by rw [upd_ne (A.hx a (List.mem_of_getElem? hj)).2.2.2.2]; exact z2⟩
/-- the cells -/
theorem GameAt.setC {cs' : List Int} (G : GameAt H g cyc cl hl lv hs q p c cs) : GameAt (upd H cl (.lst (cs'.map V.int))) g cyc cl hl lv hs q p c cs' := by
  have A := G.ap
  obtain ⟨b0, hg, hf⟩ := G.ob
  refine ⟨⟨b0, by rw [upd_ne A.g2]; exact hg, hf.kp (S := [cl]) (Kp.set (by simp) G.ce (fun xs z => nomatch z))⟩, by rw [upd_ne A.c1.symm]; exact G.cy, upd_same, by rw [upd_ne A.c2.symm]; exact G.ha, by rw [upd_ne A.c3.symm]; exact G.le, G.len, fun j a hj => ?_, G.nd⟩
  obtain ⟨pl, ow, z1, z2⟩ := G.sd j a hj
  exact ⟨pl, ow, z1, by rw [upd_ne (A.hx a (List.mem_of_getElem? hj)).2.2.1]; exact z2⟩
/-- a hand -/
theorem GameAt.setH {k : Nat} {a : Addr} {pl ow : Int} (G : GameAt H g cyc cl hl lv hs q p c cs) (hk : hs[k]? = some a) : GameAt (upd H a (.lst [.int pl, .int ow])) g cyc cl hl lv hs q p { c with sides := c.sides.set k (pl, ow) } cs := by
  have A := G.ap
  obtain ⟨b0, hg, hf⟩ := G.ob
  obtain ⟨n1, n2, n3, n4, n5⟩ := A.hx a (List.mem_of_getElem? hk)
  obtain ⟨pa, oa, hsa, ha⟩ := G.sd k a hk
  refine ⟨⟨b0, by rw [upd_ne n1.symm]; exact hg, hf.kp (S := [a]) (Kp.set (by simp) ha (fun xs z => nomatch z))⟩, by rw [upd_ne n2.symm]; exact G.cy, by rw [upd_ne n3.symm]; exact G.ce, by rw [upd_ne n4.symm]; exact G.ha, by rw [upd_ne n5.symm]; exact G.le, by show hs.length = (c.sides.set k (pl, ow)).length; rw [List.length_set]; exact G.len, fun j b hj => ?_, G.nd⟩
  by_cases hjk : j = k
  · subst hjk
    rw [hk] at hj
    cases hj
    exact ⟨pl, ow, List.getElem?_set_self (List.getElem?_eq_some_iff.mp hsa).1, upd_same⟩
  · obtain ⟨pb, ob, z1, z2⟩ := G.sd j b hj
    refine ⟨pb, ob, ?_, ?_⟩
    · show (c.sides.set k (pl, ow))[j]? = _
      rw [List.getElem?_set_ne (Ne.symm hjk)]
      exact z1
    · rw [upd_ne (show b ≠ a from fun e => hjk (nd_ix' A.nd (by rw [← e]; exact hj) hk))]
      exact z2
end
end RI

set_option maxHeartbeats 4000000
namespace RI
open PySem PySem.Spec PyProof.Rows L2
local macro_rules | `(tactic| walk_at "rd") => `(tactic| dsimp only [tVar, tC, t2I, tOp, tUn, rI, rI0, rU, tCmp, tB, tAnd, tOr, tNot, tAndV, tOrV, tNotV, tIf, tNext, tSeq, tDrop, tRet, tRetN, tIfS, gName, gNil, gCons, gTup, gSub, tAsg, tPar, tAug, ipI, iList, iTup, iRng1, iRng2, tTest, tChain, rEq, rNe, tFld, sFld, tNil, tCons, tTup, tLst, tCall, tMeth, tMake, tCB, tSl, tPart, tNoPart, tProp, tMakeK, tMakeN, rIxL, rIxT, rSetL, tBM, tBM0, rAppend, rCat, C8.tCut, tYes, tDGet, tDIn, sDPut, tDNewK])
/-! ### the game made -/
def gP (k : Nat) (q : GP) (p : Par) (m : Nat) (cyc cl hl lv : Addr) : List (Key × V) := (gD q p (core0 m) cyc cl hl lv .non).take k
section
variable (q : GP) (p : Par) (m : Nat) (cyc cl hl lv cl' hl' lv' : Addr)
theorem gp_5 : mergeK [] [(Sum.inr "rule", V.str q.rule), (Sum.inr "n", .int q.n), (Sum.inr "modulus", .int q.M), (Sum.inr "room", .int p.limit), (Sum.inr "cycle", .ref cyc)] = gP 5 q p m cyc cl hl lv := by kernel_rfl
theorem gp_6 : putK (gP 5 q p m cyc cl hl lv) (Sum.inr "turn") (.bl p.turn) = gP 6 q p m cyc cl hl lv := by kernel_rfl
theorem gp_7 : putK (gP 6 q p m cyc cl hl lv) (Sum.inr "cells") (.ref cl') = gP 7 q p m cyc cl' hl lv := by kernel_rfl
theorem gp_8 : putK (gP 7 q p m cyc cl hl lv) (Sum.inr "base") (.int q.base) = gP 8 q p m cyc cl hl lv := by kernel_rfl
theorem gp_9 : putK (gP 8 q p m cyc cl hl lv) (Sum.inr "hands") (.ref hl') = gP 9 q p m cyc cl hl' lv := by kernel_rfl
theorem gp_10 : putK (gP 9 q p m cyc cl hl lv) (Sum.inr "taker") (.int 0) = gP 10 q p m cyc cl hl lv := by kernel_rfl
theorem gp_11 : putK (gP 10 q p m cyc cl hl lv) (Sum.inr "levels") (.ref lv') = gP 11 q p m cyc cl hl lv' := by kernel_rfl
theorem gp_12 : putK (gP 11 q p m cyc cl hl lv) (Sum.inr "steps") (.int 0) = gP 12 q p m cyc cl hl lv := by kernel_rfl
theorem gp_13 : putK (gP 12 q p m cyc cl hl lv) (Sum.inr "broken") .non = gD q p (core0 m) cyc cl hl lv .non := by kernel_rfl
theorem gP_few {k : Nat} : (gP k q p m cyc cl hl lv).length < sizeLine := by
  unfold gP
  rw [List.length_take]
  have := gd_few q p (core0 m) cyc cl hl lv .non
  omega
end
section
variable {P : Program} {w : World} {K : PySem.W.Frag} {mg : Str → Option Value} {base : Heap}
def sp_law_game : Sp := fun vs H Q _ => ∃ (v : V) (r : Row) (n : Int) (m : Nat) (b1 b2 : Bool) (room at_ : Int), vs = [v, .int n, .int (m : Int), .str (tellS b1), .str (testS b2), .int room, .int at_] ∧ RowAt H v r ∧ r ∈ allRows ∧ 1 ≤ n ∧ n ≤ 12 ∧ 1 ≤ m ∧ m ≤ 4 ∧
  ∀ g cyc cl hl lv hs H', Same H H' → GameAt H' g cyc cl hl lv hs ⟨r.rule, n, modF r.turn n, at_⟩ ⟨room, b1, b2⟩ (core0 m) (List.replicate n.toNat 0) → (∀ a, a ∈ g :: cyc :: cl :: hl :: lv :: hs → H a = none) → Q (.ref g) H'
theorem ok_law_game (T : Txt K mg) : Glb P w K mg base 2 "_law_game" p_law_game sp_law_game := by
  refine T.f_law_game.ok sc_law_game (fun vs H Q E h => ?_) (fun _ _ _ _ _ _ us hl => match us, hl with | [_, _, _, _, _, _, _], _ => rfl) fun cdv A outer s H vs Q E f hr h => ?_
  · obtain ⟨v, r, n, m, b1, b2, room, at_, rfl, _⟩ := h
    rfl
  · have hu := hu_of hr
    refine ⟨_, pss_cons (ps_set (i := 7) sc_law_game.nd rfl (Or.inl rfl) (pe_callG (ok_law_modulus T) hr (pa_cons (pe_ix ix_tup (pv 0) pe_int (fun _ _ => rfl)) (pa_cons (pv 1) pa_nil))))
      (pss_cons (ps_set (i := 8) sc_law_game.nd rfl (Or.inl rfl) (pe_lst (pa_cons pe_str (pa_cons pe_str (pa_cons pe_str pa_nil)))))
      (C8.pss_cut (ps_if (pt_cmpR op_eq (pv 4) pe_str (nomark _)) (pss_one (ps_set (i := 8) sc_law_game.nd rfl (Or.inl rfl) (pe_op op_cat (pe_lst (pa_cons pe_str pa_nil)) (pv 8)))) pss_nil)
      (pss_cons (ps_set (i := 9) sc_law_game.nd rfl (Or.inl rfl) (pe_disp (pps_cons pe_str (pe_ix ix_tup (pv 0) pe_int (fun _ _ => rfl)) (pps_cons pe_str (pv 1) (pps_cons pe_str (pv 7) (pps_cons pe_str (pv 5) (pps_cons pe_str (pv 8) pps_nil))))) (by rfl) (by rfl) (fun z => by cases z) (by decide)))
      (pss_cons (ps_dput hu (pv 9) pe_str (pe_cmpR op_eq (pv 3) pe_str (nomark _)) rfl)
      (pss_cons (ps_dput hu (pv 9) pe_str (pe_lc (own := [("_law_k", 10)]) (g := gName 10) rfl sc_law_game.nd (pi_range1 rfl T.b_range (pa_cons (pv 1) pa_nil)) (blkOk_by (own := [("_law_k", 10)]) (N := n_law_game) (sc := defScope s_law_game) (by decide +kernel))
        (fun _ _ _ _ _ => pg_name (i := 10) sc_law_game.nd rfl (Or.inl rfl)) (fun _ _ _ _ _ => pts_nil) (fun _ _ _ _ _ => pe_int)) rfl)
      (pss_cons (ps_dput hu (pv 9) pe_str (pv 6) rfl)
      (pss_cons (ps_dput hu (pv 9) pe_str (pe_lc (own := [("_law_k", 10)]) (g := gName 10) rfl sc_law_game.nd (pi_range1 rfl T.b_range (pa_cons (pv 2) pa_nil)) (blkOk_by (own := [("_law_k", 10)]) (N := n_law_game) (sc := defScope s_law_game) (by decide +kernel))
        (fun _ _ _ _ _ => pg_name (i := 10) sc_law_game.nd rfl (Or.inl rfl)) (fun _ _ _ _ _ => pts_nil) (fun _ _ _ _ _ => pe_lst (pa_cons pe_int (pa_cons pe_int pa_nil)))) rfl)
      (pss_cons (ps_dput hu (pv 9) pe_str pe_int rfl) (pss_cons (ps_dput hu (pv 9) pe_str (pe_lst (pa_cons pe_int (pa_cons pe_int (pa_cons pe_int pa_nil)))) rfl) (pss_cons (ps_dput hu (pv 9) pe_str pe_int rfl) (pss_cons (ps_dput hu (pv 9) pe_str pe_non rfl)
      (pss_one (ps_ret (pv 9)))))))))))))), ?_⟩
    walk_at "rd"
    dsimp only [tDisp, tPairs]
    walk_at "rd"
    obtain ⟨v, r, n, m, b1, b2, room, at_, rfl, ⟨t, vt, vb, rfl, ht, h1, h2⟩, hm, n1, n2, m1, m4, q⟩ := h
    have Gd := (row_good hm).1
    have eb1 : decide (V.str (tellS b1) = V.str "turn") = b1 := by cases b1 <;> decide +kernel
    have eb2 : decide (V.str (testS b2) = V.str "two") = b2 := by cases b2 <;> decide +kernel
    refine ⟨_, rfl, t, _, 0, _, rfl, rfl, SqT.of ht, rfl, _, rfl, _, r.turn, n, rfl, h1, Gd.turn, ?_⟩
    refine ⟨(by show 3 ≤ sizeLine; decide), fun c0 hc0 => ?_⟩
    refine ⟨fun σ H' => ∃ cyc, σ = [some (.ref t), some (.int n), some (.int (m : Int)), some (.str (tellS b1)), some (.str (testS b2)), some (.int room), some (.int at_), some (.int (modF r.turn n)), some (.ref cyc), none, none] ∧ Same H H' ∧ H cyc = none ∧ H' cyc = some (.lst (cycV b2)), ?_, ?_⟩
    · refine ⟨_, rfl, rfl, _, rfl, ?_⟩
      rw [eb2]
      have s0 : Same H _ := Same.new (o := .lst [.str "number", .str "write", .str "tell"]) hc0
      cases b2 with
      | false => exact if_f rfl ⟨c0, rfl, s0, hc0, upd_same⟩
      | true =>
        refine if_t rfl ⟨(by show 1 ≤ sizeLine; decide), fun c1 hc1 => ⟨_, rfl, c1, c0, _, [.str "number", .str "write", .str "tell"], rfl, rfl, upd_same, ?_, (by show 4 ≤ sizeLine; decide), fun c2 hc2 => ?_⟩⟩
        · rw [upd_ne (ne_of_none upd_same hc1)]
          exact upd_same
        · have s1 : Same _ _ := Same.new (o := .lst [.str "test"]) hc1
          exact ⟨c2, rfl, (s0.trans s1).trans (Same.new hc2), (s0.trans s1).free hc2, upd_same⟩
    · rintro σ H4 ⟨cyc, rfl, s4, fcyc, hcyc⟩
      refine fun g hg => ?_
      have ncg : cyc ≠ g := ne_of_none hcyc hg
      have hg0 := s4.free hg
      have sg : Same H4 (upd H4 g (.dK [])) := Same.new hg
      refine ⟨_, rfl, t, _, 1, _, rfl, rfl, SqT.of (sg _ _ (s4 _ _ ht)), rfl, _, rfl, _, rfl, _, rfl, _, rfl, ?_⟩
      refine ⟨upd_same, [(Sum.inr "rule", V.str r.rule), (Sum.inr "n", .int n), (Sum.inr "modulus", .int (modF r.turn n)), (Sum.inr "room", .int room), (Sum.inr "cycle", .ref cyc)], rfl, (by show 5 ≤ 15; decide), ?_⟩
      have e5 : mergeK [] [(Sum.inr "rule", V.str r.rule), (Sum.inr "n", .int n), (Sum.inr "modulus", .int (modF r.turn n)), (Sum.inr "room", .int room), (Sum.inr "cycle", .ref cyc)] = gP 5 ⟨r.rule, n, modF r.turn n, at_⟩ ⟨room, b1, b2⟩ m cyc 0 0 0 := gp_5 ⟨r.rule, n, modF r.turn n, at_⟩ ⟨room, b1, b2⟩ m cyc 0 0 0
      rw [upd_upd, e5]
      generalize hqq : (⟨r.rule, n, modF r.turn n, at_⟩ : GP) = qq at q ⊢
      generalize hpp : (⟨room, b1, b2⟩ : Par) = pp at q ⊢
      have eb : V.bl (decide (V.str (tellS b1) = V.str "turn")) = V.bl pp.turn := by rw [eb1, ← hpp]
      have ea : V.int at_ = V.int qq.base := by rw [← hqq]
      have e6 : putK (gP 5 qq pp m cyc 0 0 0) (Sum.inr "turn") (V.bl (decide (V.str (tellS b1) = V.str "turn"))) = gP 6 qq pp m cyc 0 0 0 := by
        rw [eb]
        exact gp_6 qq pp m cyc 0 0 0
      refine ⟨_, rfl, rfl, _, rfl, g, _, rfl, dp upd_same (gP_few ..) e6, ?_⟩
      rw [upd_upd]
      -- the cells
      have hg5 : upd H4 g (.dK (gP 6 qq pp m cyc 0 0 0)) g = _ := upd_same
      have hc5 : upd H4 g (.dK (gP 6 qq pp m cyc 0 0 0)) cyc = some (.lst (cycV b2)) := by rw [upd_ne ncg]; exact hcyc
      have s5 : Same H4 (upd H4 g (.dK (gP 6 qq pp m cyc 0 0 0))) := Same.new hg
      generalize upd H4 g (.dK (gP 6 qq pp m cyc 0 0 0)) = H5 at hg5 hc5 s5 ⊢
      refine ⟨_, rfl, n, rfl, by omega, by omega, fun D hD => ?_⟩
      refine lc_range (lo := 0) (n := n.toNat) (fun i H' => Same H5 H' ∧ H' D = some (.lst ((List.replicate i (0 : Int)).map V.int))) ⟨Same.new hD, upd_same⟩ ?_ ?_
      · rintro i H' hi ⟨s1, hD1⟩
        refine ⟨rfl, ?_⟩
        walk_at "rd"
        refine if_t rfl ⟨_, hD1, ?_, ?_, ?_⟩
        · rw [List.length_map, List.length_replicate, sizeLine_eq]
          omega
        · intro b o e
          rw [upd_ne (ne_of_none e hD)]
          exact s1 b o e
        · rw [upd_same, List.replicate_succ', List.map_append]
          rfl
      · rintro H6 ⟨s6, hD6⟩
        have hg6 := s6 _ _ hg5
        have hc6 := s6 _ _ hc5
        have nDg : D ≠ g := (ne_of_none hg5 hD).symm
        have nDc : D ≠ cyc := (ne_of_none hc5 hD).symm
        have fD : H D = none := s4.free (s5.free hD)
        refine ⟨_, rfl, g, _, rfl, dp hg6 (gP_few ..) (gp_7 qq pp m cyc 0 0 0 D), ?_⟩
        have e8 : putK (gP 7 qq pp m cyc D 0 0) (Sum.inr "base") (V.int at_) = gP 8 qq pp m cyc D 0 0 := by
          rw [ea]
          exact gp_8 qq pp m cyc D 0 0
        refine ⟨_, rfl, _, rfl, g, _, rfl, dp upd_same (gP_few ..) e8, ?_⟩
        rw [upd_upd]
        have k7 : Keep [g] H6 (upd H6 g (.dK (gP 8 qq pp m cyc D 0 0))) := (Keep.refl H6).set (List.mem_singleton.mpr rfl)
        have hg7 : upd H6 g (.dK (gP 8 qq pp m cyc D 0 0)) g = _ := upd_same
        have fr7 : ∀ {b : Addr}, upd H6 g (.dK (gP 8 qq pp m cyc D 0 0)) b = none → H6 b = none := fun {b} hb => by
          rw [upd_ne (fun z => by rw [z, upd_same] at hb; cases hb)] at hb
          exact hb
        generalize upd H6 g (.dK (gP 8 qq pp m cyc D 0 0)) = H7 at k7 hg7 fr7 ⊢
        have hc7 := k7 _ _ hc6 (by simpa using ncg)
        have hD7 := k7 _ _ hD6 (by simpa using nDg)
        -- the hands
        refine ⟨_, rfl, (m : Int), rfl, by omega, by omega, fun D2 hD2 => ?_⟩
        rw [Int.toNat_natCast]
        refine lc_range (lo := 0) (n := m) (fun i H' => Same H7 H' ∧ ∃ as : List Addr, as.length = i ∧ H' D2 = some (.lst (as.map V.ref)) ∧ as.Nodup ∧ (∀ a, a ∈ as → H7 a = none ∧ a ≠ D2 ∧ H' a = some (.lst [.int 0, .int 0]))) ⟨Same.new hD2, [], rfl, upd_same, List.nodup_nil, fun a ha => by cases ha⟩ ?_ ?_
        · rintro i H' hi ⟨s8, as, hl, hA, nd, hall⟩
          refine ⟨rfl, ?_⟩
          walk_at "rd"
          refine if_t rfl ⟨(by show 2 ≤ sizeLine; decide), fun y hy => ⟨as.map V.ref, ?_, ?_, ?_⟩⟩
          · rw [upd_ne (ne_of_none hA hy)]
            exact hA
          · rw [List.length_map, hl, sizeLine_eq]
            omega
          · have fy : H7 y = none := s8.free hy
            have nyD : y ≠ D2 := (ne_of_none hA hy).symm
            refine ⟨fun b o e => ?_, as ++ [y], by rw [List.length_append, hl]; rfl, ?_, ?_, ?_⟩
            · rw [upd_ne (ne_of_none e hD2), upd_ne (ne_of_none e fy)]
              exact s8 b o e
            · rw [upd_same, List.map_append]
              rfl
            · refine List.nodup_append.mpr ⟨nd, by simp, fun a ha b hb => ?_⟩
              have e : b = y := by simpa using hb
              rw [e]
              exact ne_of_none (hall a ha).2.2 hy
            · intro a ha
              rcases List.mem_append.mp ha with ha | ha
              · obtain ⟨g1, g2, h6⟩ := hall a ha
                exact ⟨g1, g2, by rw [upd_ne g2, upd_ne (ne_of_none h6 hy)]; exact h6⟩
              · have e : a = y := by simpa using ha
                rw [e]
                exact ⟨fy, nyD, by rw [upd_ne nyD, upd_same]⟩
        · rintro H8 ⟨s8, as, hl, hA, nd, hall⟩
          have hg8 := s8 _ _ hg7
          have nAg : D2 ≠ g := (ne_of_none hg7 hD2).symm
          refine ⟨_, rfl, g, _, rfl, dp hg8 (gP_few ..) (gp_9 qq pp m cyc D 0 0 D2), ?_⟩
          refine ⟨_, rfl, g, _, rfl, dp upd_same (gP_few ..) (gp_10 qq pp m cyc D D2 0), ?_⟩
          rw [upd_upd]
          refine ⟨(by show 3 ≤ sizeLine; decide), fun lv hlv => ?_⟩
          have nlg : lv ≠ g := fun z => by
            rw [z, upd_same] at hlv
            cases hlv
          rw [upd_ne nlg] at hlv
          refine ⟨_, rfl, g, _, rfl, dp (by rw [upd_ne nlg.symm]; exact upd_same) (gP_few ..) (gp_11 qq pp m cyc D D2 0 lv), ?_⟩
          refine ⟨_, rfl, g, _, rfl, dp upd_same (gP_few ..) (gp_12 qq pp m cyc D D2 lv), ?_⟩
          refine ⟨_, rfl, g, _, rfl, dp upd_same (gP_few ..) (gp_13 qq pp m cyc D D2 lv), ?_⟩
          rw [upd_upd, upd_upd]
          have hc8 := s8 _ _ hc7
          have hD8 := s8 _ _ hD7
          have off : ∀ {b : Addr}, b ≠ g → b ≠ lv → upd (upd (upd H8 g (.dK (gP 10 qq pp m cyc D D2 0))) lv (.lst [.int 0, .int 0, .int 0])) g (.dK (gD qq pp (core0 m) cyc D D2 lv .non)) b = H8 b := fun {b} x1 x2 => by
            rw [upd_ne x1, upd_ne x2, upd_ne x1]
          have atg : upd (upd (upd H8 g (.dK (gP 10 qq pp m cyc D D2 0))) lv (.lst [.int 0, .int 0, .int 0])) g (.dK (gD qq pp (core0 m) cyc D D2 lv .non)) g = _ := upd_same
          have atl : upd (upd (upd H8 g (.dK (gP 10 qq pp m cyc D D2 0))) lv (.lst [.int 0, .int 0, .int 0])) g (.dK (gD qq pp (core0 m) cyc D D2 lv .non)) lv = some (.lst [.int 0, .int 0, .int 0]) := by
            rw [upd_ne nlg, upd_same]
          generalize upd (upd (upd H8 g (.dK (gP 10 qq pp m cyc D D2 0))) lv (.lst [.int 0, .int 0, .int 0])) g (.dK (gD qq pp (core0 m) cyc D D2 lv .non)) = H9 at off atg atl ⊢
          have f5 : ∀ {b : Addr}, H5 b = none → H b = none := fun z => s4.free (s5.free z)
          have f7 : ∀ {b : Addr}, H7 b = none → H b = none := fun z => f5 (s6.free (fr7 z))
          have flv : H lv = none := f7 (s8.free hlv)
          have fD2 : H D2 = none := f7 hD2
          have fas : ∀ a, a ∈ as → H a = none := fun a ha => f7 (hall a ha).1
          have up8 : ∀ b o, H b = some o → H8 b = some o := fun b o e => s8 b o (k7 b o (s6 b o (s5 b o (s4 b o e))) (by
            have : b ≠ g := ne_of_none e hg0
            simpa using this))
          refine ⟨_, rfl, q g cyc D D2 lv as H9 (fun b o e => ?_) ⟨⟨.non, atg, rfl⟩, ?_, ?_, ?_, atl, ?_, ?_, ?_⟩ ?_⟩
          · rw [off (ne_of_none e hg0) (ne_of_none e flv)]
            exact up8 b o e
          · rw [off ncg (ne_of_none hc8 hlv), ← hpp]
            exact hc8
          · rw [off nDg (ne_of_none hD8 hlv)]
            exact hD8
          · rw [off nAg (ne_of_none hA hlv)]
            exact hA
          · rw [hl]
            exact (List.length_replicate ..).symm
          · intro j a hj
            have ha := hall a (List.mem_of_getElem? hj)
            refine ⟨0, 0, ?_, ?_⟩
            · show (List.replicate m ((0 : Int), (0 : Int)))[j]? = _
              rw [List.getElem?_replicate, if_pos (by have := (List.getElem?_eq_some_iff.mp hj).1; omega)]
            · rw [off (fun z => by rw [z, hg7] at ha; exact nomatch ha.1) (ne_of_none ha.2.2 hlv)]
              exact ha.2.2
          · have nn : ∀ {b : Addr} {o : HO}, H7 b = some o → ∀ a, a ∈ as → b ≠ a := fun {b o} e a ha => ne_of_none e (hall a ha).1
            have nl : ∀ a, a ∈ as → lv ≠ a := fun a ha => (ne_of_none (hall a ha).2.2 hlv).symm
            refine List.nodup_cons.mpr ⟨?_, List.nodup_cons.mpr ⟨?_, List.nodup_cons.mpr ⟨?_, List.nodup_cons.mpr ⟨?_, List.nodup_cons.mpr ⟨?_, nd⟩⟩⟩⟩⟩
            · simp only [List.mem_cons, not_or]
              exact ⟨ncg.symm, nDg.symm, nAg.symm, nlg.symm, fun z => nn hg7 g z rfl⟩
            · simp only [List.mem_cons, not_or]
              exact ⟨nDc.symm, ne_of_none hc7 hD2, ne_of_none hc8 hlv, fun z => nn hc7 cyc z rfl⟩
            · simp only [List.mem_cons, not_or]
              exact ⟨ne_of_none hD7 hD2, ne_of_none hD8 hlv, fun z => nn hD7 D z rfl⟩
            · simp only [List.mem_cons, not_or]
              exact ⟨ne_of_none hA hlv, fun z => (hall D2 z).2.1 rfl⟩
            · exact fun z => nl lv z rfl
          · intro a ha
            simp only [List.mem_cons] at ha
            rcases ha with rfl | rfl | rfl | rfl | rfl | ha
            · exact hg0
            · exact fcyc
            · exact fD
            · exact fD2
            · exact flv
            · exact fas a ha
end
end RI

set_option maxHeartbeats 4000000
namespace RI
open PySem PySem.Spec PyProof.Rows L2
local macro_rules | `(tactic| walk_at "rd") => `(tactic| dsimp only [tVar, tC, t2I, tOp, tUn, rI, rI0, rU, tCmp, tB, tAnd, tOr, tNot, tAndV, tOrV, tNotV, tIf, tNext, tSeq, tDrop, tRet, tRetN, tIfS, gName, gNil, gCons, gTup, gSub, tAsg, tPar, tAug, ipI, iList, iTup, iRng1, iRng2, tTest, tChain, rEq, rNe, tFld, sFld, tNil, tCons, tTup, tLst, tCall, tMeth, tMake, tCB, tSl, tPart, tNoPart, tProp, tMakeK, tMakeN, rIxL, rIxT, rSetL, tBM, tBM0, rAppend, rCat, C8.tCut, tYes, tDGet, tDIn, sDPut, tDNewK])
/-! ### the law's steps -/
def cellF (q : GP) (j : Int) : Int := slotF q.rule q.n ((q.base + j - 1) % q.M)
section
variable {X : Cx} {o e : Expr} {es : List Expr} {to : TE} {t : TA} {name : Str} {apos cpos : Pos} {id : String} {r : V → List V → Hp → VK → Prop}
/-- a method of a tuple just displayed -/
def tBMT (r : V → List V → Hp → VK → Prop) (t0 t : TA) : TE := fun σ H Q => t0 σ H fun xs H1 => xs.length ≤ sizeLine ∧ ∀ p, H1 p = none → t σ (upd H1 p (.tup xs)) fun vs H2 => r (.ref p) vs H2 Q
theorem pe_bmT {es0 : List Expr} {x1 : Nat} {p0 : Pos} {t0 : TA} (pa : PlainAttrs "tuple") (slot : Slot "tuple" name id) (hty : typeOf (.builtin id) = pure (.type "method_descriptor")) (hm : MtR X id r) (h0 : PA X es0 t0) (ha : PA X (e :: es) t)
    (hbase : attributeBase (.Tuple es0 x1 p0) name X.env (eval (.Tuple es0 x1 p0) X.env) = eval (.Tuple es0 x1 p0) X.env := by rfl)
    (hfew : ((backTo cpos (starEach (e :: es) X.env)).all (fun x => !x.1) && (backToKw cpos (keywordEach [] X.env)).all (fun x => x.1.isSome)
      && decide ((e :: es).length + ([] : List Keyword).length + (if ([] : List Keyword).isEmpty then 0 else 1) < 30)) = true := by rfl)
    (hline : (apos.endLine == cpos.line) = true := by rfl) (hs : starEach (e :: es) X.env = (false, eval e X.env) :: starEach es X.env := by rfl) (hplain : (backTo cpos (starEach es X.env)).any (·.1) = false := by rfl) :
    PE X (.Call (.Attribute (.Tuple es0 x1 p0) name apos) (e :: es) [] cpos) (tBMT r t0 t) := by
  refine ⟨fun pins s σ H Q I h => ?_⟩
  refine wpAny_Call_method_late hbase hfew hline rfl (wpAny_Tuple_spliced (thn (h0.run p0 pins s σ H _ I h) fun us s1 ⟨xs, H1, I1, rx, z, q⟩ => ⟨by rw [← rx.length]; exact z, ?_⟩))
  have hf : H1 s1.heap.objs.size = none := I1.hok.fresh (Nat.le_refl _)
  have I2 : Inv X pins σ (upd H1 s1.heap.objs.size (.tup xs)) { s1 with heap := s1.heap.push { cls := .type "tuple", data := .seq us.toArray } } :=
    I1.laid (t' := s1.toks) (fun b u e => Heap.get?_push_of_some _ e) (Nat.le_refl _) (show ObjOk X.prog X.w _ _ _ (.tup xs) from ⟨z, us, rx, IsTup.new _ _⟩)
  have hg : (s1.heap.push { cls := .type "tuple", data := .seq us.toArray }).get? s1.heap.objs.size = some _ := Heap.get?_push_at rfl rfl
  refine ⟨"tuple", id, pa, slot, hty, ⟨_, hg, rfl⟩, (fun a ea => by cases ea; exact ⟨_, hg, rfl⟩), ?_⟩
  have hA := ha.run cpos pins _ σ _ _ I2 (q _ hf)
  rw [hs] at hA ⊢
  refine Calls.callWith_builtin (by show (false || (backTo cpos (starEach es X.env)).any (·.1)) = false; rw [hplain] <;> rfl) (Calls.evalArgs_plain ?_)
  exact thn hA fun us s2 ⟨vs, H2, I2, r2, q2⟩ => hm pins s2 σ H2 (.ref _) vs _ us Q I2 rfl r2 q2
end
def lawAct (q : GP) (p : Par) (c : Core) (cs : List Int) (k : Nat) (pl ow : Int) : Nm → Core × List Int
  | .number => ({ c with given := c.given + 1, sides := c.sides.set k (pl, c.given + 1), found := if c.given - c.gone = p.limit then some (c.made, "over", c.given + 1) else c.found }, cs)
  | .write => (c, cs.set (cellF q ow).toNat ow)
  | .tell => ({ c with told := c.told + 1 }, cs)
  | .test => (c, cs)
def lawWait (p : Par) (c : Core) (pl ow : Int) (nm : Nm) : Prop := (pl = 0 ∧ c.given - c.gone = p.limit) ∨ (nm = .tell ∧ p.turn = true ∧ c.told ≠ ow - 1)
def lawTake (q : GP) (c : Core) (cs : List Int) : Core :=
  if c.taker = 0 then (if c.gone = c.told then c else { c with taker := 1 })
  else if c.taker = 1 then { c with found := if cs[(cellF q (c.gone + 1)).toNat]? = some (c.gone + 1) then c.found else some (c.made, "read", c.gone + 1), taker := 2 }
  else { c with gone := c.gone + 1, taker := 0 }
section
variable {P : Program} {w : World} {K : PySem.W.Frag} {mg : Str → Option Value} {base : Heap}
def sp_law_cell_of : Sp := fun vs H Q _ => ∃ (g cyc cl hl lv : Addr) (hs : List Addr) (q : GP) (p : Par) (c : Core) (cs : List Int) (j : Int), vs = [.ref g, .int j] ∧ GameAt H g cyc cl hl lv hs q p c cs ∧ 0 < q.n ∧ 0 < q.M ∧ Q (.int (cellF q j)) H
theorem ok_law_cell_of (T : Txt K mg) : Glb P w K mg base 2 "_law_cell_of" p_law_cell_of sp_law_cell_of := by
  refine T.f_law_cell_of.ok sc_law_cell_of (fun vs H Q E h => ?_) (fun _ _ _ _ _ _ us hl => match us, hl with | [_, _], _ => rfl) fun cdv A outer s H vs Q E f hr h => ?_
  · obtain ⟨g, cyc, cl, hl, lv, hs, q, p, c, cs, j, rfl, _⟩ := h
    rfl
  · have hu := hu_of hr
    refine ⟨_, pss_one (ps_ret (pe_callG (ok_law_slot T) hr (pa_cons (pe_dget hu (pv 0) pe_str (fun _ _ => rfl)) (pa_cons (pe_dget hu (pv 0) pe_str (fun _ _ => rfl))
      (pa_cons (pe_op op_mod (pe_int1 T (pe_op op_sub (pe_op op_add (pe_dget hu (pv 0) pe_str (fun _ _ => rfl)) (pv 1)) pe_int)) (pe_dget hu (pv 0) pe_str (fun _ _ => rfl))) pa_nil))))), ?_⟩
    walk_at "rd"
    obtain ⟨g, cyc, cl, hl, lv, hs, q, p, c, cs, j, rfl, G, hn, hM, qq⟩ := h
    obtain ⟨bv, hg, hf⟩ := G.ob
    refine ⟨_, rfl, g, _, rfl, dg hg (gd_rule ..), _, rfl, g, _, rfl, dg hg (gd_n ..), _, rfl, g, _, rfl, dg hg (gd_base ..), _, rfl, _, _, rfl, rfl, _, _, rfl, rfl, .inl ⟨_, rfl, _, rfl, g, _, rfl, dg hg (gd_M ..), _, _, rfl, rfl, hM, q.rule, q.n, _, rfl, hn, qq⟩⟩
def sp_law_put_step : Sp := fun vs H Q _ => ∃ (g cyc cl hl lv : Addr) (hs : List Addr) (q : GP) (p : Par) (c : Core) (cs : List Int) (k : Nat) (pl ow : Int) (nm : Nm), vs = [.ref g, .int (k : Int)] ∧ GameAt H g cyc cl hl lv hs q p c cs ∧ 0 < q.n ∧ 0 < q.M ∧
  c.sides[k]? = some (pl, ow) ∧ 0 ≤ pl ∧ (cycN p.two)[pl.toNat]? = some nm ∧ (nm = .write → 0 ≤ cellF q ow ∧ cellF q ow < cs.length) ∧
  (lawWait p c pl ow nm → Q (.str nm.s) H) ∧
  (¬ lawWait p c pl ow nm → ∀ ow' H', (lawAct q p c cs k pl ow nm).1.sides[k]? = some (pl, ow') → Kp (g :: cl :: lv :: hs) H H' → GameAt H' g cyc cl hl lv hs q p { (lawAct q p c cs k pl ow nm).1 with sides := (lawAct q p c cs k pl ow nm).1.sides.set k ((pl + 1) % ((cycN p.two).length : Int), ow') } (lawAct q p c cs k pl ow nm).2 → Q (.str nm.s) H')
theorem ok_law_put_step (T : Txt K mg) : Glb P w K mg base 3 "_law_put_step" p_law_put_step sp_law_put_step := by
  refine T.f_law_put_step.ok sc_law_put_step (fun vs H Q E h => ?_) (fun _ _ _ _ _ _ us hl => match us, hl with | [_, _], _ => rfl) fun cdv A outer s H vs Q E f hr h => ?_
  · obtain ⟨g, cyc, cl, hl, lv, hs, q, p, c, cs, k, pl, ow, nm, rfl, _⟩ := h
    rfl
  · have hu := hu_of hr
    refine ⟨_, pss_cons (ps_set (i := 2) sc_law_put_step.nd rfl (Or.inl rfl) (pe_dget hu (pv 0) pe_str (fun _ _ => rfl)))
      (pss_cons (ps_set (i := 3) sc_law_put_step.nd rfl (Or.inl rfl) (pe_ix ix_list (pv 2) (pv 1) (fun _ _ => rfl)))
      (pss_cons (ps_set (i := 4) sc_law_put_step.nd rfl (Or.inl rfl) (pe_dget hu (pv 0) pe_str (fun _ _ => rfl)))
      (pss_cons (ps_set (i := 5) sc_law_put_step.nd rfl (Or.inl rfl) (pe_dget hu (pv 0) pe_str (fun _ _ => rfl)))
      (pss_cons (ps_set (i := 6) sc_law_put_step.nd rfl (Or.inl rfl) (pe_ix ix_list (pe_dget hu (pv 0) pe_str (fun _ _ => rfl)) (pe_ix ix_list (pv 3) pe_int (fun _ _ => rfl)) (fun _ _ => rfl)))
      (pss_cons (ps_set (i := 7) sc_law_put_step.nd rfl (Or.inl rfl) (pe_cmpR op_eq (pe_op op_sub (pe_ix ix_list (pv 4) pe_int (fun _ _ => rfl)) (pe_ix ix_list (pv 4) pe_int (fun _ _ => rfl))) (pe_dget hu (pv 0) pe_str (fun _ _ => rfl)) (nomark _)))
      (C8.pss_cut (ps_if (pw_or (pw_and (pt_cmpR op_eq (pe_ix ix_list (pv 3) pe_int (fun _ _ => rfl)) pe_int (nomark _)) (pw_and1 (pt_val (pv 7)))).pt
          (pw_or1 (pw_and (pt_cmpR op_eq (pv 6) pe_str (nomark _)) (pw_and (pt_val (pe_dget hu (pv 0) pe_str (fun _ _ => rfl))) (pw_and1 (pt_cmpR op_ne (pe_ix ix_list (pv 4) pe_int (fun _ _ => rfl)) (pe_op op_sub (pe_ix ix_list (pv 3) pe_int (fun _ _ => rfl)) pe_int) (nomark _))))).pt)).pt
        (pss_one (ps_ret (pv 6))) pss_nil)
      (C8.pss_cut (ps_if (pt_cmpR op_eq (pv 6) pe_str (nomark _))
        (pss_cons (ps_asg (pe_op op_add (pe_ix ix_list (pv 4) pe_int (fun _ _ => rfl)) pe_int) (pg_sub (pv 4) pe_int set_list)) (pss_cons (ps_asg (pe_ix ix_list (pv 4) pe_int (fun _ _ => rfl)) (pg_sub (pv 3) pe_int set_list))
        (pss_one (ps_if (pt_val (pv 7)) (pss_one (ps_dput hu (pv 0) pe_str (pe_tup (pa_cons (pe_dget hu (pv 0) pe_str (fun _ _ => rfl)) (pa_cons pe_str (pa_cons (pe_ix ix_list (pv 4) pe_int (fun _ _ => rfl)) pa_nil)))) rfl)) pss_nil)))) pss_nil)
      (C8.pss_cut (ps_if (pt_cmpR op_eq (pv 6) pe_str (nomark _)) (pss_one (ps_asg (pe_ix ix_list (pv 3) pe_int (fun _ _ => rfl)) (pg_sub (pv 5) (pe_callG (ok_law_cell_of T) hr (pa_cons (pv 0) (pa_cons (pe_ix ix_list (pv 3) pe_int (fun _ _ => rfl)) pa_nil))) set_list))) pss_nil)
      (C8.pss_cut (ps_if (pt_cmpR op_eq (pv 6) pe_str (nomark _)) (pss_one (ps_asg (pe_op op_add (pe_ix ix_list (pv 4) pe_int (fun _ _ => rfl)) pe_int) (pg_sub (pv 4) pe_int set_list))) pss_nil)
      (pss_cons (ps_asg (pe_op op_mod (pe_int1 T (pe_op op_add (pe_ix ix_list (pv 3) pe_int (fun _ _ => rfl)) pe_int)) (pe_len1 T (pe_dget hu (pv 0) pe_str (fun _ _ => rfl)))) (pg_sub (pv 3) pe_int set_list))
      (pss_one (ps_ret (pv 6))))))))))))), ?_⟩
    walk_at "rd"
    obtain ⟨g, cyc, cl, hl, lv, hs, q, p, c, cs, k, pl, ow, nm, rfl, G, hn, hM, hk, p0, hnm, hw, qw, qa⟩ := h
    have ap := G.ap
    obtain ⟨bv, hg, hf⟩ := G.ob
    have hks : k < hs.length := by
      rw [G.len]
      exact (List.getElem?_eq_some_iff.mp hk).1
    have hka : hs[k]? = some hs[k] := List.getElem?_eq_getElem hks
    generalize hs[k] = a at hka
    obtain ⟨pl', ow1, hk', ha⟩ := G.sd k a hka
    rw [hk] at hk'
    cases hk'
    have ma : a ∈ hs := List.mem_of_getElem? hka
    have mS : ∀ b, b = g ∨ b = cl ∨ b = lv ∨ b ∈ hs → b ∈ g :: cl :: lv :: hs := fun b h => by
      simp only [List.mem_cons]
      exact h
    have hcy : (cycV p.two)[pl.toNat]? = some (.str nm.s) := by
      show ((cycN p.two).map fun m => V.str m.s)[pl.toNat]? = _
      rw [List.getElem?_map, hnm]
      rfl
    have epl : pl = ((pl.toNat : Nat) : Int) := by omega
    have hpos : 0 < ((cycN p.two).length : Int) := by cases p.two <;> decide
    have hcl : ((cycV p.two).length : Int) = ((cycN p.two).length : Int) := by
      show (((cycN p.two).map fun m => V.str m.s).length : Int) = _
      rw [List.length_map]
    refine ⟨_, rfl, g, _, rfl, dg hg (gd_hands ..), ?_⟩
    refine ⟨_, rfl, _, rfl, hl, _, (k : Int), .ref a, rfl, rfl, SqL.of G.ha, atI_nat (j := k) (by rw [List.getElem?_map, hka]; rfl), ?_⟩
    refine ⟨_, rfl, g, _, rfl, dg hg (gd_levels ..), _, rfl, g, _, rfl, dg hg (gd_cells ..), ?_⟩
    refine ⟨_, rfl, g, _, rfl, dg hg (gd_cycle ..), _, rfl, a, _, 0, _, rfl, rfl, SqL.of ha, rfl, cyc, _, pl, .str nm.s, rfl, rfl, SqL.of G.cy, (by rw [epl]; exact atI_nat (j := pl.toNat) hcy), ?_⟩
    refine ⟨_, rfl, lv, _, 2, _, rfl, rfl, SqL.of G.le, rfl, _, rfl, lv, _, 0, _, rfl, rfl, SqL.of G.le, rfl, _, _, rfl, rfl, _, rfl, g, _, rfl, dg hg (gd_room ..), rfl, ?_⟩
    refine ⟨fun σ H' => σ = [some (.ref g), some (.int (k : Int)), some (.ref hl), some (.ref a), some (.ref lv), some (.ref cl), some (.str nm.s), some (.bl (decide (V.int (c.given - c.gone) = V.int p.limit)))] ∧ H' = H ∧ ¬ lawWait p c pl ow nm, ?_, ?_⟩
    · refine ⟨_, rfl, a, _, 0, _, rfl, rfl, SqL.of ha, rfl, rfl, _, rfl, ?_⟩
      rw [dec_vi, dec_vi]
      by_cases h1 : pl = 0
      · refine if_t (decide_eq_true h1) ⟨_, rfl, _, rfl, ?_⟩
        by_cases h2 : c.given - c.gone = p.limit
        · exact if_t (decide_eq_true h2) (if_t rfl ⟨_, rfl, qw (.inl ⟨h1, h2⟩)⟩)
        · refine if_f (decide_eq_false h2) ?_
          have N1 : ¬ (pl = 0 ∧ c.given - c.gone = p.limit) := fun z => h2 z.2
          refine ⟨_, rfl, rfl, _, rfl, ?_⟩
          rw [nm_tell]
          by_cases h3 : nm = .tell
          · refine if_t (decide_eq_true h3) ⟨_, rfl, g, _, rfl, dg hg (gd_turn ..), _, rfl, ?_⟩
            by_cases h4 : p.turn = true
            · refine if_t h4 ⟨_, rfl, lv, _, 1, _, rfl, rfl, SqL.of G.le, rfl, _, rfl, a, _, 1, _, rfl, rfl, SqL.of ha, rfl, _, _, rfl, rfl, rfl, _, rfl, ?_⟩
              rw [dec_vi]
              by_cases h5 : c.told = ow - 1
              · refine if_f (by rw [decide_eq_true h5]; rfl) ⟨rfl, rfl, fun z => ?_⟩
                rcases z with z | z
                · exact N1 z
                · exact z.2.2 h5
              · exact if_t (by rw [decide_eq_false h5]; rfl) ⟨_, rfl, qw (.inr ⟨h3, h4, h5⟩)⟩
            · refine if_f (Bool.eq_false_iff.mpr h4) (if_f rfl ⟨rfl, rfl, fun z => ?_⟩)
              rcases z with z | z
              · exact N1 z
              · exact h4 z.2.1
          · refine if_f (decide_eq_false h3) (if_f rfl ⟨rfl, rfl, fun z => ?_⟩)
            rcases z with z | z
            · exact N1 z
            · exact h3 z.1
      · refine if_f (decide_eq_false h1) ?_
        have N1 : ¬ (pl = 0 ∧ c.given - c.gone = p.limit) := fun z => h1 z.1
        refine ⟨_, rfl, rfl, _, rfl, ?_⟩
        rw [nm_tell]
        by_cases h3 : nm = .tell
        · refine if_t (decide_eq_true h3) ⟨_, rfl, g, _, rfl, dg hg (gd_turn ..), _, rfl, ?_⟩
          by_cases h4 : p.turn = true
          · refine if_t h4 ⟨_, rfl, lv, _, 1, _, rfl, rfl, SqL.of G.le, rfl, _, rfl, a, _, 1, _, rfl, rfl, SqL.of ha, rfl, _, _, rfl, rfl, rfl, _, rfl, ?_⟩
            rw [dec_vi]
            by_cases h5 : c.told = ow - 1
            · refine if_f (by rw [decide_eq_true h5]; rfl) ⟨rfl, rfl, fun z => ?_⟩
              rcases z with z | z
              · exact N1 z
              · exact z.2.2 h5
            · exact if_t (by rw [decide_eq_false h5]; rfl) ⟨_, rfl, qw (.inr ⟨h3, h4, h5⟩)⟩
          · refine if_f (Bool.eq_false_iff.mpr h4) (if_f rfl ⟨rfl, rfl, fun z => ?_⟩)
            rcases z with z | z
            · exact N1 z
            · exact h4 z.2.1
        · refine if_f (decide_eq_false h3) (if_f rfl ⟨rfl, rfl, fun z => ?_⟩)
          rcases z with z | z
          · exact N1 z
          · exact h3 z.1
    · rintro σ H' ⟨rfl, rfl, hW⟩
      have qa := qa hW
      refine ⟨fun σ H1 => σ = [some (.ref g), some (.int (k : Int)), some (.ref hl), some (.ref a), some (.ref lv), some (.ref cl), some (.str nm.s), some (.bl (decide (V.int (c.given - c.gone) = V.int p.limit)))] ∧ Kp (g :: cl :: lv :: hs) H' H1 ∧ GameAt H1 g cyc cl hl lv hs q p (if nm = .number then (lawAct q p c cs k pl ow .number).1 else c) cs, ?_, ?_⟩
      · refine ⟨_, rfl, rfl, _, rfl, ?_⟩
        rw [nm_number]
        refine if_d (fun hm => ?_) (fun hm => ?_)
        · rw [if_pos hm]
          refine ⟨_, rfl, lv, _, 2, _, rfl, rfl, SqL.of G.le, rfl, _, _, rfl, rfl, _, rfl, lv, _, 2, 2, rfl, rfl, G.le, rfl, ?_⟩
          have K1 : Kp (g :: cl :: lv :: hs) H' (upd H' lv (.lst ([V.int c.gone, .int c.told, .int c.given].set 2 (.int (c.given + 1))))) := Kp.set (mS _ (by simp)) G.le (fun xs z => nomatch z)
          have G1 : GameAt (upd H' lv (.lst ([V.int c.gone, .int c.told, .int c.given].set 2 (.int (c.given + 1))))) g cyc cl hl lv hs q p { c with given := c.given + 1 } cs := G.setL
          generalize upd H' lv (.lst ([V.int c.gone, .int c.told, .int c.given].set 2 (.int (c.given + 1)))) = H1 at K1 G1 ⊢
          obtain ⟨pl1, ow1, e1, ha1⟩ := G1.sd k a hka
          have e1' : c.sides[k]? = some (pl1, ow1) := e1
          rw [hk] at e1'
          cases e1'
          refine ⟨_, rfl, lv, _, 2, _, rfl, rfl, SqL.of G1.le, rfl, _, rfl, a, _, 1, 1, rfl, rfl, ha1, rfl, ?_⟩
          have K2 := K1.trans (Kp.set (o := .lst ([V.int pl, .int ow].set 1 (.int (c.given + 1)))) (mS a (by simp [ma])) ha1 (fun xs z => nomatch z))
          have G2 : GameAt (upd H1 a (.lst ([V.int pl, .int ow].set 1 (.int (c.given + 1))))) g cyc cl hl lv hs q p { c with given := c.given + 1, sides := c.sides.set k (pl, c.given + 1) } cs := G1.setH hka
          generalize upd H1 a (.lst ([V.int pl, .int ow].set 1 (.int (c.given + 1)))) = H2 at K2 G2 ⊢
          obtain ⟨bv2, hg2, hf2⟩ := G2.ob
          refine ⟨_, rfl, _, rfl, ?_⟩
          rw [dec_vi]
          refine if_d (fun hb => ?_) (fun hb => ?_)
          · refine ⟨_, rfl, g, _, rfl, dg hg2 (gd_steps ..), _, rfl, lv, _, 2, _, rfl, rfl, SqL.of G2.le, rfl, (by show 3 ≤ sizeLine; decide), fun t ht => ?_⟩
            have G3 := G2.new (o := .tup [.int c.made, .str "over", .int (c.given + 1)]) ht
            have K3 := K2.trans (Kp.new (o := .tup [.int c.made, .str "over", .int (c.given + 1)]) ht)
            obtain ⟨bv3, hg3, hf3⟩ := G3.ob
            refine ⟨_, rfl, g, _, rfl, dp hg3 (gd_few ..) (gp_broken ..), rfl, K3.trans (Kp.set (mS _ (by simp)) hg3 (fun xs z => nomatch z)), ?_⟩
            refine G3.setG (c' := (lawAct q p c cs k pl ow .number).1) rfl rfl rfl rfl ?_
            show FoundAt _ _ (if c.given - c.gone = p.limit then some (c.made, "over", c.given + 1) else c.found)
            rw [if_pos hb]
            exact ⟨t, rfl, upd_same⟩
          · refine ⟨rfl, K2, ?_⟩
            have e : (lawAct q p c cs k pl ow .number).1 = { c with given := c.given + 1, sides := c.sides.set k (pl, c.given + 1) } := by
              show ({ c with given := c.given + 1, sides := c.sides.set k (pl, c.given + 1), found := if c.given - c.gone = p.limit then some (c.made, "over", c.given + 1) else c.found } : Core) = _
              rw [if_neg hb]
            rw [e]
            exact G2
        · rw [if_neg hm]
          exact ⟨rfl, Kp.refl _, G⟩
      · rintro σ H1 ⟨rfl, k1, G1⟩
        refine ⟨fun σ H2 => σ = [some (.ref g), some (.int (k : Int)), some (.ref hl), some (.ref a), some (.ref lv), some (.ref cl), some (.str nm.s), some (.bl (decide (V.int (c.given - c.gone) = V.int p.limit)))] ∧ Kp (g :: cl :: lv :: hs) H' H2 ∧ GameAt H2 g cyc cl hl lv hs q p (if nm = .number then (lawAct q p c cs k pl ow .number).1 else c) (if nm = .write then cs.set (cellF q ow).toNat ow else cs), ?_, ?_⟩
        · refine ⟨_, rfl, rfl, _, rfl, ?_⟩
          rw [nm_write]
          refine if_d (fun hm => ?_) (fun hm => ?_)
          · rw [if_pos hm]
            have G1' : GameAt H1 g cyc cl hl lv hs q p c cs := by
              have e : (if nm = .number then (lawAct q p c cs k pl ow .number).1 else c) = c := by rw [if_neg (by rw [hm]; exact fun z => nomatch z)]
              rw [e] at G1
              exact G1
            obtain ⟨pl1, ow1, e1, ha1⟩ := G1'.sd k a hka
            rw [hk] at e1
            cases e1
            obtain ⟨w0, w1⟩ := hw hm
            have ec : cellF q ow = (((cellF q ow).toNat : Nat) : Int) := by omega
            refine ⟨_, rfl, a, _, 1, _, rfl, rfl, SqL.of ha1, rfl, _, rfl, _, rfl, _, rfl, a, _, 1, _, rfl, rfl, SqL.of ha1, rfl, g, cyc, cl, hl, lv, hs, q, p, c, cs, ow, rfl, G1', hn, hM, cl, _, cellF q ow, (cellF q ow).toNat, rfl, rfl, G1'.ce, ?_, rfl, ?_, ?_⟩
            · rw [List.length_map]
              unfold ixN
              rw [if_pos w0, if_pos w1]
            · exact k1.trans (Kp.set (mS _ (by simp)) G1'.ce (fun xs z => nomatch z))
            · have e2 : (cs.map V.int).set (cellF q ow).toNat (.int ow) = (cs.set (cellF q ow).toNat ow).map V.int := (List.map_set ..).symm
              have e : (if nm = .number then (lawAct q p c cs k pl ow .number).1 else c) = c := by rw [if_neg (by rw [hm]; exact fun z => nomatch z)]
              rw [e2, e]
              exact G1'.setC
          · rw [if_neg hm]
            exact ⟨rfl, k1, G1⟩
        · rintro σ H2 ⟨rfl, k2, G2⟩
          refine ⟨fun σ H3 => σ = [some (.ref g), some (.int (k : Int)), some (.ref hl), some (.ref a), some (.ref lv), some (.ref cl), some (.str nm.s), some (.bl (decide (V.int (c.given - c.gone) = V.int p.limit)))] ∧ Kp (g :: cl :: lv :: hs) H' H3 ∧ GameAt H3 g cyc cl hl lv hs q p (lawAct q p c cs k pl ow nm).1 (lawAct q p c cs k pl ow nm).2, ?_, ?_⟩
          · refine ⟨_, rfl, rfl, _, rfl, ?_⟩
            rw [nm_tell]
            refine if_d (fun hm => ?_) (fun hm => ?_)
            · subst hm
              have G2' : GameAt H2 g cyc cl hl lv hs q p c cs := G2
              refine ⟨_, rfl, lv, _, 1, _, rfl, rfl, SqL.of G2'.le, rfl, _, _, rfl, rfl, _, rfl, lv, _, 1, 1, rfl, rfl, G2'.le, rfl, rfl, ?_, ?_⟩
              · exact k2.trans (Kp.set (mS _ (by simp)) G2'.le (fun xs z => nomatch z))
              · exact G2'.setL
            · refine ⟨rfl, k2, ?_⟩
              cases nm with
              | tell => exact absurd rfl hm
              | number => exact G2
              | write => exact G2
              | test => exact G2
          · rintro σ H3 ⟨rfl, k3, G3⟩
            obtain ⟨pl3, ow3, e3, ha3⟩ := G3.sd k a hka
            have hpl : pl3 = pl := by
              cases nm with
              | number =>
                have z : (c.sides.set k (pl, c.given + 1))[k]? = some (pl3, ow3) := e3
                rw [List.getElem?_set_self (List.getElem?_eq_some_iff.mp hk).1] at z
                cases z
                rfl
              | write =>
                have z : c.sides[k]? = some (pl3, ow3) := e3
                rw [hk] at z
                cases z
                rfl
              | tell =>
                have z : c.sides[k]? = some (pl3, ow3) := e3
                rw [hk] at z
                cases z
                rfl
              | test =>
                have z : c.sides[k]? = some (pl3, ow3) := e3
                rw [hk] at z
                cases z
                rfl
            subst hpl
            obtain ⟨bv3, hg3, hf3⟩ := G3.ob
            refine ⟨_, rfl, a, _, 0, _, rfl, rfl, SqL.of ha3, rfl, _, _, rfl, rfl, .inl ⟨_, rfl, _, rfl, g, _, rfl, dg hg3 (gd_cycle ..), cyc, _, rfl, .inl (SqL.of G3.cy), _, _, rfl, rfl, (by rw [hcl]; exact hpos), _, rfl, a, _, 0, 0, rfl, rfl, ha3, rfl, _, rfl, ?_⟩⟩
            refine qa ow3 _ e3 (k3.trans (Kp.set (mS a (by simp [ma])) ha3 (fun xs z => nomatch z))) ?_
            rw [hcl]
            exact G3.setH hka
end
end RI

set_option maxHeartbeats 4000000
namespace RI
open PySem PySem.Spec PyProof.Rows L2
local macro_rules | `(tactic| walk_at "rd") => `(tactic| dsimp only [tVar, tC, t2I, tOp, tUn, rI, rI0, rU, tCmp, tB, tAnd, tOr, tNot, tAndV, tOrV, tNotV, tIf, tNext, tSeq, tDrop, tRet, tRetN, tIfS, gName, gNil, gCons, gTup, gSub, tAsg, tPar, tAug, ipI, iList, iTup, iRng1, iRng2, tTest, tChain, rEq, rNe, tFld, sFld, tNil, tCons, tTup, tLst, tCall, tMeth, tMake, tCB, tSl, tPart, tNoPart, tProp, tMakeK, tMakeN, rIxL, rIxT, rSetL, tBM, tBM0, rAppend, rCat, C8.tCut, tYes, tDGet, tDIn, sDPut, tDNewK])
section
variable {P : Program} {w : World} {K : PySem.W.Frag} {mg : Str → Option Value} {base : Heap}
def sp_law_take_step : Sp := fun vs H Q _ => ∃ (g cyc cl hl lv : Addr) (hs : List Addr) (q : GP) (p : Par) (c : Core) (cs : List Int), vs = [.ref g] ∧ GameAt H g cyc cl hl lv hs q p c cs ∧ 0 < q.n ∧ 0 < q.M ∧ (c.taker = 0 ∨ c.taker = 1 ∨ c.taker = 2) ∧
  (c.taker = 1 → 0 ≤ cellF q (c.gone + 1) ∧ cellF q (c.gone + 1) < cs.length) ∧
  ∀ H', Kp (g :: cl :: lv :: hs) H H' → GameAt H' g cyc cl hl lv hs q p (lawTake q c cs) cs → Q (.str (tName c.taker)) H'
theorem ok_law_take_step (T : Txt K mg) : Glb P w K mg base 3 "_law_take_step" p_law_take_step sp_law_take_step := by
  refine T.f_law_take_step.ok sc_law_take_step (fun vs H Q E h => ?_) (fun _ _ _ _ _ _ us hl => match us, hl with | [_], _ => rfl) fun cdv A outer s H vs Q E f hr h => ?_
  · obtain ⟨g, cyc, cl, hl, lv, hs, q, p, c, cs, rfl, _⟩ := h
    rfl
  · have hu := hu_of hr
    refine ⟨_, pss_cons (ps_set (i := 1) sc_law_take_step.nd rfl (Or.inl rfl) (pe_dget hu (pv 0) pe_str (fun _ _ => rfl)))
      (pss_cons (ps_set (i := 2) sc_law_take_step.nd rfl (Or.inl rfl) (pe_dget hu (pv 0) pe_str (fun _ _ => rfl)))
      (pss_cons (ps_set (i := 3) sc_law_take_step.nd rfl (Or.inl rfl) (pe_dget hu (pv 0) pe_str (fun _ _ => rfl)))
      (pss_cons (ps_if (pw_and (pt_cmpR op_eq (pv 3) pe_int (nomark _)) (pw_and1 (pt_cmpR op_eq (pe_ix ix_list (pv 1) pe_int (fun _ _ => rfl)) (pe_ix ix_list (pv 1) pe_int (fun _ _ => rfl)) (nomark _)))).pt (pss_one (ps_ret pe_str)) pss_nil)
      (pss_cons (ps_if (pw_and (pt_cmpR op_eq (pv 3) pe_int (nomark _)) (pw_and1 (pt_cmpR op_ne (pe_ix ix_list (pv 2) (pe_callG (ok_law_cell_of T) hr (pa_cons (pv 0) (pa_cons (pe_op op_add (pe_ix ix_list (pv 1) pe_int (fun _ _ => rfl)) pe_int) pa_nil))) (fun _ _ => rfl)) (pe_op op_add (pe_ix ix_list (pv 1) pe_int (fun _ _ => rfl)) pe_int) (nomark _)))).pt
        (pss_one (ps_dput hu (pv 0) pe_str (pe_tup (pa_cons (pe_dget hu (pv 0) pe_str (fun _ _ => rfl)) (pa_cons pe_str (pa_cons (pe_op op_add (pe_ix ix_list (pv 1) pe_int (fun _ _ => rfl)) pe_int) pa_nil)))) rfl)) pss_nil)
      (pss_cons (ps_if (pt_cmpR op_eq (pv 3) pe_int (nomark _)) (pss_one (ps_asg (pe_op op_add (pe_ix ix_list (pv 1) pe_int (fun _ _ => rfl)) pe_int) (pg_sub (pv 1) pe_int set_list))) pss_nil)
      (pss_cons (ps_dput hu (pv 0) pe_str (pe_op op_mod (pe_int1 T (pe_op op_add (pv 3) pe_int)) pe_int) rfl)
      (pss_one (ps_ret (pe_ix ix_tup (pe_tup (pa_cons pe_str (pa_cons pe_str (pa_cons pe_str pa_nil)))) (pv 3) (fun _ _ => rfl)))))))))), ?_⟩
    walk_at "rd"
    obtain ⟨g, cyc, cl, hl, lv, hs, q, p, c, cs, rfl, G, hn, hM, ht, hw, qq⟩ := h
    obtain ⟨bv, hg, hf⟩ := G.ob
    have mg' : g ∈ g :: cl :: lv :: hs := by simp
    have ml' : lv ∈ g :: cl :: lv :: hs := by simp
    refine ⟨_, rfl, g, _, rfl, dg hg (gd_levels ..), _, rfl, g, _, rfl, dg hg (gd_cells ..), _, rfl, g, _, rfl, dg hg (gd_taker ..), ?_⟩
    rcases ht with ht | ht | ht
    · rw [ht] at qq
      rw [ht]
      refine ⟨_, rfl, rfl, _, rfl, if_t (by decide +kernel) ?_⟩
      refine ⟨_, rfl, lv, _, 0, _, rfl, rfl, SqL.of G.le, rfl, _, rfl, lv, _, 1, _, rfl, rfl, SqL.of G.le, rfl, rfl, _, rfl, ?_⟩
      rw [dec_vi]
      have e : lawTake q c cs = if c.gone = c.told then c else { c with taker := 1 } := if_pos ht
      rw [e] at qq
      refine if_d (fun h1 => ?_) (fun h1 => ?_)
      · rw [if_pos h1] at qq
        exact qq H (Kp.refl H) G
      · rw [if_neg h1] at qq
        refine ⟨_, rfl, rfl, _, rfl, if_f (by decide +kernel) ?_⟩
        refine ⟨_, rfl, rfl, _, rfl, if_f (by decide +kernel) ?_⟩
        refine ⟨_, rfl, _, _, rfl, rfl, .inl ⟨_, rfl, _, _, rfl, rfl, by decide, _, rfl, g, _, rfl, dp hg (gd_few ..) (gp_taker ..), ?_⟩⟩
        refine ⟨(by show 3 ≤ sizeLine; decide), fun t ht2 => ⟨_, rfl, t, _, 0, _, rfl, rfl, SqT.of upd_same, rfl, ?_⟩⟩
        have G1 := G.setG (bv := bv) (c' := { c with taker := (0 + 1) % 3 }) rfl rfl rfl rfl hf
        exact qq _ ((Kp.set mg' hg (fun xs z => nomatch z)).trans (Kp.new ht2)) (G1.new ht2)
    · rw [ht] at qq
      rw [ht]
      obtain ⟨w0, w1⟩ := hw ht
      have e : lawTake q c cs = { c with found := if cs[(cellF q (c.gone + 1)).toNat]? = some (c.gone + 1) then c.found else some (c.made, "read", c.gone + 1), taker := 2 } := by
        unfold lawTake
        rw [if_neg (by rw [ht]; decide), if_pos ht]
      rw [e] at qq
      have wl : (cellF q (c.gone + 1)).toNat < cs.length := by omega
      have hcs : cs[(cellF q (c.gone + 1)).toNat]? = some cs[(cellF q (c.gone + 1)).toNat] := List.getElem?_eq_getElem wl
      generalize cs[(cellF q (c.gone + 1)).toNat] = z at hcs
      refine ⟨_, rfl, rfl, _, rfl, if_f (by decide +kernel) ?_⟩
      refine ⟨_, rfl, rfl, _, rfl, if_t (by decide +kernel) ?_⟩
      refine ⟨_, rfl, _, rfl, _, rfl, lv, _, 0, _, rfl, rfl, SqL.of G.le, rfl, _, _, rfl, rfl, g, cyc, cl, hl, lv, hs, q, p, c, cs, _, rfl, G, hn, hM, cl, _, cellF q (c.gone + 1), .int z, rfl, rfl, SqL.of G.ce, ?_, ?_⟩
      · have e3 : cellF q (c.gone + 1) = (((cellF q (c.gone + 1)).toNat : Nat) : Int) := by omega
        rw [e3]
        exact atI_nat (by rw [List.getElem?_map, hcs]; rfl)
      refine ⟨_, rfl, lv, _, 0, _, rfl, rfl, SqL.of G.le, rfl, _, _, rfl, rfl, rfl, _, rfl, ?_⟩
      rw [dec_vi]
      by_cases h1 : z = c.gone + 1
      · rw [hcs, if_pos (by rw [h1])] at qq
        refine if_f (by rw [decide_eq_true h1]; rfl) ?_
        refine ⟨_, rfl, rfl, _, rfl, if_f (by decide +kernel) ?_⟩
        refine ⟨_, rfl, _, _, rfl, rfl, .inl ⟨_, rfl, _, _, rfl, rfl, by decide, _, rfl, g, _, rfl, dp hg (gd_few ..) (gp_taker ..), ?_⟩⟩
        refine ⟨(by show 3 ≤ sizeLine; decide), fun t ht2 => ⟨_, rfl, t, _, 1, _, rfl, rfl, SqT.of upd_same, rfl, ?_⟩⟩
        have G1 := G.setG (bv := bv) (c' := { c with taker := (1 + 1) % 3 }) rfl rfl rfl rfl hf
        exact qq _ ((Kp.set mg' hg (fun xs z => nomatch z)).trans (Kp.new ht2)) (G1.new ht2)
      · rw [hcs, if_neg (fun y => h1 (Option.some.inj y))] at qq
        refine if_t (by rw [decide_eq_false h1]; rfl) ?_
        refine ⟨_, rfl, g, _, rfl, dg hg (gd_steps ..), _, rfl, lv, _, 0, _, rfl, rfl, SqL.of G.le, rfl, _, _, rfl, rfl, (by show 3 ≤ sizeLine; decide), fun t ht0 => ?_⟩
        have G2 := G.new (o := .tup [.int c.made, .str "read", .int (c.gone + 1)]) ht0
        have K2 : Kp (g :: cl :: lv :: hs) H _ := Kp.new (o := .tup [.int c.made, .str "read", .int (c.gone + 1)]) ht0
        have htt : upd H t (.tup [.int c.made, .str "read", .int (c.gone + 1)]) t = _ := upd_same
        generalize upd H t (.tup [.int c.made, .str "read", .int (c.gone + 1)]) = H2 at G2 K2 htt ⊢
        obtain ⟨bv2, hg2, hf2⟩ := G2.ob
        refine ⟨_, rfl, g, _, rfl, dp hg2 (gd_few ..) (gp_broken ..), ?_⟩
        refine ⟨_, rfl, rfl, _, rfl, if_f (by decide +kernel) ?_⟩
        refine ⟨_, rfl, _, _, rfl, rfl, .inl ⟨_, rfl, _, _, rfl, rfl, by decide, _, rfl, g, _, rfl, dp upd_same (gd_few ..) (gp_taker ..), ?_⟩⟩
        rw [upd_upd]
        refine ⟨(by show 3 ≤ sizeLine; decide), fun t2 ht2 => ⟨_, rfl, t2, _, 1, _, rfl, rfl, SqT.of upd_same, rfl, ?_⟩⟩
        have G3 := G2.setG (bv := .ref t) (c' := { c with found := some (c.made, "read", c.gone + 1), taker := (1 + 1) % 3 }) rfl rfl rfl rfl ⟨t, rfl, htt⟩
        exact qq _ ((K2.trans (Kp.set mg' hg2 (fun xs z => nomatch z))).trans (Kp.new ht2)) (G3.new ht2)
    · rw [ht] at qq
      rw [ht]
      have e : lawTake q c cs = { c with gone := c.gone + 1, taker := 0 } := by
        unfold lawTake
        rw [if_neg (by rw [ht]; decide), if_neg (by rw [ht]; decide)]
      rw [e] at qq
      refine ⟨_, rfl, rfl, _, rfl, if_f (by decide +kernel) ?_⟩
      refine ⟨_, rfl, rfl, _, rfl, if_f (by decide +kernel) ?_⟩
      refine ⟨_, rfl, rfl, _, rfl, if_t (by decide +kernel) ?_⟩
      refine ⟨_, rfl, lv, _, 0, _, rfl, rfl, SqL.of G.le, rfl, _, _, rfl, rfl, _, rfl, lv, _, 0, 0, rfl, rfl, G.le, rfl, ?_⟩
      have K1 : Kp (g :: cl :: lv :: hs) H (upd H lv (.lst ([V.int c.gone, .int c.told, .int c.given].set 0 (.int (c.gone + 1))))) := Kp.set ml' G.le (fun xs z => nomatch z)
      have G1 : GameAt (upd H lv (.lst ([V.int c.gone, .int c.told, .int c.given].set 0 (.int (c.gone + 1))))) g cyc cl hl lv hs q p { c with gone := c.gone + 1 } cs := G.setL
      generalize upd H lv (.lst ([V.int c.gone, .int c.told, .int c.given].set 0 (.int (c.gone + 1)))) = H1 at K1 G1 ⊢
      obtain ⟨bv1, hg1, hf1⟩ := G1.ob
      refine ⟨_, rfl, _, _, rfl, rfl, .inl ⟨_, rfl, _, _, rfl, rfl, by decide, _, rfl, g, _, rfl, dp hg1 (gd_few ..) (gp_taker ..), ?_⟩⟩
      refine ⟨(by show 3 ≤ sizeLine; decide), fun t ht2 => ⟨_, rfl, t, _, 2, _, rfl, rfl, SqT.of upd_same, rfl, ?_⟩⟩
      have G2 := G1.setG (bv := bv1) (c' := { c with gone := c.gone + 1, taker := (2 + 1) % 3 }) rfl rfl rfl rfl hf1
      exact qq _ ((K1.trans (Kp.set mg' hg1 (fun xs z => nomatch z))).trans (Kp.new ht2)) (G2.new ht2)
end
end RI

set_option maxHeartbeats 4000000
namespace RI
open PySem PySem.Spec PyProof.Rows L2
local macro_rules | `(tactic| walk_at "rd") => `(tactic| dsimp only [tVar, tC, t2I, tOp, tUn, rI, rI0, rU, tCmp, tB, tAnd, tOr, tNot, tAndV, tOrV, tNotV, tIf, tNext, tSeq, tDrop, tRet, tRetN, tIfS, gName, gNil, gCons, gTup, gSub, tAsg, tPar, tAug, ipI, iList, iTup, iRng1, iRng2, tTest, tChain, rEq, rNe, tFld, sFld, tNil, tCons, tTup, tLst, tCall, tMeth, tMake, tCB, tSl, tPart, tNoPart, tProp, tMakeK, tMakeN, rIxL, rIxT, rSetL, tBM, tBM0, rAppend, rCat, C8.tCut, tYes, tDGet, tDIn, sDPut, tDNewK])
instance lawWait_dec (p : Par) (c : Core) (pl ow : Int) (nm : Nm) : Decidable (lawWait p c pl ow nm) := by
  unfold lawWait
  exact inferInstance
def lawStep (q : GP) (p : Par) (c : Core) (cs : List Int) (h : Nat) : Core × List Int × Option Str :=
  if c.found.isSome then (c, cs, none) else
  match h with
  | 0 => (lawTake q { c with made := c.made + 1 } cs, cs, some (tName c.taker))
  | k + 1 => match c.sides[k]? with
    | none => (c, cs, none)
    | some (pl, ow) => match (cycN p.two)[pl.toNat]? with
      | none => (c, cs, none)
      | some nm =>
        if lawWait p { c with made := c.made + 1 } pl ow nm then ({ c with made := c.made + 1 }, cs, some nm.s)
        else
          let r := lawAct q p { c with made := c.made + 1 } cs k pl ow nm
          ({ r.1 with sides := r.1.sides.set k ((pl + 1) % ((cycN p.two).length : Int), ((r.1.sides[k]?).getD (0, 0)).2) }, r.2, some nm.s)
theorem lawStep_broken {q : GP} {p : Par} {c : Core} {cs : List Int} {h : Nat} (hf : c.found.isSome = true) : lawStep q p c cs h = (c, cs, none) := by
  unfold lawStep
  rw [if_pos hf]
theorem lawStep_t {q : GP} {p : Par} {c : Core} {cs : List Int} (hf : c.found = none) : lawStep q p c cs 0 = (lawTake q { c with made := c.made + 1 } cs, cs, some (tName c.taker)) := by
  unfold lawStep
  rw [if_neg (by rw [hf]; simp)]
theorem lawStep_wait {q : GP} {p : Par} {c : Core} {cs : List Int} {k : Nat} {pl ow : Int} {nm : Nm} (hf : c.found = none) (hs : c.sides[k]? = some (pl, ow)) (hn : (cycN p.two)[pl.toNat]? = some nm) (hw : lawWait p { c with made := c.made + 1 } pl ow nm) :
    lawStep q p c cs (k + 1) = ({ c with made := c.made + 1 }, cs, some nm.s) := by
  unfold lawStep
  rw [if_neg (by rw [hf]; simp)]
  dsimp only
  rw [hs]
  dsimp only
  rw [hn]
  dsimp only
  rw [if_pos hw]
theorem lawStep_act {q : GP} {p : Par} {c : Core} {cs : List Int} {k : Nat} {pl ow ow' : Int} {nm : Nm} (hf : c.found = none) (hs : c.sides[k]? = some (pl, ow)) (hn : (cycN p.two)[pl.toNat]? = some nm) (hw : ¬ lawWait p { c with made := c.made + 1 } pl ow nm)
    (ho : (lawAct q p { c with made := c.made + 1 } cs k pl ow nm).1.sides[k]? = some (pl, ow')) :
    lawStep q p c cs (k + 1) = ({ (lawAct q p { c with made := c.made + 1 } cs k pl ow nm).1 with sides := (lawAct q p { c with made := c.made + 1 } cs k pl ow nm).1.sides.set k ((pl + 1) % ((cycN p.two).length : Int), ow') }, (lawAct q p { c with made := c.made + 1 } cs k pl ow nm).2, some nm.s) := by
  unfold lawStep
  rw [if_neg (by rw [hf]; simp)]
  dsimp only
  rw [hs]
  dsimp only
  rw [hn]
  dsimp only
  rw [if_neg hw, ho]
  rfl
/-- what a step of the law asks -/
structure OkL (q : GP) (p : Par) (c : Core) (cs : List Int) : Prop where
  n0 : 0 < q.n
  m0 : 0 < q.M
  many : 1 ≤ c.sides.length ∧ c.sides.length ≤ 4
  taker : c.taker = 0 ∨ c.taker = 1 ∨ c.taker = 2
  place : ∀ (k : Nat) (pl ow : Int), c.sides[k]? = some (pl, ow) → 0 ≤ pl ∧ pl < (cycN p.two).length
  cell : ∀ j, 0 ≤ cellF q j ∧ cellF q j < cs.length
section
variable {P : Program} {w : World} {K : PySem.W.Frag} {mg : Str → Option Value} {base : Heap}
def sp_law_step : Sp := fun vs H Q _ => ∃ (g cyc cl hl lv : Addr) (hs : List Addr) (q : GP) (p : Par) (c : Core) (cs : List Int) (h : Nat), vs = [.ref g, .str (handS h)] ∧ GameAt H g cyc cl hl lv hs q p c cs ∧ OkL q p c cs ∧ h ≤ c.sides.length ∧
  ∀ H', Kp (g :: cl :: lv :: hs) H H' → GameAt H' g cyc cl hl lv hs q p (lawStep q p c cs h).1 (lawStep q p c cs h).2.1 → Q (nameV (lawStep q p c cs h).2.2) H'
theorem ok_law_step (T : Txt K mg) : Glb P w K mg base 4 "_law_step" p_law_step sp_law_step := by
  refine T.f_law_step.ok sc_law_step (fun vs H Q E h => ?_) (fun _ _ _ _ _ _ us hl => match us, hl with | [_, _], _ => rfl) fun cdv A outer s H vs Q E f hr h => ?_
  · obtain ⟨g, cyc, cl, hl, lv, hs, q, p, c, cs, h, rfl, _⟩ := h
    rfl
  · have hu := hu_of hr
    refine ⟨_, pss_cons (ps_if (pt_cmpR op_notN (pe_dget hu (pv 0) pe_str (fun _ _ => rfl)) pe_non (nomark _)) (pss_one (ps_ret pe_non)) pss_nil)
      (pss_cons (ps_dput hu (pv 0) pe_str (pe_op op_add (pe_dget hu (pv 0) pe_str (fun _ _ => rfl)) pe_int) rfl)
      (pss_cons (ps_if (pt_cmpR op_eq (pv 1) pe_str (nomark _)) (pss_one (ps_ret (pe_callG (ok_law_take_step T) hr (pa_cons (pv 0) pa_nil)))) pss_nil)
      (pss_one (ps_ret (pe_callG (ok_law_put_step T) hr (pa_cons (pv 0) (pa_cons (pe_bmT PySem.F.plainAttrs_tuple PySem.F.slot_tuple_index PySem.F.type_tuple_index (r := rTupIx K) mt_tup_index (pa_cons pe_str (pa_cons pe_str (pa_cons pe_str (pa_cons pe_str pa_nil)))) (pa_cons (pv 1) pa_nil)) pa_nil))))))), ?_⟩
    walk_at "rd"
    dsimp only [tBMT]
    walk_at "rd"
    obtain ⟨g, cyc, cl, hl, lv, hs, q, p, c, cs, h, rfl, G, O, hh, qq⟩ := h
    obtain ⟨bv, hg, hf⟩ := G.ob
    have mg' : g ∈ g :: cl :: lv :: hs := by simp
    refine ⟨_, rfl, g, _, rfl, dg hg (gd_broken ..), rfl, _, rfl, ?_⟩
    cases hfd : c.found with
    | some w0 =>
      obtain ⟨a0, b0, c0⟩ := w0
      rw [lawStep_broken (by rw [hfd]; rfl)] at qq
      rw [hfd] at hf
      obtain ⟨t, rfl, _⟩ := hf
      exact if_t (by rw [decide_eq_false (fun z => nomatch z)]; rfl) (qq _ (Kp.refl H) G)
    | none =>
      rw [hfd] at hf
      obtain rfl : bv = .non := hf
      refine if_f rfl ?_
      refine ⟨_, rfl, g, _, rfl, dg hg (gd_steps ..), _, _, rfl, rfl, _, rfl, g, _, rfl, dp hg (gd_few ..) (gp_steps ..), ?_⟩
      have G1 := G.setG (bv := .non) (c' := { c with made := c.made + 1 }) rfl rfl rfl rfl (by
        show FoundAt H .non c.found
        rw [hfd]
        rfl)
      have k1 : Kp (g :: cl :: lv :: hs) H _ := Kp.set (o := .dK (gD q p { c with made := c.made + 1 } cyc cl hl lv .non)) mg' hg (fun xs z => nomatch z)
      generalize upd H g (.dK (gD q p { c with made := c.made + 1 } cyc cl hl lv .non)) = H1 at G1 k1 ⊢
      match h, hh, qq with
      | 0, hh, qq =>
        rw [lawStep_t hfd] at qq
        refine ⟨_, rfl, rfl, _, rfl, if_t (by decide +kernel) ?_⟩
        exact ⟨_, rfl, g, cyc, cl, hl, lv, hs, q, p, _, cs, rfl, G1, O.n0, O.m0, O.taker, fun _ => O.cell _, fun H2 k2 G2 => qq H2 (k1.trans k2) G2⟩
      | k + 1, hh, qq =>
        have hk4 : k < 4 := by
          have := O.many.2
          omega
        have hks : k < c.sides.length := by omega
        have hk : c.sides[k]? = some c.sides[k] := List.getElem?_eq_getElem hks
        generalize c.sides[k] = sd at hk
        obtain ⟨pl, ow⟩ := sd
        obtain ⟨p0, pL⟩ := O.place k pl ow hk
        have hnl : pl.toNat < (cycN p.two).length := by omega
        have hnm : (cycN p.two)[pl.toNat]? = some (cycN p.two)[pl.toNat] := List.getElem?_eq_getElem hnl
        generalize (cycN p.two)[pl.toNat] = nm at hnm
        refine ⟨_, rfl, rfl, _, rfl, if_f (hand_t hk4) ?_⟩
        refine ⟨_, rfl, (by show 4 ≤ sizeLine; decide), fun t ht => ⟨_, rfl, ?_⟩⟩
        have G2 := G1.new (o := .tup [.str "a", .str "b", .str "c", .str "d"]) ht
        have k2 := k1.trans (Kp.new (S := g :: cl :: lv :: hs) (o := .tup [.str "a", .str "b", .str "c", .str "d"]) ht)
        have htt : upd H1 t (.tup [.str "a", .str "b", .str "c", .str "d"]) t = _ := upd_same
        refine ⟨t, abcdS, _, k, rfl, rfl, SqT.of htt, (abcd_at hk4).1, (abcd_at hk4).2, ?_⟩
        refine ⟨g, cyc, cl, hl, lv, hs, q, p, _, cs, k, pl, ow, nm, rfl, G2, O.n0, O.m0, hk, p0, hnm, fun _ => O.cell _, fun hw => ?_, fun hw ow' H3 ho k3 G3 => ?_⟩
        · rw [lawStep_wait hfd hk hnm hw] at qq
          exact qq _ k2 G2
        · rw [lawStep_act hfd hk hnm hw ho] at qq
          exact qq H3 (k2.trans k3) G3
end
end RI

set_option maxHeartbeats 4000000
namespace RI
open PySem PySem.Spec PyProof.Rows L2
local macro_rules | `(tactic| walk_at "rd") => `(tactic| dsimp only [tVar, tC, t2I, tOp, tUn, rI, rI0, rU, tCmp, tB, tAnd, tOr, tNot, tAndV, tOrV, tNotV, tIf, tNext, tSeq, tDrop, tRet, tRetN, tIfS, gName, gNil, gCons, gTup, gSub, tAsg, tPar, tAug, ipI, iList, iTup, iRng1, iRng2, tTest, tChain, rEq, rNe, tFld, sFld, tNil, tCons, tTup, tLst, tCall, tMeth, tMake, tCB, tSl, tPart, tNoPart, tProp, tMakeK, tMakeN, rIxL, rIxT, rSetL, tBM, tBM0, rAppend, rCat, C8.tCut, tYes, tDGet, tDIn, sDPut, tDNewK])
/-! ### the plain law: the ring's numbers against the game's cells -/
def isB : Option Nm → Int
  | some .write => 1
  | some .tell => 1
  | _ => 0
def busyOf (two : Bool) (s : Int × Int) : Int := isB (cycN two)[s.1.toNat]?
def busy (two : Bool) (l : List (Int × Int)) : Int := (l.map (busyOf two)).sum
theorem isB_nonneg (o : Option Nm) : 0 ≤ isB o := by
  cases o with
  | none => exact Int.le_refl 0
  | some m => cases m <;> decide
theorem busy_nonneg (two : Bool) : ∀ l : List (Int × Int), 0 ≤ busy two l
  | [] => Int.le_refl 0
  | s :: l => by
    have h1 := busy_nonneg two l
    have h2 : 0 ≤ busyOf two s := isB_nonneg _
    show 0 ≤ ((s :: l).map (busyOf two)).sum
    rw [List.map_cons, List.sum_cons]
    unfold busy at h1
    omega
theorem busy_set (two : Bool) : ∀ (l : List (Int × Int)) (k : Nat) (x y : Int × Int), l[k]? = some x → busy two (l.set k y) = busy two l - busyOf two x + busyOf two y
  | [], k, x, y, h => by simp at h
  | s :: l, 0, x, y, h => by
    have e : s = x := Option.some.inj h
    subst e
    show ((y :: l).map (busyOf two)).sum = ((s :: l).map (busyOf two)).sum - busyOf two s + busyOf two y
    rw [List.map_cons, List.sum_cons, List.map_cons, List.sum_cons]
    omega
  | s :: l, k + 1, x, y, h => by
    have ih := busy_set two l k x y h
    unfold busy at ih
    show ((s :: l.set k y).map (busyOf two)).sum = ((s :: l).map (busyOf two)).sum - busyOf two x + busyOf two y
    rw [List.map_cons, List.sum_cons, List.map_cons, List.sum_cons]
    omega
/-- the standing facts of the ring's places -/
structure Geom (q : GP) (p : Par) (len : Nat) : Prop where
  n0 : 0 < q.n
  m0 : 0 < q.M
  cell : ∀ j, 0 ≤ cellF q j ∧ cellF q j < len
  apart : ∀ i j, i < j → j - i < p.limit → cellF q i ≠ cellF q j
structure Ok (p : Par) (c : Core) (opn : List Int) : Prop where
  many : 1 ≤ c.sides.length ∧ c.sides.length ≤ 4
  taker : c.taker = 0 ∨ c.taker = 1 ∨ c.taker = 2
  place : ∀ (k : Nat) (pl ow : Int), c.sides[k]? = some (pl, ow) → 0 ≤ pl ∧ pl < (cycN p.two).length ∧ ((cycN p.two)[pl.toNat]? = some .write → ow ∈ opn)
structure InvN (q : GP) (p : Par) (c : Core) (opn cs : List Int) : Prop where
  l0 : 0 ≤ c.given
  l1 : c.gone ≤ c.told
  l2 : c.given - c.gone ≤ p.limit
  cnt : c.given = c.told + busy p.two c.sides
  inn : ∀ j, j ∈ opn → c.gone < j ∧ j ≤ c.given
  nd : opn.Nodup
  wd : ∀ (k k' : Nat) (pl ow pl' ow' : Int), k ≠ k' → c.sides[k]? = some (pl, ow) → c.sides[k']? = some (pl', ow') → (cycN p.two)[pl.toNat]? = some .write → (cycN p.two)[pl'.toNat]? = some .write → ow ≠ ow'
  cells : ∀ j, c.gone < j → j ≤ c.given → (j ∉ opn ↔ cs[(cellF q j).toNat]? = some j)
  hi : ∀ (i : Nat) (v : Int), cs[i]? = some v → v ≤ c.given
  tk1 : c.taker = 1 → c.gone < c.told
  tk2 : c.taker = 2 → c.gone < c.told ∧ c.gone + 1 ∉ opn
def nextN (two : Bool) : Nm → Nm
  | .test => .number
  | .number => .write
  | .write => .tell
  | .tell => firstN two
theorem next_at {two : Bool} {pl : Int} {nm : Nm} (p0 : 0 ≤ pl) (h : (cycN two)[pl.toNat]? = some nm) :
    0 ≤ (pl + 1) % ((cycN two).length : Int) ∧ (pl + 1) % ((cycN two).length : Int) < (cycN two).length ∧ (cycN two)[((pl + 1) % ((cycN two).length : Int)).toNat]? = some (nextN two nm) := by
  have hl := (List.getElem?_eq_some_iff.mp h).1
  obtain ⟨i, rfl⟩ : ∃ i : Nat, pl = (i : Int) := ⟨pl.toNat, by omega⟩
  rw [Int.toNat_natCast] at h hl
  cases two with
  | false =>
    match i, hl, h with
    | 0, _, h =>
      cases h
      exact ⟨by decide, by decide, rfl⟩
    | 1, _, h =>
      cases h
      exact ⟨by decide, by decide, rfl⟩
    | 2, _, h =>
      cases h
      exact ⟨by decide, by decide, rfl⟩
  | true =>
    match i, hl, h with
    | 0, _, h =>
      cases h
      exact ⟨by decide, by decide, rfl⟩
    | 1, _, h =>
      cases h
      exact ⟨by decide, by decide, rfl⟩
    | 2, _, h =>
      cases h
      exact ⟨by decide, by decide, rfl⟩
    | 3, _, h =>
      cases h
      exact ⟨by decide, by decide, rfl⟩
theorem first_at {two : Bool} {pl : Int} {nm : Nm} (p0 : 0 ≤ pl) (h : (cycN two)[pl.toNat]? = some nm) : (pl = 0 ↔ nm = firstN two) := by
  have hl := (List.getElem?_eq_some_iff.mp h).1
  obtain ⟨i, rfl⟩ : ∃ i : Nat, pl = (i : Int) := ⟨pl.toNat, by omega⟩
  rw [Int.toNat_natCast] at h hl
  cases two with
  | false =>
    match i, hl, h with
    | 0, _, h =>
      cases h
      decide
    | 1, _, h =>
      cases h
      decide
    | 2, _, h =>
      cases h
      decide
  | true =>
    match i, hl, h with
    | 0, _, h =>
      cases h
      decide
    | 1, _, h =>
      cases h
      decide
    | 2, _, h =>
      cases h
      decide
    | 3, _, h =>
      cases h
      decide
theorem first_tell (two : Bool) : firstN two ≠ .tell := by cases two <;> decide
theorem first_write (two : Bool) : firstN two ≠ .write := by cases two <;> decide
/-- both wait or neither -/
theorem wait_same {p : Par} {c : Core} {pl ow : Int} {nm : Nm} (p0 : 0 ≤ pl) (h : (cycN p.two)[pl.toNat]? = some nm) : waitsB p c ow nm = true ↔ lawWait p c pl ow nm := by
  have e := first_at p0 h
  unfold waitsB lawWait
  by_cases ht : nm = .tell
  · rw [if_pos ht]
    have n0 : pl ≠ 0 := fun z => first_tell p.two ((e.mp z).symm.trans ht)
    simp only [Bool.and_eq_true, Bool.not_eq_true', decide_eq_false_iff_not]
    constructor
    · rintro ⟨h1, h2⟩
      exact .inr ⟨ht, h1, fun z => h2 (by omega)⟩
    · rintro (z | ⟨_, h1, h2⟩)
      · exact absurd z.1 n0
      · exact ⟨h1, fun z => h2 (by omega)⟩
  · rw [if_neg ht]
    simp only [Bool.and_eq_true, decide_eq_true_eq]
    constructor
    · rintro ⟨h1, h2⟩
      exact .inl ⟨e.mpr h1, h2⟩
    · rintro (⟨h1, h2⟩ | z)
      · exact ⟨e.mp h1, h2⟩
      · exact absurd z.1 ht
end RI

set_option maxHeartbeats 4000000
namespace RI
open PySem PySem.Spec PyProof.Rows L2
local macro_rules | `(tactic| walk_at "rd") => `(tactic| dsimp only [tVar, tC, t2I, tOp, tUn, rI, rI0, rU, tCmp, tB, tAnd, tOr, tNot, tAndV, tOrV, tNotV, tIf, tNext, tSeq, tDrop, tRet, tRetN, tIfS, gName, gNil, gCons, gTup, gSub, tAsg, tPar, tAug, ipI, iList, iTup, iRng1, iRng2, tTest, tChain, rEq, rNe, tFld, sFld, tNil, tCons, tTup, tLst, tCall, tMeth, tMake, tCB, tSl, tPart, tNoPart, tProp, tMakeK, tMakeN, rIxL, rIxT, rSetL, tBM, tBM0, rAppend, rCat, C8.tCut, tYes, tDGet, tDIn, sDPut, tDNewK])
section
variable {q : GP} {p : Par} {c : Core} {opn cs : List Int}
theorem InvN.made (I : InvN q p c opn cs) (m : Int) : InvN q p { c with made := m } opn cs := ⟨I.l0, I.l1, I.l2, I.cnt, I.inn, I.nd, I.wd, I.cells, I.hi, I.tk1, I.tk2⟩
theorem Ok.made (O : Ok p c opn) (m : Int) : Ok p { c with made := m } opn := ⟨O.many, O.taker, O.place⟩
theorem InvN.tg (I : InvN q p c opn cs) : c.told ≤ c.given := by
  have := busy_nonneg p.two c.sides
  have := I.cnt
  omega
theorem take_sim (O : Ok p c opn) (I : InvN q p c opn cs) (hf : c.found = none) :
    lawTake q c cs = takeC c opn ∧ Ok p (takeC c opn) opn ∧ ((takeC c opn).found = none → InvN q p (takeC c opn) opn cs) := by
  have tg := I.tg
  rcases O.taker with ht | ht | ht
  · have e1 : takeC c opn = if c.told = c.gone then c else { c with taker := 1 } := if_pos ht
    have e2 : lawTake q c cs = if c.gone = c.told then c else { c with taker := 1 } := if_pos ht
    rw [e1, e2]
    by_cases h : c.told = c.gone
    · rw [if_pos h, if_pos h.symm]
      exact ⟨rfl, O, fun _ => I⟩
    · rw [if_neg h, if_neg (fun z => h z.symm)]
      refine ⟨rfl, ⟨O.many, .inr (.inl rfl), O.place⟩, fun _ => ⟨I.l0, I.l1, I.l2, I.cnt, I.inn, I.nd, I.wd, I.cells, I.hi, fun _ => ?_, fun z => ?_⟩⟩
      · have := I.l1
        show c.gone < c.told
        omega
      · exact absurd (show (1 : Int) = 2 from z) (by decide)
  · have e1 : takeC c opn = { c with found := if c.gone + 1 ∈ opn then some (c.made, "read", c.gone + 1) else c.found, taker := 2 } := by
      unfold takeC
      rw [if_neg (by rw [ht]; decide), if_pos ht]
    have e2 : lawTake q c cs = { c with found := if cs[(cellF q (c.gone + 1)).toNat]? = some (c.gone + 1) then c.found else some (c.made, "read", c.gone + 1), taker := 2 } := by
      unfold lawTake
      rw [if_neg (by rw [ht]; decide), if_pos ht]
    have t1 := I.tk1 ht
    have hc := I.cells (c.gone + 1) (by omega) (by omega)
    rw [e1, e2]
    by_cases h : c.gone + 1 ∈ opn
    · have h2 : ¬ cs[(cellF q (c.gone + 1)).toNat]? = some (c.gone + 1) := fun z => hc.mpr z h
      rw [if_pos h, if_neg h2]
      exact ⟨rfl, ⟨O.many, .inr (.inr rfl), O.place⟩, fun z => nomatch z⟩
    · rw [if_neg h, if_pos (hc.mp h)]
      refine ⟨rfl, ⟨O.many, .inr (.inr rfl), O.place⟩, fun _ => ⟨I.l0, I.l1, I.l2, I.cnt, I.inn, I.nd, I.wd, I.cells, I.hi, fun z => ?_, fun _ => ⟨t1, h⟩⟩⟩
      exact absurd (show (2 : Int) = 1 from z) (by decide)
  · have e1 : takeC c opn = { c with gone := c.gone + 1, taker := 0 } := by
      unfold takeC
      rw [if_neg (by rw [ht]; decide), if_neg (by rw [ht]; decide)]
    have e2 : lawTake q c cs = { c with gone := c.gone + 1, taker := 0 } := by
      unfold lawTake
      rw [if_neg (by rw [ht]; decide), if_neg (by rw [ht]; decide)]
    obtain ⟨t1, t2⟩ := I.tk2 ht
    rw [e1, e2]
    refine ⟨rfl, ⟨O.many, .inl rfl, O.place⟩, fun _ => ⟨I.l0, ?_, ?_, I.cnt, fun j hj => ?_, I.nd, I.wd, fun j h1 h2 => ?_, I.hi, fun z => ?_, fun z => ?_⟩⟩
    · show c.gone + 1 ≤ c.told
      omega
    · have := I.l2
      show c.given - (c.gone + 1) ≤ p.limit
      omega
    · obtain ⟨a1, a2⟩ := I.inn j hj
      have : j ≠ c.gone + 1 := fun z => t2 (z ▸ hj)
      show c.gone + 1 < j ∧ j ≤ c.given
      omega
    · have h1' : c.gone + 1 < j := h1
      exact I.cells j (by omega) h2
    · exact absurd (show (0 : Int) = 1 from z) (by decide)
    · exact absurd (show (0 : Int) = 2 from z) (by decide)
/-- a hand's place and number put at k -/
def putS (p : Par) (c : Core) (k : Nat) (pl ow : Int) : Core := { c with sides := c.sides.set k ((pl + 1) % ((cycN p.two).length : Int), ow) }
theorem set_cases {l : List (Int × Int)} {k j : Nat} {x y : Int × Int} (h : (l.set k x)[j]? = some y) : (j = k ∧ y = x) ∨ (j ≠ k ∧ l[j]? = some y) := by
  by_cases hj : j = k
  · subst hj
    have hl : j < l.length := by
      have := (List.getElem?_eq_some_iff.mp h).1
      rw [List.length_set] at this
      exact this
    rw [List.getElem?_set_self hl] at h
    exact .inl ⟨rfl, (Option.some.inj h).symm⟩
  · rw [List.getElem?_set_ne (Ne.symm hj)] at h
    exact .inr ⟨hj, h⟩
theorem mem_erase' {l : List Int} (nd : l.Nodup) {a b : Int} : b ∈ l.erase a ↔ b ≠ a ∧ b ∈ l := nd.mem_erase_iff
theorem put_sim {k : Nat} {pl ow : Int} {nm : Nm} (G : Geom q p cs.length) (O : Ok p c opn) (I : InvN q p c opn cs) (hf : c.found = none) (hk : c.sides[k]? = some (pl, ow)) (hnm : (cycN p.two)[pl.toNat]? = some nm) (hw : ¬ lawWait p c pl ow nm) :
    (lawAct q p c cs k pl ow nm).1 = (actC p c opn k pl ow nm).1 ∧ ∀ ow', (actC p c opn k pl ow nm).1.sides[k]? = some (pl, ow') →
      Ok p (putS p (actC p c opn k pl ow nm).1 k pl ow') (actC p c opn k pl ow nm).2 ∧ ((putS p (actC p c opn k pl ow nm).1 k pl ow').found = none → InvN q p (putS p (actC p c opn k pl ow nm).1 k pl ow') (actC p c opn k pl ow nm).2 (lawAct q p c cs k pl ow nm).2) ∧
      (actC p c opn k pl ow nm).2.length ≤ opn.length + 1 ∧ (lawAct q p c cs k pl ow nm).2.length = cs.length ∧ (putS p (actC p c opn k pl ow nm).1 k pl ow').sides.length = c.sides.length := by
  obtain ⟨p0, pL, pw⟩ := O.place k pl ow hk
  obtain ⟨q0, qL, qn⟩ := next_at p0 hnm
  have hkl := (List.getElem?_eq_some_iff.mp hk).1
  have tg := I.tg
  have l0 := I.l0
  have l1 := I.l1
  have l2 := I.l2
  cases nm with
  | test =>
    refine ⟨rfl, fun ow' ho => ?_⟩
    have ho' : c.sides[k]? = some (pl, ow') := ho
    rw [hk] at ho'
    cases ho'
    refine ⟨⟨?_, O.taker, fun j a b hj => ?_⟩, fun _ => ⟨l0, l1, l2, ?_, I.inn, I.nd, fun i j a b a' b' hij hi hj wi wj => ?_, I.cells, I.hi, I.tk1, I.tk2⟩, Nat.le_succ _, rfl, List.length_set ..⟩
    · show 1 ≤ (c.sides.set k _).length ∧ (c.sides.set k _).length ≤ 4
      rw [List.length_set]
      exact O.many
    · rcases set_cases hj with ⟨rfl, e⟩ | ⟨_, e⟩
      · cases e
        refine ⟨q0, qL, fun z => ?_⟩
        rw [qn] at z
        cases z
      · exact O.place j a b e
    · show c.given = c.told + busy p.two (c.sides.set k _)
      rw [busy_set p.two c.sides k _ _ hk]
      have e1 : busyOf p.two (pl, ow) = 0 := by
        show isB (cycN p.two)[pl.toNat]? = 0
        rw [hnm]
        rfl
      have e2 : busyOf p.two ((pl + 1) % ((cycN p.two).length : Int), ow) = 0 := by
        show isB (cycN p.two)[((pl + 1) % ((cycN p.two).length : Int)).toNat]? = 0
        rw [qn]
        rfl
      rw [e1, e2]
      have := I.cnt
      omega
    · rcases set_cases hi with ⟨_, e⟩ | ⟨_, e⟩
      · cases e
        rw [qn] at wi
        cases wi
      · rcases set_cases hj with ⟨_, e'⟩ | ⟨_, e'⟩
        · cases e'
          rw [qn] at wj
          cases wj
        · exact I.wd i j a b a' b' hij e e' wi wj
  | tell =>
    refine ⟨rfl, fun ow' ho => ?_⟩
    have ho' : c.sides[k]? = some (pl, ow') := ho
    rw [hk] at ho'
    cases ho'
    have e1 : busyOf p.two (pl, ow) = 1 := by
      show isB (cycN p.two)[pl.toNat]? = 1
      rw [hnm]
      rfl
    have e2 : busyOf p.two ((pl + 1) % ((cycN p.two).length : Int), ow) = 0 := by
      show isB (cycN p.two)[((pl + 1) % ((cycN p.two).length : Int)).toNat]? = 0
      rw [qn]
      show isB (some (firstN p.two)) = 0
      cases p.two <;> rfl
    have hcnt : c.given = c.told + 1 + busy p.two (c.sides.set k ((pl + 1) % ((cycN p.two).length : Int), ow)) := by
      rw [busy_set p.two c.sides k _ _ hk, e1, e2]
      have := I.cnt
      omega
    refine ⟨⟨?_, O.taker, fun j a b hj => ?_⟩, fun _ => ⟨l0, ?_, l2, hcnt, I.inn, I.nd, fun i j a b a' b' hij hi hj wi wj => ?_, I.cells, I.hi, fun z => ?_, fun z => ?_⟩, Nat.le_succ _, rfl, List.length_set ..⟩
    · show 1 ≤ (c.sides.set k _).length ∧ (c.sides.set k _).length ≤ 4
      rw [List.length_set]
      exact O.many
    · rcases set_cases hj with ⟨rfl, e⟩ | ⟨_, e⟩
      · cases e
        refine ⟨q0, qL, fun z => ?_⟩
        rw [qn] at z
        exact absurd (Option.some.inj z) (first_write p.two)
      · exact O.place j a b e
    · show c.gone ≤ c.told + 1
      omega
    · rcases set_cases hi with ⟨_, e⟩ | ⟨_, e⟩
      · cases e
        rw [qn] at wi
        exact absurd (Option.some.inj wi) (first_write p.two)
      · rcases set_cases hj with ⟨_, e'⟩ | ⟨_, e'⟩
        · cases e'
          rw [qn] at wj
          exact absurd (Option.some.inj wj) (first_write p.two)
        · exact I.wd i j a b a' b' hij e e' wi wj
    · have := I.tk1 z
      show c.gone < c.told + 1
      omega
    · obtain ⟨z1, z2⟩ := I.tk2 z
      refine ⟨?_, z2⟩
      show c.gone < c.told + 1
      omega
  | write =>
    refine ⟨rfl, fun ow' ho => ?_⟩
    have ho' : c.sides[k]? = some (pl, ow') := ho
    rw [hk] at ho'
    cases ho'
    have hin := pw hnm
    obtain ⟨i1, i2⟩ := I.inn ow hin
    have hwd : ∀ (j : Nat) (a b : Int), j ≠ k → c.sides[j]? = some (a, b) → (cycN p.two)[a.toNat]? = some .write → b ≠ ow := fun j a b hj e w => I.wd j k a b pl ow hj e hk w hnm
    refine ⟨⟨?_, O.taker, fun j a b hj => ?_⟩, fun _ => ⟨l0, l1, l2, ?_, fun j hj => I.inn j (List.mem_of_mem_erase hj), I.nd.erase ow, fun i j a b a' b' hij hi hj wi wj => ?_, fun j h1 h2 => ?_, fun i v hv => ?_, I.tk1, fun z => ?_⟩, ?_, List.length_set .., List.length_set ..⟩
    · show 1 ≤ (c.sides.set k _).length ∧ (c.sides.set k _).length ≤ 4
      rw [List.length_set]
      exact O.many
    · rcases set_cases hj with ⟨rfl, e⟩ | ⟨hjk, e⟩
      · cases e
        refine ⟨q0, qL, fun z => ?_⟩
        rw [qn] at z
        cases z
      · obtain ⟨b0, b1, b2⟩ := O.place j a b e
        exact ⟨b0, b1, fun z => (mem_erase' I.nd).mpr ⟨hwd j a b hjk e z, b2 z⟩⟩
    · show c.given = c.told + busy p.two (c.sides.set k _)
      rw [busy_set p.two c.sides k _ _ hk]
      have e1 : busyOf p.two (pl, ow) = 1 := by
        show isB (cycN p.two)[pl.toNat]? = 1
        rw [hnm]
        rfl
      have e2 : busyOf p.two ((pl + 1) % ((cycN p.two).length : Int), ow) = 1 := by
        show isB (cycN p.two)[((pl + 1) % ((cycN p.two).length : Int)).toNat]? = 1
        rw [qn]
        rfl
      rw [e1, e2]
      have := I.cnt
      omega
    · rcases set_cases hi with ⟨_, e⟩ | ⟨_, e⟩
      · cases e
        rw [qn] at wi
        cases wi
      · rcases set_cases hj with ⟨_, e'⟩ | ⟨_, e'⟩
        · cases e'
          rw [qn] at wj
          cases wj
        · exact I.wd i j a b a' b' hij e e' wi wj
    · have h1' : c.gone < j := h1
      have h2' : j ≤ c.given := h2
      obtain ⟨c0, c1⟩ := G.cell ow
      have hlen : (cellF q ow).toNat < cs.length := by omega
      show j ∉ opn.erase ow ↔ (cs.set (cellF q ow).toNat ow)[(cellF q j).toNat]? = some j
      by_cases hj : j = ow
      · subst hj
        rw [List.getElem?_set_self hlen]
        exact ⟨fun _ => rfl, fun _ z => ((mem_erase' I.nd).mp z).1 rfl⟩
      · have hne : cellF q ow ≠ cellF q j := by
          rcases Int.lt_or_gt_of_ne hj with z | z
          · exact fun e => G.apart j ow z (by omega) e.symm
          · exact G.apart ow j z (by omega)
        have hne2 : (cellF q ow).toNat ≠ (cellF q j).toNat := by
          have := (G.cell j).1
          omega
        rw [List.getElem?_set_ne hne2, ← I.cells j h1' h2']
        constructor
        · exact fun z y => z ((mem_erase' I.nd).mpr ⟨hj, y⟩)
        · exact fun z y => z ((mem_erase' I.nd).mp y).2
    · have hv' : (cs.set (cellF q ow).toNat ow)[i]? = some v := hv
      show v ≤ c.given
      by_cases e : i = (cellF q ow).toNat
      · subst e
        obtain ⟨c0, c1⟩ := G.cell ow
        rw [List.getElem?_set_self (by omega)] at hv'
        cases hv'
        exact i2
      · rw [List.getElem?_set_ne (Ne.symm e)] at hv'
        exact I.hi i v hv'
    · obtain ⟨z1, z2⟩ := I.tk2 z
      exact ⟨z1, fun y => z2 (List.mem_of_mem_erase y)⟩
    · show (opn.erase ow).length ≤ opn.length + 1
      have := List.length_erase_le (a := ow) (l := opn)
      omega
  | number =>
    have hlim : (c.given - c.gone = p.limit) ↔ p.limit < c.given + 1 - c.gone := by omega
    have e0 : (lawAct q p c cs k pl ow .number).1 = (actC p c opn k pl ow .number).1 := by
      show ({ c with given := c.given + 1, sides := c.sides.set k (pl, c.given + 1), found := if c.given - c.gone = p.limit then some (c.made, "over", c.given + 1) else c.found } : Core) = { c with given := c.given + 1, sides := c.sides.set k (pl, c.given + 1), found := if p.limit < c.given + 1 - c.gone then some (c.made, "over", c.given + 1) else c.found }
      by_cases h : c.given - c.gone = p.limit
      · rw [if_pos h, if_pos (hlim.mp h)]
      · rw [if_neg h, if_neg (fun z => h (hlim.mpr z))]
    refine ⟨e0, fun ow' ho => ?_⟩
    have ho' : (c.sides.set k (pl, c.given + 1))[k]? = some (pl, ow') := ho
    rw [List.getElem?_set_self hkl] at ho'
    cases ho'
    have es : (putS p (actC p c opn k pl ow .number).1 k pl (c.given + 1)).sides = c.sides.set k ((pl + 1) % ((cycN p.two).length : Int), c.given + 1) := by
      show (c.sides.set k (pl, c.given + 1)).set k _ = _
      rw [List.set_set]
    have fresh : c.given + 1 ∉ opn := fun z => by
      have := (I.inn _ z).2
      omega
    refine ⟨⟨?_, O.taker, fun j a b hj => ?_⟩, fun hfn => ?_, ?_, rfl, ?_⟩
    · rw [es, List.length_set]
      exact O.many
    · rw [es] at hj
      rcases set_cases hj with ⟨rfl, e⟩ | ⟨hjk, e⟩
      · cases e
        exact ⟨q0, qL, fun _ => List.mem_append_right _ List.mem_cons_self⟩
      · obtain ⟨b0, b1, b2⟩ := O.place j a b e
        exact ⟨b0, b1, fun z => List.mem_append_left _ (b2 z)⟩
    · have hlt : ¬ p.limit < c.given + 1 - c.gone := fun z => by
        have hfn' : (if p.limit < c.given + 1 - c.gone then some (c.made, ("over" : Str), c.given + 1) else c.found) = none := hfn
        rw [if_pos z] at hfn'
        cases hfn'
      have oth : ∀ (j : Nat) (a b : Int), j ≠ k → c.sides[j]? = some (a, b) → (cycN p.two)[a.toNat]? = some .write → b ≤ c.given := fun j a b _ e w => (I.inn b ((O.place j a b e).2.2 w)).2
      refine ⟨?_, ?_, ?_, ?_, fun j hj => ?_, ?_, fun i j a b a' b' hij hi hj wi wj => ?_, fun j h1 h2 => ?_, fun i v hv => ?_, I.tk1, fun z => ?_⟩
      · show 0 ≤ c.given + 1
        omega
      · exact l1
      · show c.given + 1 - c.gone ≤ p.limit
        omega
      · show c.given + 1 = c.told + busy p.two (putS p (actC p c opn k pl ow .number).1 k pl (c.given + 1)).sides
        rw [es, busy_set p.two c.sides k _ _ hk]
        have e1 : busyOf p.two (pl, ow) = 0 := by
          show isB (cycN p.two)[pl.toNat]? = 0
          rw [hnm]
          rfl
        have e2 : busyOf p.two ((pl + 1) % ((cycN p.two).length : Int), c.given + 1) = 1 := by
          show isB (cycN p.two)[((pl + 1) % ((cycN p.two).length : Int)).toNat]? = 1
          rw [qn]
          rfl
        rw [e1, e2]
        have := I.cnt
        omega
      · show c.gone < j ∧ j ≤ c.given + 1
        rcases List.mem_append.mp hj with hj | hj
        · have := I.inn j hj
          omega
        · have e : j = c.given + 1 := by simpa using hj
          omega
      · exact List.nodup_append.mpr ⟨I.nd, by simp, fun a ha b hb => by
          have e : b = c.given + 1 := by simpa using hb
          rw [e]
          exact fun z => fresh (z ▸ ha)⟩
      · rw [es] at hi hj
        rcases set_cases hi with ⟨i1, e⟩ | ⟨i1, e⟩
        · cases e
          rcases set_cases hj with ⟨j1, e'⟩ | ⟨j1, e'⟩
          · exact absurd (i1.trans j1.symm) hij
          · have := oth j a' b' j1 e' wj
            omega
        · rcases set_cases hj with ⟨j1, e'⟩ | ⟨j1, e'⟩
          · cases e'
            have := oth i a b i1 e wi
            omega
          · exact I.wd i j a b a' b' hij e e' wi wj
      · have h1' : c.gone < j := h1
        have h2' : j ≤ c.given + 1 := h2
        show j ∉ opn ++ [c.given + 1] ↔ cs[(cellF q j).toNat]? = some j
        by_cases hj : j = c.given + 1
        · constructor
          · exact fun z => absurd (List.mem_append_right _ (by rw [hj]; exact List.mem_cons_self)) z
          · intro z
            have := I.hi _ _ z
            omega
        · rw [← I.cells j h1' (by omega)]
          constructor
          · exact fun z y => z (List.mem_append_left _ y)
          · intro z y
            rcases List.mem_append.mp y with y | y
            · exact z y
            · exact hj (by simpa using y)
      · have := I.hi i v hv
        show v ≤ c.given + 1
        omega
      · obtain ⟨z1, z2⟩ := I.tk2 z
        refine ⟨z1, fun y => ?_⟩
        rcases List.mem_append.mp y with y | y
        · exact z2 y
        · have e : c.gone + 1 = c.given + 1 := List.mem_singleton.mp y
          omega
    · show (opn ++ [c.given + 1]).length ≤ opn.length + 1
      rw [List.length_append]
      exact Nat.le_refl _
    · rw [es, List.length_set]
end
end RI

set_option maxHeartbeats 4000000
namespace RI
open PySem PySem.Spec PyProof.Rows L2
local macro_rules | `(tactic| walk_at "rd") => `(tactic| dsimp only [tVar, tC, t2I, tOp, tUn, rI, rI0, rU, tCmp, tB, tAnd, tOr, tNot, tAndV, tOrV, tNotV, tIf, tNext, tSeq, tDrop, tRet, tRetN, tIfS, gName, gNil, gCons, gTup, gSub, tAsg, tPar, tAug, ipI, iList, iTup, iRng1, iRng2, tTest, tChain, rEq, rNe, tFld, sFld, tNil, tCons, tTup, tLst, tCall, tMeth, tMake, tCB, tSl, tPart, tNoPart, tProp, tMakeK, tMakeN, rIxL, rIxT, rSetL, tBM, tBM0, rAppend, rCat, C8.tCut, tYes, tDGet, tDIn, sDPut, tDNewK])
section
variable {q : GP} {p : Par} {c : Core} {opn cs : List Int}
theorem takeC_sides : (takeC c opn).sides = c.sides := by
  unfold takeC
  split
  · split
    · rfl
    · rfl
  · split
    · rfl
    · rfl
structure StepSim (q : GP) (p : Par) (c : Core) (opn cs : List Int) (h : Nat) : Prop where
  core : (lawStep q p c cs h).1 = (stepP p c opn h).1
  name : (lawStep q p c cs h).2.2 = (stepP p c opn h).2.2
  ok : Ok p (stepP p c opn h).1 (stepP p c opn h).2.1
  inv : (stepP p c opn h).1.found = none → InvN q p (stepP p c opn h).1 (stepP p c opn h).2.1 (lawStep q p c cs h).2.1
  few : (stepP p c opn h).2.1.length ≤ opn.length + 1
  cl : (lawStep q p c cs h).2.1.length = cs.length
  sl : (stepP p c opn h).1.sides.length = c.sides.length
theorem step_sim {h : Nat} (G : Geom q p cs.length) (O : Ok p c opn) (I : c.found = none → InvN q p c opn cs) (hh : h ≤ c.sides.length) : StepSim q p c opn cs h := by
  cases hfd : c.found with
  | some w0 =>
    have e1 := lawStep_broken (q := q) (p := p) (c := c) (cs := cs) (h := h) (by rw [hfd]; rfl)
    have e2 := stepP_broken (p := p) (c := c) (opn := opn) (h := h) (by rw [hfd]; rfl)
    constructor
    · rw [e1, e2]
    · rw [e1, e2]
    · rw [e2]
      exact O
    · rw [e2]
      intro z
      have z' : c.found = none := z
      rw [hfd] at z'
      cases z'
    · rw [e2]
      exact Nat.le_succ _
    · rw [e1]
    · rw [e2]
  | none =>
    have J := (I hfd).made (c.made + 1)
    have O1 := O.made (c.made + 1)
    match h, hh with
    | 0, _ =>
      have e1 := lawStep_t (q := q) (p := p) (cs := cs) hfd
      have e2 := stepP_t (p := p) (opn := opn) hfd
      obtain ⟨a1, a2, a3⟩ := take_sim O1 J hfd
      constructor
      · rw [e1, e2]
        exact a1
      · rw [e1, e2]
      · rw [e2]
        exact a2
      · rw [e1, e2]
        exact a3
      · rw [e2]
        exact Nat.le_succ _
      · rw [e1]
      · rw [e2]
        show (takeC { c with made := c.made + 1 } opn).sides.length = c.sides.length
        rw [takeC_sides]
    | k + 1, hh =>
      have hk : c.sides[k]? = some c.sides[k] := List.getElem?_eq_getElem (by omega)
      generalize c.sides[k] = sd at hk
      obtain ⟨pl, ow⟩ := sd
      obtain ⟨p0, pL, pw⟩ := O.place k pl ow hk
      have hnm : (cycN p.two)[pl.toNat]? = some (cycN p.two)[pl.toNat] := List.getElem?_eq_getElem (by omega)
      generalize (cycN p.two)[pl.toNat] = nm at hnm
      have ws := wait_same (p := p) (c := { c with made := c.made + 1 }) (ow := ow) p0 hnm
      by_cases hw : lawWait p { c with made := c.made + 1 } pl ow nm
      · have e1 := lawStep_wait (q := q) (cs := cs) hfd hk hnm hw
        have e2 := stepP_wait (opn := opn) hfd hk hnm (ws.mpr hw)
        constructor
        · rw [e1, e2]
        · rw [e1, e2]
        · rw [e2]
          exact O1
        · rw [e1, e2]
          exact fun _ => J
        · rw [e2]
          exact Nat.le_succ _
        · rw [e1]
        · rw [e2]
      · have hw2 : waitsB p { c with made := c.made + 1 } ow nm = false := Bool.eq_false_iff.mpr fun z => hw (ws.mp z)
        obtain ⟨ow', ho⟩ := actC_side p { c with made := c.made + 1 } opn k pl ow nm hk
        obtain ⟨b1, b2⟩ := put_sim (cs := cs) G O1 J hfd hk hnm hw
        obtain ⟨b3, b4, b5, b6, b7⟩ := b2 ow' ho
        have e1 := lawStep_act (q := q) (cs := cs) hfd hk hnm hw (by rw [b1]; exact ho)
        have e2 := stepP_act hfd hk hnm hw2 ho
        constructor
        · rw [e1, e2]
          show ({ (lawAct q p { c with made := c.made + 1 } cs k pl ow nm).1 with sides := _ } : Core) = _
          rw [b1]
        · rw [e1, e2]
        · rw [e2]
          exact b3
        · rw [e1, e2]
          exact b4
        · rw [e2]
          exact b5
        · rw [e1]
          exact b6
        · rw [e2]
          exact b7
end
theorem geom_of {r : Row} (hm : r ∈ allRows) {n base : Int} (n1 : 1 ≤ n) (n2 : n ≤ 12) (hr : rightF r n = true) (b1 b2 : Bool) : Geom ⟨r.rule, n, modF r.turn n, base⟩ ⟨roomF r.brim n (modF r.turn n), b1, b2⟩ n.toNat := by
  have G := row_geo hm n1 n2
  obtain ⟨z1, z⟩ := bt hr
  obtain ⟨z2, z3⟩ := bt z
  have y2 := of_decide_eq_true z2
  have m1 := G.m1
  have M0 : modF r.turn n ≠ 0 := by omega
  refine ⟨?_, ?_, fun j => ?_, fun i j hij hd => ?_⟩
  · show 0 < n
    omega
  · show 0 < modF r.turn n
    omega
  · have := G.ins ((base + j - 1) % modF r.turn n) (Int.emod_nonneg _ M0) (Int.emod_lt_of_pos _ (by omega))
    show 0 ≤ slotF r.rule n ((base + j - 1) % modF r.turn n) ∧ slotF r.rule n ((base + j - 1) % modF r.turn n) < (n.toNat : Int)
    omega
  · have hd' : j - i < roomF r.brim n (modF r.turn n) := hd
    have h := G.apart ((base + i - 1) % modF r.turn n) (j - i) (Int.emod_nonneg _ M0) (Int.emod_lt_of_pos _ (by omega)) (by omega) (by omega)
    rw [Int.emod_add_emod] at h
    have e : base + i - 1 + (j - i) = base + j - 1 := by omega
    rw [e] at h
    exact h
theorem busy_rep (two : Bool) : ∀ m : Nat, busy two (List.replicate m ((0 : Int), (0 : Int))) = 0
  | 0 => rfl
  | m + 1 => by
    have ih := busy_rep two m
    unfold busy at ih
    show ((List.replicate (m + 1) ((0 : Int), (0 : Int))).map (busyOf two)).sum = 0
    rw [List.replicate_succ, List.map_cons, List.sum_cons, ih]
    cases two <;> rfl
theorem rep_at {m k : Nat} {pl ow : Int} (h : (List.replicate m ((0 : Int), (0 : Int)))[k]? = some (pl, ow)) : pl = 0 := by
  rw [List.getElem?_replicate] at h
  split at h
  · cases h
    rfl
  · cases h
theorem start_ok {p : Par} {m : Nat} (m1 : 1 ≤ m) (m4 : m ≤ 4) : Ok p (core0 m) [] := by
  refine ⟨?_, .inl rfl, fun k pl ow h => ?_⟩
  · show 1 ≤ (List.replicate m _).length ∧ (List.replicate m _).length ≤ 4
    rw [List.length_replicate]
    exact ⟨m1, m4⟩
  · have e := rep_at h
    subst e
    refine ⟨Int.le_refl _, ?_, fun z => ?_⟩
    · cases p.two <;> decide
    · have z' : (cycN p.two)[(0 : Int).toNat]? = some (firstN p.two) := by cases p.two <;> rfl
      rw [z'] at z
      exact absurd (Option.some.inj z) (first_write p.two)
theorem start_inv {q : GP} {p : Par} {m : Nat} {n : Nat} (hl : 1 ≤ p.limit) : InvN q p (core0 m) [] (List.replicate n 0) := by
  refine ⟨Int.le_refl 0, Int.le_refl 0, ?_, ?_, fun j hj => (nomatch hj), List.nodup_nil, fun k k' pl ow pl' ow' _ h _ w _ => ?_, fun j h1 h2 => ?_, fun i v hv => ?_, fun z => ?_, fun z => ?_⟩
  · show (0 : Int) - 0 ≤ p.limit
    omega
  · show (0 : Int) = 0 + busy p.two (List.replicate m ((0 : Int), (0 : Int)))
    rw [busy_rep]
    rfl
  · have e := rep_at h
    subst e
    have z' : (cycN p.two)[(0 : Int).toNat]? = some (firstN p.two) := by cases p.two <;> rfl
    rw [z'] at w
    exact absurd (Option.some.inj w) (first_write p.two)
  · have h1' : (0 : Int) < j := h1
    have h2' : j ≤ (0 : Int) := h2
    omega
  · rw [List.getElem?_replicate] at hv
    split at hv
    · cases hv
      exact Int.le_refl 0
    · cases hv
  · exact absurd (show (0 : Int) = 1 from z) (by decide)
  · exact absurd (show (0 : Int) = 2 from z) (by decide)
end RI

set_option maxHeartbeats 4000000
namespace RI
open PySem PySem.Spec PyProof.Rows L2
local macro_rules | `(tactic| walk_at "rd") => `(tactic| dsimp only [tVar, tC, t2I, tOp, tUn, rI, rI0, rU, tCmp, tB, tAnd, tOr, tNot, tAndV, tOrV, tNotV, tIf, tNext, tSeq, tDrop, tRet, tRetN, tIfS, gName, gNil, gCons, gTup, gSub, tAsg, tPar, tAug, ipI, iList, iTup, iRng1, iRng2, tTest, tChain, rEq, rNe, tFld, sFld, tNil, tCons, tTup, tLst, tCall, tMeth, tMake, tCB, tSl, tPart, tNoPart, tProp, tMakeK, tMakeN, rIxL, rIxT, rSetL, tBM, tBM0, rAppend, rCat, C8.tCut, tYes, tDGet, tDIn, sDPut, tDNewK])
def FOk (c : Core) : Prop := ∀ a k b, c.found = some (a, k, b) → k = "over" ∨ k = "read"
def NOk (o : Option Str) : Prop := o = none ∨ o = some "look" ∨ o = some "read" ∨ o = some "tell" ∨ o = some "number" ∨ o = some "write" ∨ o = some "test"
theorem tName_ok (i : Int) : NOk (some (tName i)) := by
  unfold tName NOk
  split
  · exact .inr (.inl rfl)
  · split
    · exact .inr (.inr (.inl rfl))
    · exact .inr (.inr (.inr (.inl rfl)))
theorem nm_ok (m : Nm) : NOk (some m.s) := by
  unfold NOk
  cases m with
  | test => exact .inr (.inr (.inr (.inr (.inr (.inr rfl)))))
  | number => exact .inr (.inr (.inr (.inr (.inl rfl))))
  | write => exact .inr (.inr (.inr (.inr (.inr (.inl rfl)))))
  | tell => exact .inr (.inr (.inr (.inl rfl)))
section
variable {q : GP} {p : Par} {c : Core} {opn cs : List Int}
theorem take_fok (hf : c.found = none) : FOk (takeC c opn) := by
  intro a k b h
  unfold takeC at h
  split at h
  · split at h
    · rw [hf] at h
      cases h
    · have h' : c.found = some (a, k, b) := h
      rw [hf] at h'
      cases h'
  · split at h
    · have h' : (if c.gone + 1 ∈ opn then some (c.made, ("read" : Str), c.gone + 1) else c.found) = some (a, k, b) := h
      split at h'
      · cases h'
        exact .inr rfl
      · rw [hf] at h'
        cases h'
    · have h' : c.found = some (a, k, b) := h
      rw [hf] at h'
      cases h'
theorem act_fok {k0 : Nat} {pl ow : Int} {nm : Nm} (hf : c.found = none) : FOk (actC p c opn k0 pl ow nm).1 := by
  intro a k b h
  cases nm with
  | number =>
    have h' : (if p.limit < c.given + 1 - c.gone then some (c.made, ("over" : Str), c.given + 1) else c.found) = some (a, k, b) := h
    split at h'
    · cases h'
      exact .inl rfl
    · rw [hf] at h'
      cases h'
  | write =>
    have h' : c.found = some (a, k, b) := h
    rw [hf] at h'
    cases h'
  | tell =>
    have h' : c.found = some (a, k, b) := h
    rw [hf] at h'
    cases h'
  | test =>
    have h' : c.found = some (a, k, b) := h
    rw [hf] at h'
    cases h'
theorem step_txt {h : Nat} (O : Ok p c opn) (F : FOk c) (hh : h ≤ c.sides.length) : FOk (stepP p c opn h).1 ∧ NOk (stepP p c opn h).2.2 := by
  cases hfd : c.found with
  | some w0 =>
    rw [stepP_broken (p := p) (c := c) (opn := opn) (h := h) (by rw [hfd]; rfl)]
    exact ⟨F, .inl rfl⟩
  | none =>
    match h, hh with
    | 0, _ =>
      rw [stepP_t (p := p) (opn := opn) hfd]
      exact ⟨take_fok hfd, tName_ok _⟩
    | k + 1, hh =>
      have hk : c.sides[k]? = some c.sides[k] := List.getElem?_eq_getElem (by omega)
      generalize c.sides[k] = sd at hk
      obtain ⟨pl, ow⟩ := sd
      obtain ⟨p0, pL, pw⟩ := O.place k pl ow hk
      have hnm : (cycN p.two)[pl.toNat]? = some (cycN p.two)[pl.toNat] := List.getElem?_eq_getElem (by omega)
      generalize (cycN p.two)[pl.toNat] = nm at hnm
      cases hw : waitsB p { c with made := c.made + 1 } ow nm with
      | true =>
        rw [stepP_wait (opn := opn) hfd hk hnm hw]
        exact ⟨F, nm_ok _⟩
      | false =>
        obtain ⟨ow', ho⟩ := actC_side p { c with made := c.made + 1 } opn k pl ow nm hk
        rw [stepP_act hfd hk hnm hw ho]
        exact ⟨act_fok (c := { c with made := c.made + 1 }) hfd, nm_ok _⟩
end
/-! ### two equal things -/
section
variable {X : Cx} {K : PySem.W.Frag} {H : Hp} {Q : VK}
theorem ne_name {o : Option Str} (h : NOk o) (q : Q (.bl false) H) : rNeD K (nameV o) (nameV o) H Q := by
  have str : ∀ s : Str, SeqAt.shaped (.str s) = true → rNeD K (.str s) (.str s) H Q := fun s hs => ⟨.str s, .str s, .str s, .str s, hs, hs, by
    have e : PyData.eqv (.str s) (.str s) = true := by simp [PyData.eqv]
    rw [e]
    exact q⟩
  rcases h with rfl | rfl | rfl | rfl | rfl | rfl | rfl
  · exact ⟨.none, .none, .non, .non, by decide +kernel, by decide +kernel, q⟩
  · exact str _ (by decide +kernel)
  · exact str _ (by decide +kernel)
  · exact str _ (by decide +kernel)
  · exact str _ (by decide +kernel)
  · exact str _ (by decide +kernel)
  · exact str _ (by decide +kernel)
theorem ne_found {fv bv : V} {c : Core} (F : FOk c) (h1 : FoundAt H fv c.found) (h2 : FoundAt H bv c.found) (q : Q (.bl false) H) : rNeD K fv bv H Q := by
  cases hf : c.found with
  | none =>
    rw [hf] at h1 h2
    obtain rfl : fv = .non := h1
    obtain rfl : bv = .non := h2
    exact ⟨.none, .none, .non, .non, by decide +kernel, by decide +kernel, q⟩
  | some w0 =>
    obtain ⟨a, k, b⟩ := w0
    rw [hf] at h1 h2
    obtain ⟨t, rfl, ht⟩ := h1
    obtain ⟨u, rfl, hu⟩ := h2
    have hk : SeqAt.shaped (.tuple [.int a, .str k, .int b]) = true := by
      rcases F a k b hf with rfl | rfl
      · unfold SeqAt.shaped
        simp only [PyData.canLay0, PyData.canLayAll0, PyData.depth, PyData.depthAll, Bool.and_eq_true]
        exact ⟨⟨trivial, (by decide +kernel : PyData.strOk "over" = true), trivial, trivial⟩, rfl⟩
      · unfold SeqAt.shaped
        simp only [PyData.canLay0, PyData.canLayAll0, PyData.depth, PyData.depthAll, Bool.and_eq_true]
        exact ⟨⟨trivial, (by decide +kernel : PyData.strOk "read" = true), trivial, trivial⟩, rfl⟩
    refine ⟨.tuple [.int a, .str k, .int b], .tuple [.int a, .str k, .int b], .tup (SqT.of ht) (.cons (.int a) (.cons (.str k) (.cons (.int b) .nil))), .tup (SqT.of hu) (.cons (.int a) (.cons (.str k) (.cons (.int b) .nil))), hk, hk, ?_⟩
    have e : PyData.eqv (.tuple [.int a, .str k, .int b]) (.tuple [.int a, .str k, .int b]) = true := by simp [PyData.eqv, PyData.eqvAll]
    rw [e]
    exact q
theorem ne_three {t u : Addr} {a b c : Int} (ht : H t = some (.tup [.int a, .int b, .int c])) (hu : H u = some (.tup [.int a, .int b, .int c])) (q : Q (.bl false) H) : rNeD K (.ref t) (.ref u) H Q := by
  have hk : SeqAt.shaped (.tuple [.int a, .int b, .int c]) = true := by
    unfold SeqAt.shaped
    simp only [PyData.canLay0, PyData.canLayAll0, PyData.depth, PyData.depthAll, Bool.and_eq_true]
    exact ⟨⟨trivial, trivial, trivial, trivial⟩, rfl⟩
  refine ⟨.tuple [.int a, .int b, .int c], .tuple [.int a, .int b, .int c], .tup (SqT.of ht) (.cons (.int a) (.cons (.int b) (.cons (.int c) .nil))), .tup (SqT.of hu) (.cons (.int a) (.cons (.int b) (.cons (.int c) .nil))), hk, hk, ?_⟩
  have e : PyData.eqv (.tuple [.int a, .int b, .int c]) (.tuple [.int a, .int b, .int c]) = true := by simp [PyData.eqv, PyData.eqvAll]
  rw [e]
  exact q
end
end RI

set_option maxHeartbeats 4000000
namespace RI
open PySem PySem.Spec PyProof.Rows L2
local macro_rules | `(tactic| walk_at "rd") => `(tactic| dsimp only [tVar, tC, t2I, tOp, tUn, rI, rI0, rU, tCmp, tB, tAnd, tOr, tNot, tAndV, tOrV, tNotV, tIf, tNext, tSeq, tDrop, tRet, tRetN, tIfS, gName, gNil, gCons, gTup, gSub, tAsg, tPar, tAug, ipI, iList, iTup, iRng1, iRng2, tTest, tChain, rEq, rNe, tFld, sFld, tNil, tCons, tTup, tLst, tCall, tMeth, tMake, tCB, tSl, tPart, tNoPart, tProp, tMakeK, tMakeN, rIxL, rIxT, rSetL, tBM, tBM0, rAppend, rCat, C8.tCut, tYes, tDGet, tDIn, sDPut, tDNewK])
section
variable {X : Cx} {a : Expr} {ta : TE}
def rTupOf (K : PySem.W.Frag) : List V → Hp → VK → Prop := fun xs H Q => ∃ p ys, xs = [.ref p] ∧ ((SqL K H p ys ∧ ∀ l, H l = none → Q (.ref l) (upd H l (.tup ys))) ∨ (SqT K H p ys ∧ Q (.ref p) H))
theorem pe_tuple1 {p pos : Pos} (T : Txt X.K X.mg) (ha : PE X a ta) (hg : Gl X "tuple" := by rfl) (h1 : starEach [a] X.env = (false, eval a X.env) :: starEach [] X.env := by rfl) (hpl : (backTo pos (starEach [] X.env)).any (·.1) = false := by rfl) :
    PE X (.Call (.Name "tuple" p) [a] [] pos) (tCB (rTupOf X.K) (tCons ta tNil)) :=
  pe_callTy call_tuple_of hg T.b_tuple (by decide +kernel) (pa_cons ha pa_nil h1) (he := h1) (hpl := hpl)
end
theorem PoolAt.kp2 {S : List Addr} {H H' : Hp} {pl : Addr} (h : PoolAt H pl) (k : Kp S H H') (hp : pl ∉ S) (hS : ∀ b, b ∈ S → ∀ ys : List Int, H b = some (.lst (ys.map V.int)) → ∃ zs : List Int, H' b = some (.lst (zs.map V.int)) ∧ zs.length ≤ 1000) : PoolAt H' pl := by
  obtain ⟨cl, cs, i1, i2, i3, i4, h1, h2, h3, h4⟩ := h
  by_cases hc : cl ∈ S
  · obtain ⟨zs, e, hl⟩ := hS cl hc cs h2
    exact ⟨cl, zs, i1, i2, i3, i4, k _ _ h1 (.inl hp), e, hl, h4⟩
  · exact ⟨cl, cs, i1, i2, i3, i4, k _ _ h1 (.inl hp), k _ _ h2 (.inl hc), h3, h4⟩
section
variable {P : Program} {w : World} {K : PySem.W.Frag} {mg : Str → Option Value} {base : Heap}
def sp_levels (K : PySem.W.Frag) : Sp := fun vs H Q _ => ∃ (x cyc sl lt ol : Addr) (ss : List Addr) (p : Par) (c : Core) (opn : List Int), vs = [.ref x] ∧ RingAt K H x cyc sl lt ol ss p c opn ∧ ∀ t, H t = none → Q (.ref t) (upd H t (.tup [.int c.gone, .int c.told, .int c.given]))
theorem ok_g_levels (T : Txt K mg) : PrpOk P w K mg base 1 (aPutters K) "levels" (sp_levels K) := by
  refine T.p_g_levels.ok sc_g_levels (fun vs H Q E h => ?_) (fun _ _ _ _ _ _ us hl => match us, hl with | [_], _ => rfl) fun cdv A outer s H vs Q E f hr h => ?_
  · obtain ⟨x, cyc, sl, lt, ol, ss, p, c, opn, rfl, _⟩ := h
    rfl
  · refine ⟨_, pss_one (ps_ret (pe_tup (pa_cons (pe_fld (pv 0) rfl) (pa_cons (pe_fld (pv 0) rfl) (pa_cons (pe_fld (pv 0) rfl) pa_nil))))), ?_⟩
    walk_at "rd"
    obtain ⟨x, cyc, sl, lt, ol, ss, p, c, opn, rfl, R, q⟩ := h
    obtain ⟨dx, fv, hx, hf⟩ := R.ob
    exact ⟨_, rfl, x, _, _, _, _, rfl, hx, T.c_Putters, T.n_Putters_gone, rf_gone .., _, rfl, x, _, _, _, _, rfl, hx, T.c_Putters, T.n_Putters_told, rf_told .., _, rfl, x, _, _, _, _, rfl, hx, T.c_Putters, T.n_Putters_numbers_given, rf_given .., (by show 3 ≤ sizeLine; decide), q⟩
end
/-! ### the whole state of the law's loop -/
structure Wd (K : PySem.W.Frag) (H : Hp) (pl x cyc sl lt ol : Addr) (ss : List Addr) (g cyg cl hl lv : Addr) (hs : List Addr) (q : GP) (p : Par) (m n : Nat) (c : Core) (opn cs : List Int) : Prop where
  po : PoolAt H pl
  ri : RingAt K H x cyc sl lt ol ss p c opn
  ga : GameAt H g cyg cl hl lv hs q p c cs
  ok : Ok p c opn
  inv : c.found = none → InvN q p c opn cs
  fo : FOk c
  cl : cs.length = n
  sl : c.sides.length = m
structure Sep (pl : Addr) (rs gs : List Addr) : Prop where
  pr : pl ∉ rs
  pg : pl ∉ gs
  rg : ∀ a, a ∈ rs → a ∉ gs
section
variable {K : PySem.W.Frag} {H H' : Hp} {pl x cyc sl lt ol : Addr} {ss : List Addr} {g cyg cl hl lv : Addr} {hs : List Addr} {q : GP} {p : Par} {m n : Nat} {c c' : Core} {opn opn' cs cs' : List Int}
theorem Wd.draw (W : Wd K H pl x cyc sl lt ol ss g cyg cl hl lv hs q p m n c opn cs) (S : Sep pl (x :: cyc :: sl :: lt :: ol :: ss) (g :: cyg :: cl :: hl :: lv :: hs)) (k : Kp [pl] H H') (hp : PoolAt H' pl) : Wd K H' pl x cyc sl lt ol ss g cyg cl hl lv hs q p m n c opn cs :=
  ⟨hp, W.ri.kp k fun a ha z => S.pr (List.mem_singleton.mp z ▸ ha), W.ga.kp k fun a ha z => S.pg (List.mem_singleton.mp z ▸ ha), W.ok, W.inv, W.fo, W.cl, W.sl⟩
theorem Wd.same (W : Wd K H pl x cyc sl lt ol ss g cyg cl hl lv hs q p m n c opn cs) (k : Same H H') : Wd K H' pl x cyc sl lt ol ss g cyg cl hl lv hs q p m n c opn cs :=
  ⟨W.po.same k, W.ri.kp (S := []) (Kp.same k) (fun a _ => by simp), W.ga.kp (S := []) (Kp.same k) (fun a _ => by simp), W.ok, W.inv, W.fo, W.cl, W.sl⟩
theorem pool_ring (R : RingAt K H x cyc sl lt ol ss p c opn) (R' : RingAt K H' x cyc sl lt ol ss p c' opn') (hl : opn'.length ≤ 1000) (k : Kp (x :: ol :: ss) H H') (hp : PoolAt H pl) (S : Sep pl (x :: cyc :: sl :: lt :: ol :: ss) (g :: cyg :: cl :: hl' :: lv :: hs)) : PoolAt H' pl := by
  refine hp.kp2 k (fun z => S.pr ?_) fun b hb ys e => ?_
  · rcases List.mem_cons.mp z with rfl | z
    · simp
    · rcases List.mem_cons.mp z with rfl | z
      · simp
      · simp [z]
  · rcases List.mem_cons.mp hb with rfl | hb
    · obtain ⟨dx, fv, hx, _⟩ := R.ob
      rw [hx] at e
      cases e
    · rcases List.mem_cons.mp hb with rfl | hb
      · exact ⟨opn', R'.op, hl⟩
      · obtain ⟨j, hj⟩ := List.getElem?_of_mem hb
        obtain ⟨d, pl', ow, _, ha⟩ := R.sd j b hj
        rw [ha] at e
        cases e
theorem pool_game (G : GameAt H g cyg cl hl lv hs q p c cs) (G' : GameAt H' g cyg cl hl lv hs q p c' cs') (hl' : cs'.length ≤ 1000) (k : Kp (g :: cl :: lv :: hs) H H') (hp : PoolAt H pl) (S : Sep pl (x :: cyc :: sl :: lt :: ol :: ss) (g :: cyg :: cl :: hl :: lv :: hs)) : PoolAt H' pl := by
  refine hp.kp2 k (fun z => S.pg ?_) fun b hb ys e => ?_
  · rcases List.mem_cons.mp z with rfl | z
    · simp
    · rcases List.mem_cons.mp z with rfl | z
      · simp
      · rcases List.mem_cons.mp z with rfl | z
        · simp
        · simp [z]
  · rcases List.mem_cons.mp hb with rfl | hb
    · obtain ⟨bv, hg, _⟩ := G.ob
      rw [hg] at e
      cases e
    · rcases List.mem_cons.mp hb with rfl | hb
      · exact ⟨cs', G'.ce, hl'⟩
      · rcases List.mem_cons.mp hb with rfl | hb
        · exact ⟨[c'.gone, c'.told, c'.given], G'.le, by show 3 ≤ 1000; decide⟩
        · obtain ⟨j, hj⟩ := List.getElem?_of_mem hb
          obtain ⟨pl', ow, _, ha⟩ := G'.sd j b hj
          exact ⟨[pl', ow], ha, by show 2 ≤ 1000; decide⟩
end
end RI

set_option maxHeartbeats 4000000
namespace RI
open PySem PySem.Spec PyProof.Rows L2
local macro_rules | `(tactic| walk_at "rd") => `(tactic| dsimp only [tVar, tC, t2I, tOp, tUn, rI, rI0, rU, tCmp, tB, tAnd, tOr, tNot, tAndV, tOrV, tNotV, tIf, tNext, tSeq, tDrop, tRet, tRetN, tIfS, gName, gNil, gCons, gTup, gSub, tAsg, tPar, tAug, ipI, iList, iTup, iRng1, iRng2, tTest, tChain, rEq, rNe, tFld, sFld, tNil, tCons, tTup, tLst, tCall, tMeth, tMake, tCB, tSl, tPart, tNoPart, tProp, tMakeK, tMakeN, rIxL, rIxT, rSetL, tBM, tBM0, rAppend, rCat, C8.tCut, tYes, tDGet, tDIn, sDPut, tDNewK])
section
variable {K : PySem.W.Frag} {H H1 H2 : Hp} {pl x cyc sl lt ol : Addr} {ss : List Addr} {g cyg cl hl lv : Addr} {hs : List Addr} {q : GP} {p : Par} {m n : Nat} {c c' : Core} {opn opn' cs cs' : List Int}
theorem Wd.ga1 (W : Wd K H pl x cyc sl lt ol ss g cyg cl hl lv hs q p m n c opn cs) (S : Sep pl (x :: cyc :: sl :: lt :: ol :: ss) (g :: cyg :: cl :: hl :: lv :: hs)) (k : Kp (x :: ol :: ss) H H1) : GameAt H1 g cyg cl hl lv hs q p c cs :=
  W.ga.kp k fun a ha z => S.rg a (by
    rcases List.mem_cons.mp z with rfl | z
    · simp
    · rcases List.mem_cons.mp z with rfl | z
      · simp
      · simp [z]) ha
theorem Wd.step (W : Wd K H pl x cyc sl lt ol ss g cyg cl hl lv hs q p m n c opn cs) (S : Sep pl (x :: cyc :: sl :: lt :: ol :: ss) (g :: cyg :: cl :: hl :: lv :: hs)) {h : Nat} (Z : StepSim q p c opn cs h) (F : FOk (stepP p c opn h).1) (hn : n ≤ 1000) (ho : (stepP p c opn h).2.1.length ≤ 1000)
    (k1 : Kp (x :: ol :: ss) H H1) (R1 : RingAt K H1 x cyc sl lt ol ss p (stepP p c opn h).1 (stepP p c opn h).2.1) (k2 : Kp (g :: cl :: lv :: hs) H1 H2) (G2 : GameAt H2 g cyg cl hl lv hs q p (lawStep q p c cs h).1 (lawStep q p c cs h).2.1) :
    Wd K H2 pl x cyc sl lt ol ss g cyg cl hl lv hs q p m n (stepP p c opn h).1 (stepP p c opn h).2.1 (lawStep q p c cs h).2.1 := by
  have G1 := W.ga1 S k1
  have P1 := pool_ring W.ri R1 ho k1 W.po S
  have hc2 : (lawStep q p c cs h).2.1.length ≤ 1000 := by
    rw [Z.cl, W.cl]
    exact hn
  have P2 := pool_game G1 G2 hc2 k2 P1 S
  refine ⟨P2, R1.kp k2 (fun a ha z => S.rg a ha ?_), ?_, Z.ok, Z.inv, F, by rw [Z.cl]; exact W.cl, by rw [Z.sl]; exact W.sl⟩
  · rcases List.mem_cons.mp z with rfl | z
    · simp
    · rcases List.mem_cons.mp z with rfl | z
      · simp
      · rcases List.mem_cons.mp z with rfl | z
        · simp
        · simp [z]
  · have e := Z.core
    rw [e] at G2
    exact G2
end
theorem tell_at {i : Int} (i0 : 0 ≤ i) (i1 : i < 2) : ∃ b, atI [V.str "turn", V.str "any"] i = some (.str (tellS b)) := by
  have : i = 0 ∨ i = 1 := by omega
  rcases this with rfl | rfl
  · exact ⟨true, rfl⟩
  · exact ⟨false, rfl⟩
theorem test_at {i : Int} (i0 : 0 ≤ i) (i1 : i < 3) : ∃ b, atI [V.str "one", V.str "one", V.str "two"] i = some (.str (testS b)) := by
  have : i = 0 ∨ i = 1 ∨ i = 2 := by omega
  rcases this with rfl | rfl | rfl
  · exact ⟨false, rfl⟩
  · exact ⟨false, rfl⟩
  · exact ⟨true, rfl⟩
theorem base_at {i r M : Int} (i0 : 0 ≤ i) (i1 : i < 2) (r0 : 0 ≤ r) (r1 : r ≤ M) : ∃ z, atI [V.int 0, V.int r] i = some (.int z) ∧ 0 ≤ z ∧ z ≤ M := by
  have : i = 0 ∨ i = 1 := by omega
  rcases this with rfl | rfl
  · exact ⟨0, rfl, by decide, by omega⟩
  · exact ⟨r, rfl, r0, r1⟩
theorem other_at {m : Nat} (m1 : 1 ≤ m) (m4 : m ≤ 4) : ∃ s : Str, atI [V.str "b", V.str "c", V.str "d", V.str "T"] ((m : Int) - 1) = some (.str s) ∧ inV (.str s) (lettersV m) = false := by
  match m, m1, m4 with
  | 1, _, _ => exact ⟨"b", rfl, by decide +kernel⟩
  | 2, _, _ => exact ⟨"c", rfl, by decide +kernel⟩
  | 3, _, _ => exact ⟨"d", rfl, by decide +kernel⟩
  | 4, _, _ => exact ⟨"T", rfl, by decide +kernel⟩
theorem bad_str {m : Nat} (m1 : 1 ≤ m) (m4 : m ≤ 4) {s : Str} (h : inV (.str s) (lettersV 4) = false) (h1 : inV (.str s) (lettersV 1) = false) (h2 : inV (.str s) (lettersV 2) = false) (h3 : inV (.str s) (lettersV 3) = false) : BadHand m (.str s) := by
  match m, m1, m4 with
  | 1, _, _ => exact .inl ⟨s, rfl, h1⟩
  | 2, _, _ => exact .inl ⟨s, rfl, h2⟩
  | 3, _, _ => exact .inl ⟨s, rfl, h3⟩
  | 4, _, _ => exact .inl ⟨s, rfl, h⟩
theorem bad_at {m : Nat} {s : Str} {i : Int} (m1 : 1 ≤ m) (m4 : m ≤ 4) (hs : inV (.str s) (lettersV m) = false) (i0 : 0 ≤ i) (i1 : i < 6) : ∃ v, atI [V.str "p", V.str "e", V.str "", V.str s, V.int 0, V.str "aa"] i = some v ∧ BadHand m v := by
  have : i = 0 ∨ i = 1 ∨ i = 2 ∨ i = 3 ∨ i = 4 ∨ i = 5 := by omega
  rcases this with rfl | rfl | rfl | rfl | rfl | rfl
  · exact ⟨.str "p", rfl, bad_str m1 m4 (by decide +kernel) (by decide +kernel) (by decide +kernel) (by decide +kernel)⟩
  · exact ⟨.str "e", rfl, bad_str m1 m4 (by decide +kernel) (by decide +kernel) (by decide +kernel) (by decide +kernel)⟩
  · exact ⟨.str "", rfl, bad_str m1 m4 (by decide +kernel) (by decide +kernel) (by decide +kernel) (by decide +kernel)⟩
  · exact ⟨.str s, rfl, .inl ⟨s, rfl, hs⟩⟩
  · exact ⟨.int 0, rfl, .inr ⟨0, rfl⟩⟩
  · exact ⟨.str "aa", rfl, bad_str m1 m4 (by decide +kernel) (by decide +kernel) (by decide +kernel) (by decide +kernel)⟩
theorem hand_at {i : Int} (i0 : 0 ≤ i) (i1 : i < 5) : atI [V.str "t", V.str "a", V.str "b", V.str "c", V.str "d"] i = some (.str (handS i.toNat)) := by
  have : i = 0 ∨ i = 1 ∨ i = 2 ∨ i = 3 ∨ i = 4 := by omega
  rcases this with rfl | rfl | rfl | rfl | rfl <;> rfl
section
variable {P : Program} {w : World} {K : PySem.W.Frag} {mg : Str → Option Value} {base : Heap}
def sp_law (K : PySem.W.Frag) : Sp := fun vs H Q _ => ∃ (a : Addr) (ns : List Int), vs = [.ref a] ∧ SqL K H a (ns.map V.int) ∧ ns.length ≤ 63 ∧ ∀ H', Q (.bl true) H'
theorem law_len : ∀ (vs : List V) (H : Hp) (Q : VK) (E : XK), sp_law K vs H Q E → vs.length = p_law.length := fun vs H Q E h => by
  obtain ⟨a, ns, rfl, _⟩ := h
  rfl
theorem law_body (T : Txt K mg) (N : Nst P K mg) : Body P w K mg base n_law "law" s_law 12 (sp_law K) := by
  intro cdv A outer s H vs Q E f hr h
  · have hu := hu_of hr
    have hu64 := hr.units
    have hr2 : Room 2 _ := hr.mono (by decide)
    refine ⟨_, (pss_cons (ps_set (i := 1) sc_law.nd rfl (Or.inl rfl) (pe_callG (ok_law_pool T) (hr.mono (by decide)) (pa_cons (pv 0) pa_nil)))
      (pss_cons (ps_asg (pe_callG (ok_law_counter_row T) (hr.mono (by decide)) (pa_cons (pv 1) pa_nil)) (pg_tup rfl (pgs_cons (pg_name (i := 2) sc_law.nd rfl (Or.inl rfl)) (pgs_cons (pg_name (i := 3) sc_law.nd rfl (Or.inl rfl)) pgs_nil))))
      (pss_cons (ps_set (i := 4) sc_law.nd rfl (Or.inl rfl) (pe_ix ix_tup (pe_callG (ok_law_due T) (hr.mono (by decide)) (pa_cons (pv 2) (pa_cons (pv 3) pa_nil))) pe_int (fun _ _ => rfl)))
      (pss_cons (ps_set (i := 5) sc_law.nd rfl (Or.inl rfl) (pe_op op_add pe_int (pe_callG (ok_law_draw T) (hr.mono (by decide)) (pa_cons (pv 1) (pa_cons pe_int pa_nil)))))
      (pss_cons (ps_set (i := 6) sc_law.nd rfl (Or.inl rfl) (pe_ix ix_tup (pe_tup (pa_cons pe_str (pa_cons pe_str pa_nil))) (pe_callG (ok_law_draw T) (hr.mono (by decide)) (pa_cons (pv 1) (pa_cons pe_int pa_nil))) (fun _ _ => rfl)))
      (pss_cons (ps_set (i := 7) sc_law.nd rfl (Or.inl rfl) (pe_ix ix_tup (pe_tup (pa_cons pe_str (pa_cons pe_str (pa_cons pe_str pa_nil)))) (pe_callG (ok_law_draw T) (hr.mono (by decide)) (pa_cons (pv 1) (pa_cons pe_int pa_nil))) (fun _ _ => rfl)))
      (pss_cons (ps_set (i := 8) sc_law.nd rfl (Or.inl rfl) (pe_ix ix_tup (pe_tup (pa_cons pe_int (pa_cons (pe_callG (ok_law_wide T) (hr.mono (by decide)) (pa_cons (pv 1) (pa_cons (pe_op op_pow pe_int pe_int) pa_nil))) pa_nil))) (pe_callG (ok_law_draw T) (hr.mono (by decide)) (pa_cons (pv 1) (pa_cons pe_int pa_nil))) (fun _ _ => rfl)))
      (pss_cons (ps_set (i := 9) sc_law.nd rfl (Or.inl rfl) (pe_mkK (n := 3) (ok_putters_init T) hr (pa_cons (pe_callG (ok_law_made T) (hr.mono (by decide)) (pa_cons (pv 2) (pa_cons pe_str pa_nil))) (pa_cons (pv 3) (pa_cons (pv 5) pa_nil))) (pk_cons (pv 6) (pk_cons (pv 7) (pk_cons (pv 8) pk_nil)))))
      (pss_cons (ps_set (i := 10) sc_law.nd rfl (Or.inl rfl) (pe_callG (ok_law_game T) (hr.mono (by decide)) (pa_cons (pv 2) (pa_cons (pv 3) (pa_cons (pv 5) (pa_cons (pv 6) (pa_cons (pv 7) (pa_cons (pv 4) (pa_cons (pv 8) pa_nil)))))))))
      (pss_cons (ps_if (pt_not (pt_val (pe_callG (ok_law_refused T N) (hr.mono (by decide)) (pa_cons (pv 9) (pa_cons (pe_ix ix_tup (pe_tup (pa_cons pe_str (pa_cons pe_str (pa_cons pe_str (pa_cons (pe_ix ix_tup (pe_tup (pa_cons pe_str (pa_cons pe_str (pa_cons pe_str (pa_cons pe_str pa_nil))))) (pe_op op_sub (pv 5) pe_int) (fun _ _ => rfl)) (pa_cons pe_int (pa_cons pe_str pa_nil))))))) (pe_callG (ok_law_draw T) (hr.mono (by decide)) (pa_cons (pv 1) (pa_cons pe_int pa_nil))) (fun _ _ => rfl)) pa_nil))))) pss_never pss_nil)
      (pss_cons (ps_for PassesOwn.never rfl (pi_range1 rfl T.b_range (pa_cons (pe_op op_add pe_int (pe_callG (ok_law_draw T) (hr.mono (by decide)) (pa_cons (pv 1) (pa_cons pe_int pa_nil)))) pa_nil)) (pg_name (i := 11) sc_law.nd rfl (Or.inl rfl))
      (pss_cons (ps_set (i := 12) sc_law.nd rfl (Or.inl rfl) (pe_ix ix_tup (pe_tup (pa_cons pe_str (pa_cons pe_str (pa_cons pe_str (pa_cons pe_str (pa_cons pe_str pa_nil)))))) (pe_op op_mod (pe_int1 T (pe_callG (ok_law_draw T) (hr.mono (by decide)) (pa_cons (pv 1) (pa_cons pe_int pa_nil)))) (pe_op op_add (pv 5) pe_int)) (fun _ _ => rfl)))
      (pss_one (ps_for PassesOwn.never rfl (pi_range1 rfl T.b_range (pa_cons (pe_op op_add pe_int (pe_callG (ok_law_draw T) (hr.mono (by decide)) (pa_cons (pv 1) (pa_cons pe_int pa_nil)))) pa_nil)) (pg_name (i := 13) sc_law.nd rfl (Or.inl rfl))
      (pss_cons (ps_if (pt_cmpR (op_neD hu64) (pe_mthG (pv 9) T.c_Putters (ok_step T) (hr.mono (by decide)) (pa_cons (pv 12) pa_nil)) (pe_callG (ok_law_step T) (hr.mono (by decide)) (pa_cons (pv 10) (pa_cons (pv 12) pa_nil))) (nomark _)) pss_never pss_nil)
      (pss_cons (ps_if (pw_or (pt_cmpR (op_neD hu64) (pe_prpG (ok_g_broken T) hr2 T.c_Putters (pv 9)) (pe_dget hu (pv 10) pe_str (fun _ _ => rfl)) (nomark _)) (pw_or1 (pt_cmpR op_ne (pe_prpG (ok_g_steps T) hr2 T.c_Putters (pv 9)) (pe_dget hu (pv 10) pe_str (fun _ _ => rfl)) (nomark _)))).pt pss_never pss_nil)
      (pss_one (ps_if (pt_cmpR (op_neD hu64) (pe_prpG (ok_g_levels T) hr2 T.c_Putters (pv 9)) (pe_tuple1 T (pe_dget hu (pv 10) pe_str (fun _ _ => rfl))) (nomark _)) pss_never pss_nil))))))))
      (pss_one (ps_ret pe_bl))))))))))))), ?_⟩
    walk_at "rd"
    obtain ⟨a, ns, rfl, hS, hl0, q⟩ := h
    refine ⟨_, rfl, a, ns, rfl, hS, hl0, fun pl H1 s1 fpl hp1 => ?_⟩
    refine ⟨_, rfl, pl, rfl, hp1, fun t v r n H2 hm n1 n2 hrt hR ht hp2 k2 => ?_⟩
    refine ⟨t, _, rfl, SqT.of ht, rfl, _, _, rfl, _, _, rfl, rfl, ?_⟩
    refine ⟨_, rfl, _, rfl, v, r, n, rfl, hR, hm, n1, n2, fun p3 H3 s3 hp3 => ⟨p3, _, 1, _, rfl, rfl, SqT.of hp3, rfl, ?_⟩⟩
    -- many
    refine ⟨_, rfl, pl, 4, rfl, hp2.same s3, by decide, by decide, fun i4 H4 a0 a1 hp4 k4 => ⟨_, _, rfl, rfl, ?_⟩⟩
    obtain ⟨m, em⟩ : ∃ m : Nat, 1 + i4 = (m : Int) := ⟨(1 + i4).toNat, by omega⟩
    rw [em]
    have m1 : 1 ≤ m := by omega
    have m4 : m ≤ 4 := by omega
    have hR4 := (hR.same s3).kp k4
    -- telling
    refine ⟨(by show 2 ≤ sizeLine; decide), fun p5 e5 => ⟨_, rfl, pl, 2, rfl, hp4.same (Same.new e5), by decide, by decide, fun i5 H5 c0 c1 hp5 k5 => ?_⟩⟩
    obtain ⟨b1, hb1⟩ := tell_at c0 c1
    refine ⟨p5, _, i5, _, rfl, rfl, SqT.of (k5.tup upd_same), hb1, ?_⟩
    have hR5 := (hR4.same (Same.new (o := .tup [.str "turn", .str "any"]) e5)).kp k5
    -- testing
    refine ⟨(by show 3 ≤ sizeLine; decide), fun p6 e6 => ⟨_, rfl, pl, 3, rfl, hp5.same (Same.new e6), by decide, by decide, fun i6 H6 d0 d1 hp6 k6 => ?_⟩⟩
    obtain ⟨b2, hb2⟩ := test_at d0 d1
    refine ⟨p6, _, i6, _, rfl, rfl, SqT.of (k6.tup upd_same), hb2, ?_⟩
    have hR6 := (hR5.same (Same.new (o := .tup [.str "one", .str "one", .str "two"]) e6)).kp k6
    -- base
    have c40 : CPow 10 40 := ⟨by decide, by decide, by decide⟩
    have h40 : (0 : Int) ≤ 10 ^ (40 : Int).toNat := by decide +kernel
    have e40 : (10 : Int) ^ (40 : Int).toNat = 10 ^ 40 := by decide +kernel
    refine ⟨_, rfl, _, _, rfl, rfl, c40, pl, _, rfl, hp6, h40, fun rb H7 r0 r1 hp7 k7 => ⟨(by show 2 ≤ sizeLine; decide), fun p7 e7 => ⟨_, rfl, pl, 2, rfl, hp7.same (Same.new e7), by decide, by decide, fun i7 H8 f0 f1 hp8 k8 => ?_⟩⟩⟩
    obtain ⟨bz, hbz, z0, z1⟩ := base_at f0 f1 r0 r1
    rw [e40] at z1
    refine ⟨p7, _, i7, _, rfl, rfl, SqT.of (k8.tup upd_same), hbz, ?_⟩
    have hR8 := (((hR6.kp k7).same (Same.new (o := .tup [.int 0, .int rb]) e7))).kp k8
    -- the ring
    refine ⟨_, rfl, v, r, rfl, hR8, hm, fun sc H9 s9 hsc => ?_⟩
    refine ⟨_, rfl, _, rfl, _, rfl, _, rfl, _, rfl, rfl, rfl, fun x dx hx hdx ne => ?_⟩
    have sx : Same H9 (upd (upd H9 dx (.own x)) x (.ins (aPutters K) dx [])) := (Same.new hdx).trans (Same.new (by rw [upd_ne (Ne.symm ne)]; exact hx))
    refine ⟨x, dx, sc, r, n, m, b1, b2, bz, rfl, upd_same, hsc.same sx, right_of hm n1 n2 hrt, m1, m4, z0, z1, fun cyc sl lt ol ss HR kx R fr => ⟨rfl, ?_⟩⟩
    have s10 : Same H9 HR := fun b o e => kx b o (sx b o e) (by
      have : b ≠ x := ne_of_none e hx
      simpa using this)
    have fr9 : ∀ a, a ∈ x :: cyc :: sl :: lt :: ol :: ss → H9 a = none := fun a ha => by
      rcases List.mem_cons.mp ha with rfl | ha
      · exact hx
      · exact sx.free (fr a ha)
    have inR : ∀ a, a ∈ x :: cyc :: sl :: lt :: ol :: ss → ∃ o, HR a = some o := fun a ha => by
      rcases List.mem_cons.mp ha with rfl | ha
      · obtain ⟨d, fv, h, _⟩ := R.ob
        exact ⟨_, h⟩
      · rcases List.mem_cons.mp ha with rfl | ha
        · exact ⟨_, R.cy⟩
        · rcases List.mem_cons.mp ha with rfl | ha
          · exact ⟨_, R.si⟩
          · rcases List.mem_cons.mp ha with rfl | ha
            · exact ⟨_, R.le⟩
            · rcases List.mem_cons.mp ha with rfl | ha
              · exact ⟨_, R.op⟩
              · obtain ⟨j, hj⟩ := List.getElem?_of_mem ha
                obtain ⟨d, _, _, _, h⟩ := R.sd j a hj
                exact ⟨_, h⟩
    have hp9 := hp8.same s9
    have hp10 := hp9.same s10
    have hR10 := (hR8.same s9).same s10
    -- the game
    refine ⟨_, rfl, _, rfl, _, rfl, _, rfl, _, rfl, _, rfl, _, rfl, v, r, n, m, b1, b2, roomF r.brim n (modF r.turn n), bz, rfl, hR10, hm, n1, n2, m1, m4, fun g cyg cl hl lv hs HG sG G fG => ?_⟩
    have hpl9 : ∃ o, H9 pl = some o := by
      obtain ⟨_, _, _, _, _, _, h, _⟩ := hp9
      exact ⟨_, h⟩
    have S : Sep pl (x :: cyc :: sl :: lt :: ol :: ss) (g :: cyg :: cl :: hl :: lv :: hs) := by
      obtain ⟨o, ho⟩ := hpl9
      refine ⟨fun z => ?_, fun z => ?_, fun b hb z => ?_⟩
      · rw [fr9 pl z] at ho
        cases ho
      · have := s10 _ _ ho
        rw [fG pl z] at this
        cases this
      · obtain ⟨o2, ho2⟩ := inR b hb
        rw [fG b z] at ho2
        cases ho2
    have Gm := geom_of (base := bz) hm n1 n2 hrt b1 b2
    generalize hq : (⟨r.rule, n, modF r.turn n, bz⟩ : GP) = gq at G Gm
    generalize hp : (⟨roomF r.brim n (modF r.turn n), b1, b2⟩ : Par) = pp at G Gm R
    have hlim : 1 ≤ pp.limit := by
      rw [← hp]
      exact of_decide_eq_true (bt hrt).1
    have hnn : n.toNat ≤ 12 := by omega
    have W0 : Wd K HG pl x cyc sl lt ol ss g cyg cl hl lv hs gq pp m n.toNat (core0 m) [] (List.replicate n.toNat 0) :=
      ⟨hp10.same sG, R.kp (S := []) (Kp.same sG) (fun a _ => by simp), G, start_ok m1 m4, fun _ => start_inv hlim, (fun a k b z => nomatch z), List.length_replicate .., List.length_replicate ..⟩
    -- a hand that it does not know
    obtain ⟨so, hso, hso2⟩ := other_at m1 m4
    refine ⟨_, rfl, (by show 4 ≤ sizeLine; decide), fun p8 e8 => ⟨_, rfl, _, _, rfl, rfl, p8, _, (m : Int) - 1, _, rfl, rfl, SqT.of upd_same, hso, (by show 6 ≤ sizeLine; decide), fun p9 e9 => ?_⟩⟩
    have W1 := (W0.same (Same.new (o := .tup [.str "b", .str "c", .str "d", .str "T"]) e8)).same (Same.new (o := .tup [.str "p", .str "e", .str "", .str so, .int 0, .str "aa"]) e9)
    refine ⟨_, rfl, pl, 6, rfl, W1.po, by decide, by decide, fun i9 HA g0 g1 hpA kA => ?_⟩
    have W2 := W1.draw S kA hpA
    obtain ⟨vb, hvb, hbad⟩ := bad_at m1 m4 hso2 g0 g1
    refine ⟨p9, _, i9, _, rfl, rfl, SqT.of (kA.tup upd_same), hvb, ?_⟩
    refine ⟨x, cyc, sl, lt, ol, ss, pp, core0 m, [], vb, rfl, W2.ri, (by rw [W2.sl]; exact hbad), fun HB sB => ⟨_, rfl, if_f rfl ?_⟩⟩
    have W3 := W2.same sB
    -- the loop
    refine ⟨_, rfl, pl, 40, rfl, W3.po, by decide, by decide, fun i10 HC j0 j1 hpC kC => ⟨_, _, rfl, rfl, _, rfl, by omega, by omega, ?_⟩⟩
    have W4 := W3.draw S kC hpC
    refine for_range (lo := 0) (n := (1 + i10).toNat) (fun i σ H' => ∃ c opn cs o11 o12 o13, σ = [some (.ref a), some (.ref pl), some v, some (.int n), some (.int (roomF r.brim n (modF r.turn n))), some (.int (m : Int)), some (.str (tellS b1)), some (.str (testS b2)), some (.int bz), some (.ref x), some (.ref g), o11, o12, o13] ∧
      Wd K H' pl x cyc sl lt ol ss g cyg cl hl lv hs gq pp m n.toNat c opn cs ∧ opn.length ≤ 3 * i) ⟨core0 m, [], _, none, none, none, rfl, W4, Nat.le_refl _⟩ ?_ ?_
    · rintro i σ HD hi ⟨c, opn, cs, o11, o12, o13, rfl, W, hfew⟩
      walk_at "rd"
      refine ⟨(by show 5 ≤ sizeLine; decide), fun p1 e1 => ?_⟩
      have W5 := W.same (Same.new (o := .tup [.str "t", .str "a", .str "b", .str "c", .str "d"]) e1)
      refine ⟨_, rfl, pl, 12, rfl, W5.po, by decide, by decide, fun ih HE x0 x1 hpE kE => .inl ⟨_, rfl, _, rfl, _, _, rfl, rfl, _, _, rfl, rfl, by omega, ?_⟩⟩
      have W6 := W5.draw S kE hpE
      have y0 := Int.emod_nonneg ih (show (m : Int) + 1 ≠ 0 by omega)
      have y1 := Int.emod_lt_of_pos ih (show (0 : Int) < (m : Int) + 1 by omega)
      refine ⟨p1, _, ih % ((m : Int) + 1), _, rfl, rfl, SqT.of (kE.tup upd_same), hand_at y0 (by omega), ?_⟩
      have hh : (ih % ((m : Int) + 1)).toNat ≤ m := by omega
      generalize (ih % ((m : Int) + 1)).toNat = h at hh ⊢
      refine ⟨_, rfl, pl, 3, rfl, W6.po, by decide, by decide, fun i3 HF u0 u1 hpF kF => ⟨_, _, rfl, rfl, _, rfl, by omega, by omega, ?_⟩⟩
      have W7 := W6.draw S kF hpF
      refine for_range (lo := 0) (n := (1 + i3).toNat) (fun j σ H' => ∃ c opn cs o13, σ = [some (.ref a), some (.ref pl), some v, some (.int n), some (.int (roomF r.brim n (modF r.turn n))), some (.int (m : Int)), some (.str (tellS b1)), some (.str (testS b2)), some (.int bz), some (.ref x), some (.ref g), some (.int (0 + (i : Int))), some (.str (handS h)), o13] ∧
        Wd K H' pl x cyc sl lt ol ss g cyg cl hl lv hs gq pp m n.toNat c opn cs ∧ opn.length ≤ 3 * i + j) ⟨c, opn, cs, _, rfl, W7, hfew⟩ ?_ ?_
      · rintro j σ HG2 hj ⟨c, opn, cs, o13, rfl, W, hfew⟩
        walk_at "rd"
        have hsl : h ≤ c.sides.length := by
          rw [W.sl]
          exact hh
        have Gm' : Geom gq pp cs.length := by
          rw [W.cl]
          exact Gm
        have Z := step_sim Gm' W.ok W.inv hsl
        obtain ⟨F1, N1⟩ := step_txt W.ok W.fo hsl
        have fw : opn.length < 900 := by omega
        have OC : OkC pp c opn := ⟨W.ok.many, W.ok.taker, W.ok.place, by omega⟩
        have OL : OkL gq pp c cs := ⟨Gm'.n0, Gm'.m0, W.ok.many, W.ok.taker, fun k pl' ow hk => ⟨(W.ok.place k pl' ow hk).1, (W.ok.place k pl' ow hk).2.1⟩, Gm'.cell⟩
        obtain ⟨dxa, fva, hxa, _⟩ := W.ri.ob
        refine ⟨_, rfl, x, _, _, rfl, hxa, rf_mStep .., _, rfl, x, cyc, sl, lt, ol, ss, pp, c, opn, h, rfl, W.ri, OC, hsl, fun Ha ka Ra => ?_⟩
        refine ⟨_, rfl, _, rfl, g, cyg, cl, hl, lv, hs, gq, pp, c, cs, h, rfl, W.ga1 S ka, OL, hsl, fun Hb kb Gb => ?_⟩
        have W8 := W.step S Z F1 (by omega) (by have := Z.few; omega) ka Ra kb Gb
        rw [Z.name]
        refine ne_name N1 ⟨_, rfl, if_f rfl ?_⟩
        have few8 := Z.few
        generalize (stepP pp c opn h).1 = c2 at W8 F1
        generalize (stepP pp c opn h).2.1 = opn2 at W8 few8
        generalize (lawStep gq pp c cs h).2.1 = cs2 at W8
        obtain ⟨dxb, fvb, hxb, hfb⟩ := W8.ri.ob
        obtain ⟨bvb, hgb, hgf⟩ := W8.ga.ob
        refine ⟨_, rfl, x, dxb, _, rfl, hxb, ⟨x, dxb, _, _, rfl, hxb, rf_found .., _, rfl, g, _, rfl, dg hgb (gd_broken ..), ?_⟩⟩
        refine ne_found F1 hfb hgf ⟨_, rfl, if_f rfl ?_⟩
        refine ⟨_, rfl, x, dxb, _, rfl, hxb, ⟨x, dxb, _, _, rfl, hxb, rf_made .., _, rfl, g, _, rfl, dg hgb (gd_steps ..), rfl, _, rfl, if_f (by rw [decide_eq_true rfl]; rfl) ?_⟩⟩
        refine ⟨_, rfl, x, dxb, _, rfl, hxb, x, cyc, sl, lt, ol, ss, pp, c2, opn2, rfl, W8.ri, fun t1 ht1 => ?_⟩
        have W9 := W8.same (Same.new (o := .tup [.int c2.gone, .int c2.told, .int c2.given]) ht1)
        have ht1' : upd Hb t1 (.tup [.int c2.gone, .int c2.told, .int c2.given]) t1 = _ := upd_same
        generalize upd Hb t1 (.tup [.int c2.gone, .int c2.told, .int c2.given]) = Hc at W9 ht1' ⊢
        obtain ⟨bvc, hgc, _⟩ := W9.ga.ob
        refine ⟨_, rfl, g, _, rfl, dg hgc (gd_levels ..), lv, _, rfl, .inl ⟨SqL.of W9.ga.le, fun t2 ht2 => ?_⟩⟩
        have W10 := W9.same (Same.new (o := .tup [.int c2.gone, .int c2.told, .int c2.given]) ht2)
        have st2 : Same Hc (upd Hc t2 (.tup [.int c2.gone, .int c2.told, .int c2.given])) := Same.new ht2
        refine ne_three (st2 _ _ ht1') upd_same ⟨_, rfl, if_f rfl ?_⟩
        exact ⟨c2, opn2, cs2, _, rfl, W10, by omega⟩
      · rintro σ HH ⟨c, opn, cs, o13, rfl, W, hfew⟩
        exact ⟨c, opn, cs, _, _, _, rfl, W, by omega⟩
    · rintro σ HH ⟨c, opn, cs, o11, o12, o13, rfl, W, hfew⟩
      exact q HH
end
end RI

set_option maxHeartbeats 0
namespace RI
open PySem PySem.Spec PyProof.Rows L2
theorem law_facts {w : World} {K : PySem.W.Frag} {h : Heap} {mg : Str → Option Value} {f : Addr} (X : K.In h) (G : h.Ns mainGlobals mg) (hfa : mg ("law" : Str) = some (.ref f)) (c : SaysR fa fn K) :
    ∃ fd : FuncData, (∀ (s : Shared) (v : Value), BindsTo s fd ⟨[v], []⟩ [("_law_script", v)]) ∧ ∀ base : Heap, K.In base → base.Ns mainGlobals mg → FnOk PySem.Challenge.pw_ringindexes_k72_whole_putters_beside_slo w K mg base CX0 13 f fd ["_law_script"] (sp_law K) := by
  have T := txt X G c
  have N := nst X G c
  obtain ⟨f', fd, F, hm⟩ := T.f_law.ex
  have e := hfa.symm.trans hm
  cases e
  refine ⟨fd, fun s v => FunD.bindsA (ps := ["_law_script"]) F (fun _ _ _ _ _ _ us hl => match us, hl with | [_], _ => rfl) s [v] rfl, fun base _ _ => F.ok sc_law law_len fun cdv A outer s H vs Q E hr hsp => ?_⟩
  obtain ⟨t, hb, q⟩ := law_body T N cdv A outer s H vs Q E f hr hsp
  exact ⟨t, hb.nox, q⟩
end RI
open PySem PySem.W PySem.Calls PyProof.Rows
theorem PySem.Challenge.cw_ringindexes_k72_whole_putters_beside_slo_holds : PySem.Challenge.rw_ringindexes_k72_whole_putters_beside_slo.Holds := by
  w_on; o_law
  refine HandSHeadRun.head_any (r := OpenLaw.row PySem.Challenge.rw_ringindexes_k72_whole_putters_beside_slo) (q := view (OpenLaw.row PySem.Challenge.rw_ringindexes_k72_whole_putters_beside_slo).prog [99]) (H := RI.hk) (ob := RI.ob) (M := 40000) (loose := RI.names) (d := HandSHeadRun.topDef (OpenLaw.row PySem.Challenge.rw_ringindexes_k72_whole_putters_beside_slo).prog 99) (kwd := []) RI.ob_eq
    (by kernel_rfl) (fun s => by kernel_rfl) RI.run (by kernel_rfl) (by kernel_rfl) (by kernel_rfl) (by rfl) (by first | assumption | decide +kernel) (by decide +kernel) ⟨rfl, rfl, rfl, rfl, rfl, by decide +kernel⟩ ?hw ?hc
  case hw => w_witness2
  case hc =>
    refine L2.walk_ofE (l := PySem.Challenge.rw_ringindexes_k72_whole_putters_beside_slo) (n := 63) (k := 13) (x := "_law_script") (CX := L2.CX0) rfl (by decide) (by kernel_rfl) ⟨rfl, by decide, by decide⟩ ?F (fun _ _ _ _ z => z)
    intro w mg fa h Y G hmg0
    obtain ⟨K, KX, c⟩ := Y
    have hmg : mg ("law" : PySem.Str) = some (.ref fa) := by
      have e : (HandSHeadRun.topDef (OpenLaw.row PySem.Challenge.rw_ringindexes_k72_whole_putters_beside_slo).prog 99).name = ("law" : PySem.Str) := by kernel_rfl
      rw [← e]
      exact hmg0
    obtain ⟨fd, hb, hF⟩ := RI.law_facts (w := w) KX G hmg c
    refine ⟨K, fd, RI.sp_law K, KX, hb, fun H a ns hl _ hS => ⟨a, ns, rfl, hS, hl, fun _ => rfl⟩, hF⟩
