import PyProof.Rows.All
import Wide.All
import OpenK.AllK
import Wide.FinOn
import HandS.ForMost
import HandS.Defaults
import HandS.HeadHook1
import HandS.HeadHook2
import KE.KStateDown
import HandS.Head0
import HandS.Head1
import HandS.Head2
import HandS.HeadEnd
import HandS.HeadHook3
import HandS.HeadHook4
import HandS.HeadWalk
import HandS.Walk
import HandS.Zip
import HandS.Rev
import HandS.TupAny
import HandS.TupMul
import HandS.IsInst
import HandS.MakeKw
import HandS.MakeKwOnly
import HandS.Wide
import HandS.WideBits
import HandS.Finally
import HandS.NoneIn
import HandS.Conv
import HandS.Style
import HandS.SortKw
import HandS.Deep
import HandS.DictComp
import HandS.Flow
import HandS.Lambda
import HandS.Nested
import HandS.CallLocal
import KE.KMinKey
import KE.GoesMore
import HandS.Steps
import HandS.Codes
import KE.GoesEnumKw
import PyProof.CollectIter
import KE.KUnpack
import PyProof.NeKinds
import KE.Datum
import PySem.Challenge.RW_viewgrid_k95_whole_reckoned_again_and_ag
-- VgText
set_option Elab.async false
set_option linter.all false
set_option maxRecDepth 100000
namespace VG
open PySem L2
def top (i : Nat) : Stmt := PySem.Challenge.pw_viewgrid_k95_whole_reckoned_again_and_ag.main.body.getD i (.Pass ⟨0, 0, 0, 0⟩)
abbrev s_is_whole : Stmt := top 17
abbrev s_size_of : Stmt := top 18
abbrev s_vet_size : Stmt := top 19
abbrev s_vet_sides : Stmt := top 20
abbrev s_places_of : Stmt := top 21
abbrev s_whole_place : Stmt := top 22
abbrev s_number_of : Stmt := top 23
abbrev s_common_length : Stmt := top 24
abbrev s_common_sides : Stmt := top 25
abbrev s_side_of : Stmt := top 26
abbrev s_unlike_sides : Stmt := top 27
abbrev s_dense_strides : Stmt := top 28
abbrev s_Page_init : Stmt := inClass (top 31) 0
abbrev s_Room_init : Stmt := inClass (top 32) 0
abbrev s_Room_len : Stmt := inClass (top 32) 1
abbrev s_Room_need : Stmt := inClass (top 32) 2
abbrev s_Room_read : Stmt := inClass (top 32) 3
abbrev s_Room_own_page : Stmt := inClass (top 32) 4
abbrev s_Room_write : Stmt := inClass (top 32) 5
abbrev s_Room_numbers : Stmt := inClass (top 32) 6
abbrev s_Room_twin : Stmt := inClass (top 32) 7
abbrev s_Room_is_shut : Stmt := inClass (top 32) 10
abbrev s_vet_strides : Stmt := top 35
abbrev s_cells_by : Stmt := top 36
abbrev s_vet_cells : Stmt := top 37
abbrev s_View_init : Stmt := inClass (top 38) 0
abbrev s_View_tell : Stmt := inClass (top 38) 1
abbrev s_View_room : Stmt := inClass (top 38) 2
abbrev s_View_sides : Stmt := inClass (top 38) 3
abbrev s_View_first : Stmt := inClass (top 38) 4
abbrev s_View_strides : Stmt := inClass (top 38) 5
abbrev s_View_cells : Stmt := inClass (top 38) 6
abbrev s_View_cell : Stmt := inClass (top 38) 7
abbrev s_View_at : Stmt := inClass (top 38) 8
abbrev s_View_put : Stmt := inClass (top 38) 9
abbrev s_View_numbers : Stmt := inClass (top 38) 10
abbrev s_View_len : Stmt := inClass (top 38) 12
abbrev s_View_twin : Stmt := inClass (top 38) 16
abbrev s_plain_view : Stmt := top 39
abbrev s_new_view : Stmt := top 40
abbrev s_wide_stride : Stmt := top 42
abbrev s_widened : Stmt := top 43
abbrev s_twice_in : Stmt := top 45
abbrev s_need_unlike : Stmt := top 47
abbrev s_need_open : Stmt := top 48
abbrev s_written : Stmt := top 49
abbrev s_asked_shut : Stmt := top 51
abbrev s_answer_of : Stmt := top 52
abbrev s_need_target : Stmt := top 53
abbrev s_together : Stmt := top 54
abbrev s_others_of : Stmt := top 55
abbrev s_along : Stmt := top 56
abbrev s_laid_along : Stmt := top 57
abbrev s_need_some : Stmt := top 58
abbrev s_run_row : Stmt := top 59
abbrev s_running : Stmt := top 60
abbrev s_sums : Stmt := top 61
abbrev s_first_by : Stmt := top 62
abbrev s_least : Stmt := top 63
abbrev s_l_purse : Stmt := top 65
abbrev s_l_take : Stmt := top 66
abbrev s_l_places : Stmt := top 67
abbrev s_l_cells : Stmt := top 68
abbrev s_l_lengths : Stmt := top 69
abbrev s_l_number : Stmt := top 70
abbrev s_l_reach : Stmt := top 72
abbrev s_l_room : Stmt := top 73
abbrev s_l_unlike_steps : Stmt := top 75
abbrev s_l_source : Stmt := top 76
abbrev s_l_over : Stmt := top 77
abbrev s_l_wide : Stmt := top 78
abbrev s_l_shown : Stmt := top 79
abbrev s_l_read : Stmt := top 80
abbrev s_l_into : Stmt := top 81
abbrev s_l_along : Stmt := top 82
abbrev s_l_side : Stmt := top 83
abbrev s_law : Stmt := top 84
abbrev n_is_whole : List Str := ["thing"]
theorem sc_is_whole : FnScope n_is_whole ["thing"] (defScope s_is_whole) := ⟨rfl, rfl, rfl, by decide +kernel, rfl, by decide +kernel, by decide +kernel⟩
abbrev n_size_of : List Str := ["sides", "size", "length"]
theorem sc_size_of : FnScope n_size_of ["sides"] (defScope s_size_of) := ⟨rfl, rfl, rfl, by decide +kernel, rfl, by decide +kernel, by decide +kernel⟩
abbrev n_vet_size : List Str := ["lengths", "size"]
theorem sc_vet_size : FnScope n_vet_size ["lengths"] (defScope s_vet_size) := ⟨rfl, rfl, rfl, by decide +kernel, rfl, by decide +kernel, by decide +kernel⟩
abbrev n_vet_sides : List Str := ["thing", "spot", "length"]
theorem sc_vet_sides : FnScope n_vet_sides ["thing"] (defScope s_vet_sides) := ⟨rfl, rfl, rfl, by decide +kernel, rfl, by decide +kernel, by decide +kernel⟩
abbrev n_places_of : List Str := ["sides", "found", "length", "place", "k"]
theorem sc_places_of : FnScope n_places_of ["sides"] (defScope s_places_of) := ⟨rfl, rfl, rfl, by decide +kernel, rfl, by decide +kernel, by decide +kernel⟩
abbrev n_whole_place : List Str := ["lengths", "place", "k", "length"]
theorem sc_whole_place : FnScope n_whole_place ["lengths", "place"] (defScope s_whole_place) := ⟨rfl, rfl, rfl, by decide +kernel, rfl, by decide +kernel, by decide +kernel⟩
abbrev n_number_of : List Str := ["sides", "place", "number", "k", "length"]
theorem sc_number_of : FnScope n_number_of ["sides", "place"] (defScope s_number_of) := ⟨rfl, rfl, rfl, by decide +kernel, rfl, by decide +kernel, by decide +kernel⟩
abbrev n_common_length : List Str := ["column", "side", "unlike", "length"]
theorem sc_common_length : FnScope n_common_length ["column", "side"] (defScope s_common_length) := ⟨rfl, rfl, rfl, by decide +kernel, rfl, by decide +kernel, by decide +kernel⟩
abbrev n_common_sides : List Str := ["some", "found", "behind", "lengths", "column", "sides"]
theorem sc_common_sides : FnScope n_common_sides ["some"] (defScope s_common_sides) := ⟨rfl, rfl, rfl, by decide +kernel, rfl, by decide +kernel, by decide +kernel⟩
abbrev n_side_of : List Str := ["side", "many"]
theorem sc_side_of : FnScope n_side_of ["side", "many"] (defScope s_side_of) := ⟨rfl, rfl, rfl, by decide +kernel, rfl, by decide +kernel, by decide +kernel⟩
abbrev n_unlike_sides : List Str := ["some", "many", "found", "side", "spot"]
theorem sc_unlike_sides : FnScope n_unlike_sides ["some", "many"] (defScope s_unlike_sides) := ⟨rfl, rfl, rfl, by decide +kernel, rfl, by decide +kernel, by decide +kernel⟩
abbrev n_dense_strides : List Str := ["lengths", "found", "step", "length"]
theorem sc_dense_strides : FnScope n_dense_strides ["lengths"] (defScope s_dense_strides) := ⟨rfl, rfl, rfl, by decide +kernel, rfl, by decide +kernel, by decide +kernel⟩
abbrev n_Page_init : List Str := ["self", "kept"]
theorem sc_Page_init : FnScope n_Page_init ["self", "kept"] (defScope s_Page_init) := ⟨rfl, rfl, rfl, by decide +kernel, rfl, by decide +kernel, by decide +kernel⟩
abbrev n_Room_init : List Str := ["self", "numbers", "page", "at"]
theorem sc_Room_init : FnScope n_Room_init ["self", "numbers", "page"] (defScope s_Room_init) := ⟨rfl, rfl, rfl, by decide +kernel, rfl, by decide +kernel, by decide +kernel⟩
abbrev n_Room_len : List Str := ["self"]
theorem sc_Room_len : FnScope n_Room_len ["self"] (defScope s_Room_len) := ⟨rfl, rfl, rfl, by decide +kernel, rfl, by decide +kernel, by decide +kernel⟩
abbrev n_Room_need : List Str := ["self", "cell"]
theorem sc_Room_need : FnScope n_Room_need ["self", "cell"] (defScope s_Room_need) := ⟨rfl, rfl, rfl, by decide +kernel, rfl, by decide +kernel, by decide +kernel⟩
abbrev n_Room_read : List Str := ["self", "cell"]
theorem sc_Room_read : FnScope n_Room_read ["self", "cell"] (defScope s_Room_read) := ⟨rfl, rfl, rfl, by decide +kernel, rfl, by decide +kernel, by decide +kernel⟩
abbrev n_Room_own_page : List Str := ["self", "at", "page"]
theorem sc_Room_own_page : FnScope n_Room_own_page ["self", "at"] (defScope s_Room_own_page) := ⟨rfl, rfl, rfl, by decide +kernel, rfl, by decide +kernel, by decide +kernel⟩
abbrev n_Room_write : List Str := ["self", "cell", "number"]
theorem sc_Room_write : FnScope n_Room_write ["self", "cell", "number"] (defScope s_Room_write) := ⟨rfl, rfl, rfl, by decide +kernel, rfl, by decide +kernel, by decide +kernel⟩
abbrev n_Room_numbers : List Str := ["self", "page", "number"]
theorem sc_Room_numbers : FnScope n_Room_numbers ["self"] (defScope s_Room_numbers) := ⟨rfl, rfl, rfl, by decide +kernel, rfl, by decide +kernel, by decide +kernel⟩
abbrev n_Room_twin : List Str := ["self", "found", "page"]
theorem sc_Room_twin : FnScope n_Room_twin ["self"] (defScope s_Room_twin) := ⟨rfl, rfl, rfl, by decide +kernel, rfl, by decide +kernel, by decide +kernel⟩
abbrev n_Room_is_shut : List Str := ["self"]
theorem sc_Room_is_shut : FnScope n_Room_is_shut ["self"] (defScope s_Room_is_shut) := ⟨rfl, rfl, rfl, by decide +kernel, rfl, by decide +kernel, by decide +kernel⟩
abbrev n_vet_strides : List Str := ["thing", "many", "spot", "step"]
theorem sc_vet_strides : FnScope n_vet_strides ["thing", "many"] (defScope s_vet_strides) := ⟨rfl, rfl, rfl, by decide +kernel, rfl, by decide +kernel, by decide +kernel⟩
abbrev n_cells_by : List Str := ["lengths", "begin", "steps", "found", "length", "step", "cell", "k"]
theorem sc_cells_by : FnScope n_cells_by ["lengths", "begin", "steps"] (defScope s_cells_by) := ⟨rfl, rfl, rfl, by decide +kernel, rfl, by decide +kernel, by decide +kernel⟩
abbrev n_vet_cells : List Str := ["many", "lengths", "begin", "steps", "place", "cell"]
theorem sc_vet_cells : FnScope n_vet_cells ["many", "lengths", "begin", "steps"] (defScope s_vet_cells) := ⟨rfl, rfl, rfl, by decide +kernel, rfl, by decide +kernel, by decide +kernel⟩
abbrev n_View_init : List Str := ["self", "room", "sides", "first", "strides", "lengths", "steps"]
theorem sc_View_init : FnScope n_View_init ["self", "room", "sides", "first", "strides"] (defScope s_View_init) := ⟨rfl, rfl, rfl, by decide +kernel, rfl, by decide +kernel, by decide +kernel⟩
abbrev n_View_tell : List Str := ["self", "lengths", "begin", "steps", "length", "step"]
theorem sc_View_tell : FnScope n_View_tell ["self", "lengths", "begin", "steps"] (defScope s_View_tell) := ⟨rfl, rfl, rfl, by decide +kernel, rfl, by decide +kernel, by decide +kernel⟩
abbrev n_View_room : List Str := ["self"]
theorem sc_View_room : FnScope n_View_room ["self"] (defScope s_View_room) := ⟨rfl, rfl, rfl, by decide +kernel, rfl, by decide +kernel, by decide +kernel⟩
abbrev n_View_sides : List Str := ["self"]
theorem sc_View_sides : FnScope n_View_sides ["self"] (defScope s_View_sides) := ⟨rfl, rfl, rfl, by decide +kernel, rfl, by decide +kernel, by decide +kernel⟩
abbrev n_View_first : List Str := ["self"]
theorem sc_View_first : FnScope n_View_first ["self"] (defScope s_View_first) := ⟨rfl, rfl, rfl, by decide +kernel, rfl, by decide +kernel, by decide +kernel⟩
abbrev n_View_strides : List Str := ["self"]
theorem sc_View_strides : FnScope n_View_strides ["self"] (defScope s_View_strides) := ⟨rfl, rfl, rfl, by decide +kernel, rfl, by decide +kernel, by decide +kernel⟩
abbrev n_View_cells : List Str := ["self"]
theorem sc_View_cells : FnScope n_View_cells ["self"] (defScope s_View_cells) := ⟨rfl, rfl, rfl, by decide +kernel, rfl, by decide +kernel, by decide +kernel⟩
abbrev n_View_cell : List Str := ["self", "place", "whole", "k", "step"]
theorem sc_View_cell : FnScope n_View_cell ["self", "place"] (defScope s_View_cell) := ⟨rfl, rfl, rfl, by decide +kernel, rfl, by decide +kernel, by decide +kernel⟩
abbrev n_View_at : List Str := ["self", "place"]
theorem sc_View_at : FnScope n_View_at ["self", "place"] (defScope s_View_at) := ⟨rfl, rfl, rfl, by decide +kernel, rfl, by decide +kernel, by decide +kernel⟩
abbrev n_View_put : List Str := ["self", "place", "number"]
theorem sc_View_put : FnScope n_View_put ["self", "place", "number"] (defScope s_View_put) := ⟨rfl, rfl, rfl, by decide +kernel, rfl, by decide +kernel, by decide +kernel⟩
abbrev n_View_numbers : List Str := ["self", "cell"]
theorem sc_View_numbers : FnScope n_View_numbers ["self"] (defScope s_View_numbers) := ⟨rfl, rfl, rfl, by decide +kernel, rfl, by decide +kernel, by decide +kernel⟩
abbrev n_View_len : List Str := ["self"]
theorem sc_View_len : FnScope n_View_len ["self"] (defScope s_View_len) := ⟨rfl, rfl, rfl, by decide +kernel, rfl, by decide +kernel, by decide +kernel⟩
abbrev n_View_twin : List Str := ["self"]
theorem sc_View_twin : FnScope n_View_twin ["self"] (defScope s_View_twin) := ⟨rfl, rfl, rfl, by decide +kernel, rfl, by decide +kernel, by decide +kernel⟩
abbrev n_plain_view : List Str := ["room", "lengths", "begin", "steps", "found"]
theorem sc_plain_view : FnScope n_plain_view ["room", "lengths", "begin", "steps"] (defScope s_plain_view) := ⟨rfl, rfl, rfl, by decide +kernel, rfl, by decide +kernel, by decide +kernel⟩
abbrev n_new_view : List Str := ["lengths", "numbers"]
theorem sc_new_view : FnScope n_new_view ["lengths", "numbers"] (defScope s_new_view) := ⟨rfl, rfl, rfl, by decide +kernel, rfl, by decide +kernel, by decide +kernel⟩
abbrev n_wide_stride : List Str := ["own", "stride", "asked", "side"]
theorem sc_wide_stride : FnScope n_wide_stride ["own", "stride", "asked", "side"] (defScope s_wide_stride) := ⟨rfl, rfl, rfl, by decide +kernel, rfl, by decide +kernel, by decide +kernel⟩
abbrev n_widened : List Str := ["view", "sides", "own", "steps", "behind", "length", "stride", "asked"]
theorem sc_widened : FnScope n_widened ["view", "sides"] (defScope s_widened) := ⟨rfl, rfl, rfl, by decide +kernel, rfl, by decide +kernel, by decide +kernel⟩
abbrev n_twice_in : List Str := ["view", "first", "later", "place", "cell", "found"]
theorem sc_twice_in : FnScope n_twice_in ["view"] (defScope s_twice_in) := ⟨rfl, rfl, rfl, by decide +kernel, rfl, by decide +kernel, by decide +kernel⟩
abbrev n_need_unlike : List Str := ["target", "found", "one", "other"]
theorem sc_need_unlike : FnScope n_need_unlike ["target"] (defScope s_need_unlike) := ⟨rfl, rfl, rfl, by decide +kernel, rfl, by decide +kernel, by decide +kernel⟩
abbrev n_need_open : List Str := ["room"]
theorem sc_need_open : FnScope n_need_open ["room"] (defScope s_need_open) := ⟨rfl, rfl, rfl, by decide +kernel, rfl, by decide +kernel, by decide +kernel⟩
abbrev n_written : List Str := ["target", "source", "laid", "place", "number"]
theorem sc_written : FnScope n_written ["target", "source"] (defScope s_written) := ⟨rfl, rfl, rfl, by decide +kernel, rfl, by decide +kernel, by decide +kernel⟩
abbrev n_asked_shut : List Str := ["rooms", "deed", "first", "rest"]
theorem sc_asked_shut : FnScope n_asked_shut ["rooms", "deed"] (defScope s_asked_shut) := ⟨rfl, rfl, rfl, by decide +kernel, rfl, by decide +kernel, by decide +kernel⟩
abbrev n_answer_of : List Str := ["deed", "numbers"]
theorem sc_answer_of : FnScope n_answer_of ["deed", "numbers"] (defScope s_answer_of) := ⟨rfl, rfl, rfl, by decide +kernel, rfl, by decide +kernel, by decide +kernel⟩
abbrev n_need_target : List Str := ["lengths", "into"]
theorem sc_need_target : FnScope n_need_target ["lengths", "into"] (defScope s_need_target) := ⟨rfl, rfl, rfl, by decide +kernel, rfl, by decide +kernel, by decide +kernel⟩
abbrev n_together : List Str := ["deed", "views", "into", "lengths", "view", "rooms", "rows", "spots", "told", "row", "at", "found"]
theorem sc_together : FnScope n_together ["deed", "views", "into"] (defScope s_together) := ⟨rfl, rfl, rfl, by decide +kernel, rfl, by decide +kernel, by decide +kernel⟩
abbrev n_others_of : List Str := ["lengths", "at"]
theorem sc_others_of : FnScope n_others_of ["lengths", "at"] (defScope s_others_of) := ⟨rfl, rfl, rfl, by decide +kernel, rfl, by decide +kernel, by decide +kernel⟩
abbrev n_along : List Str := ["view", "at", "lengths", "spots", "others", "spot", "place"]
theorem sc_along : FnScope n_along ["view", "at"] (defScope s_along) := ⟨rfl, rfl, rfl, by decide +kernel, rfl, by decide +kernel, by decide +kernel⟩
abbrev n_laid_along : List Str := ["lengths", "at", "rows", "others", "place"]
theorem sc_laid_along : FnScope n_laid_along ["lengths", "at", "rows"] (defScope s_laid_along) := ⟨rfl, rfl, rfl, by decide +kernel, rfl, by decide +kernel, by decide +kernel⟩
abbrev n_need_some : List Str := ["lengths", "at", "others"]
theorem sc_need_some : FnScope n_need_some ["lengths", "at"] (defScope s_need_some) := ⟨rfl, rfl, rfl, by decide +kernel, rfl, by decide +kernel, by decide +kernel⟩
abbrev n_run_row : List Str := ["deed", "row", "found", "number"]
theorem sc_run_row : FnScope n_run_row ["deed", "row"] (defScope s_run_row) := ⟨rfl, rfl, rfl, by decide +kernel, rfl, by decide +kernel, by decide +kernel⟩
abbrev n_running : List Str := ["view", "deed", "side", "at", "rows", "found", "row"]
theorem sc_running : FnScope n_running ["view", "deed", "side"] (defScope s_running) := ⟨rfl, rfl, rfl, by decide +kernel, rfl, by decide +kernel, by decide +kernel⟩
abbrev n_sums : List Str := ["view", "some", "start", "keep", "lengths", "gone", "left", "at", "length", "stay", "totals", "place", "number"]
theorem sc_sums : FnScope n_sums ["view", "some", "start", "keep"] (defScope s_sums) := ⟨rfl, rfl, rfl, by decide +kernel, rfl, by decide +kernel, by decide +kernel⟩
abbrev n_first_by : List Str := ["view", "side", "default", "rank", "lengths", "rows", "at", "row"]
theorem sc_first_by : FnScope n_first_by ["view", "side", "default", "rank"] (defScope s_first_by) := ⟨rfl, rfl, rfl, by decide +kernel, rfl, by decide +kernel, by decide +kernel⟩
abbrev n_least : List Str := ["view", "side", "default"]
theorem sc_least : FnScope n_least ["view", "side", "default"] (defScope s_least) := ⟨rfl, rfl, rfl, by decide +kernel, rfl, by decide +kernel, by decide +kernel⟩
abbrev n_l_purse : List Str := ["_law_script", "_law_at", "_law_cell", "_law_far"]
theorem sc_l_purse : FnScope n_l_purse ["_law_script", "_law_at"] (defScope s_l_purse) := ⟨rfl, rfl, rfl, by decide +kernel, rfl, by decide +kernel, by decide +kernel⟩
abbrev n_l_take : List Str := ["_law_purse_here", "_law_many", "_law_digit", "_law_primes", "_law_step", "_law_base", "_law_mixed"]
theorem sc_l_take : FnScope n_l_take ["_law_purse_here", "_law_many"] (defScope s_l_take) := ⟨rfl, rfl, rfl, by decide +kernel, rfl, by decide +kernel, by decide +kernel⟩
abbrev n_l_places : List Str := ["_law_lengths_here", "_law_found", "_law_length", "_law_longer", "_law_place", "_law_number_here"]
theorem sc_l_places : FnScope n_l_places ["_law_lengths_here"] (defScope s_l_places) := ⟨rfl, rfl, rfl, by decide +kernel, rfl, by decide +kernel, by decide +kernel⟩
abbrev n_l_cells : List Str := ["_law_lengths_here", "_law_begin", "_law_steps_here", "_law_found", "_law_place", "_law_cell", "_law_number_here", "_law_step"]
theorem sc_l_cells : FnScope n_l_cells ["_law_lengths_here", "_law_begin", "_law_steps_here"] (defScope s_l_cells) := ⟨rfl, rfl, rfl, by decide +kernel, rfl, by decide +kernel, by decide +kernel⟩
abbrev n_l_lengths : List Str := ["_law_purse_here", "_law_most", "_law_found", "_law_size", "_law_turn", "_law_wide_here", "_law_length"]
theorem sc_l_lengths : FnScope n_l_lengths ["_law_purse_here", "_law_most"] (defScope s_l_lengths) := ⟨rfl, rfl, rfl, by decide +kernel, rfl, by decide +kernel, by decide +kernel⟩
abbrev n_l_number : List Str := ["_law_purse_here", "_law_wide_here"]
theorem sc_l_number : FnScope n_l_number ["_law_purse_here"] (defScope s_l_number) := ⟨rfl, rfl, rfl, by decide +kernel, rfl, by decide +kernel, by decide +kernel⟩
abbrev n_l_reach : List Str := ["_law_lengths_here", "_law_steps_here", "_law_way", "_law_found", "_law_length", "_law_step"]
theorem sc_l_reach : FnScope n_l_reach ["_law_lengths_here", "_law_steps_here", "_law_way"] (defScope s_l_reach) := ⟨rfl, rfl, rfl, by decide +kernel, rfl, by decide +kernel, by decide +kernel⟩
abbrev n_l_room : List Str := ["_law_purse_here", "_law_many", "_law_k"]
theorem sc_l_room : FnScope n_l_room ["_law_purse_here", "_law_many"] (defScope s_l_room) := ⟨rfl, rfl, rfl, by decide +kernel, rfl, by decide +kernel, by decide +kernel⟩
abbrev n_l_unlike_steps : List Str := ["_law_purse_here", "_law_lengths_here", "_law_left", "_law_step", "_law_found", "_law_length", "_law_at"]
theorem sc_l_unlike_steps : FnScope n_l_unlike_steps ["_law_purse_here", "_law_lengths_here"] (defScope s_l_unlike_steps) := ⟨rfl, rfl, rfl, by decide +kernel, rfl, by decide +kernel, by decide +kernel⟩
abbrev n_l_source : List Str := ["_law_purse_here", "_law_many", "_law_lengths_here", "_law_steps_here", "_law_lens", "_law_length", "_law_own", "_law_found", "_law_at", "_law_some", "_law_step", "_law_far", "_law_low", "_law_high"]
theorem sc_l_source : FnScope n_l_source ["_law_purse_here", "_law_many", "_law_lengths_here", "_law_steps_here"] (defScope s_l_source) := ⟨rfl, rfl, rfl, by decide +kernel, rfl, by decide +kernel, by decide +kernel⟩
abbrev n_l_over : List Str := ["_law_purse_here", "_law_most", "_law_apart", "_law_lengths_here", "_law_steps_here", "_law_low", "_law_high", "_law_ahead", "_law_many", "_law_room_here", "_law_target_look", "_law_hall", "_law_lens", "_law_begin", "_law_found", "_law_source_look", "_law_mine"]
theorem sc_l_over : FnScope n_l_over ["_law_purse_here", "_law_most", "_law_apart"] (defScope s_l_over) := ⟨rfl, rfl, rfl, by decide +kernel, rfl, by decide +kernel, by decide +kernel⟩
abbrev n_l_wide : List Str := ["_law_lengths_here", "_law_lens", "_law_cells_here", "_law_found", "_law_place", "_law_at", "_law_number_here", "_law_length"]
theorem sc_l_wide : FnScope n_l_wide ["_law_lengths_here", "_law_lens", "_law_cells_here"] (defScope s_l_wide) := ⟨rfl, rfl, rfl, by decide +kernel, rfl, by decide +kernel, by decide +kernel⟩
abbrev n_l_shown : List Str := ["_law_tables", "_law_rooms", "_law_look_here", "_law_which", "_law_lens", "_law_cells_here", "_law_cell"]
theorem sc_l_shown : FnScope n_l_shown ["_law_tables", "_law_rooms"] (defScope s_l_shown) := ⟨rfl, rfl, rfl, by decide +kernel, rfl, by decide +kernel, by decide +kernel⟩
abbrev n_l_read : List Str := ["_law_one", "_law_rooms", "_law_lengths_here", "_law_cell"]
theorem sc_l_read : FnScope n_l_read ["_law_one", "_law_rooms", "_law_lengths_here"] (defScope s_l_read) := ⟨rfl, rfl, rfl, by decide +kernel, rfl, by decide +kernel, by decide +kernel⟩
abbrev n_l_into : List Str := ["_law_purse_here", "_law_tables", "_law_rooms", "_law_mine", "_law_way", "_law_one", "_law_other", "_law_a_row", "_law_b_row", "_law_due", "_law_a", "_law_b", "_law_told", "_law_cell", "_law_number_here"]
theorem sc_l_into : FnScope n_l_into ["_law_purse_here", "_law_tables", "_law_rooms"] (defScope s_l_into) := ⟨rfl, rfl, rfl, by decide +kernel, rfl, by decide +kernel, by decide +kernel⟩
abbrev n_l_along : List Str := ["_law_lengths_here", "_law_at", "_law_places_here", "_law_found", "_law_other", "_law_spot"]
theorem sc_l_along : FnScope n_l_along ["_law_lengths_here", "_law_at"] (defScope s_l_along) := ⟨rfl, rfl, rfl, by decide +kernel, rfl, by decide +kernel, by decide +kernel⟩
abbrev n_l_side : List Str := ["_law_purse_here", "_law_tables", "_law_rooms", "_law_look_here", "_law_which", "_law_lens", "_law_cells_here", "_law_at", "_law_way", "_law_told", "_law_spots", "_law_row", "_law_spot", "_law_so_far", "_law_k"]
theorem sc_l_side : FnScope n_l_side ["_law_purse_here", "_law_tables", "_law_rooms"] (defScope s_l_side) := ⟨rfl, rfl, rfl, by decide +kernel, rfl, by decide +kernel, by decide +kernel⟩
abbrev n_law : List Str := ["_law_script", "_law_k", "_law_purse_here", "_law_mine", "_law_yours", "_law_twin", "_law_rooms", "_law_tables", "_law_kept", "_law_turn", "_law_told", "_law_cell", "_law_due"]
theorem sc_law : FnScope n_law ["_law_script"] (defScope s_law) := ⟨rfl, rfl, rfl, by decide +kernel, rfl, by decide +kernel, by decide +kernel⟩
end VG
-- VgFa
set_option Elab.async false
set_option linter.all false
set_option maxRecDepth 100000
set_option maxHeartbeats 0
namespace VG
open PySem PySem.Spec PyProof.Rows L2
abbrev R : PySem.W.OpenRow := PySem.W.OpenLaw.row PySem.Challenge.rw_viewgrid_k95_whole_reckoned_again_and_ag
def d_is_whole : He.DefD := ⟨("is_whole", none), "is_whole", "is_whole", defArgs s_is_whole, defBody s_is_whole, defScope s_is_whole, [], []⟩
def d_size_of : He.DefD := ⟨("size_of", none), "size_of", "size_of", defArgs s_size_of, defBody s_size_of, defScope s_size_of, [], []⟩
def d_vet_size : He.DefD := ⟨("vet_size", none), "vet_size", "vet_size", defArgs s_vet_size, defBody s_vet_size, defScope s_vet_size, [], []⟩
def d_vet_sides : He.DefD := ⟨("vet_sides", none), "vet_sides", "vet_sides", defArgs s_vet_sides, defBody s_vet_sides, defScope s_vet_sides, [], []⟩
def d_places_of : He.DefD := ⟨("places_of", none), "places_of", "places_of", defArgs s_places_of, defBody s_places_of, defScope s_places_of, [], []⟩
def d_whole_place : He.DefD := ⟨("whole_place", none), "whole_place", "whole_place", defArgs s_whole_place, defBody s_whole_place, defScope s_whole_place, [], []⟩
def d_number_of : He.DefD := ⟨("number_of", none), "number_of", "number_of", defArgs s_number_of, defBody s_number_of, defScope s_number_of, [], []⟩
def d_common_length : He.DefD := ⟨("common_length", none), "common_length", "common_length", defArgs s_common_length, defBody s_common_length, defScope s_common_length, [], []⟩
def d_common_sides : He.DefD := ⟨("common_sides", none), "common_sides", "common_sides", defArgs s_common_sides, defBody s_common_sides, defScope s_common_sides, [], []⟩
def d_side_of : He.DefD := ⟨("side_of", none), "side_of", "side_of", defArgs s_side_of, defBody s_side_of, defScope s_side_of, [], []⟩
def d_unlike_sides : He.DefD := ⟨("unlike_sides", none), "unlike_sides", "unlike_sides", defArgs s_unlike_sides, defBody s_unlike_sides, defScope s_unlike_sides, [], []⟩
def d_dense_strides : He.DefD := ⟨("dense_strides", none), "dense_strides", "dense_strides", defArgs s_dense_strides, defBody s_dense_strides, defScope s_dense_strides, [], []⟩
def d_Page_init : He.DefD := ⟨("Page", some "__init__"), "__init__", "Page.__init__", defArgs s_Page_init, defBody s_Page_init, defScope s_Page_init, [], []⟩
def d_Room_init : He.DefD := ⟨("Room", some "__init__"), "__init__", "Room.__init__", defArgs s_Room_init, defBody s_Room_init, defScope s_Room_init, [.adr (He.dflAt ("Room", some "__init__") 0)], [("page", .int 8)]⟩
def d_Room_len : He.DefD := ⟨("Room", some "__len__"), "__len__", "Room.__len__", defArgs s_Room_len, defBody s_Room_len, defScope s_Room_len, [], []⟩
def d_Room_need : He.DefD := ⟨("Room", some "need"), "need", "Room.need", defArgs s_Room_need, defBody s_Room_need, defScope s_Room_need, [], []⟩
def d_Room_read : He.DefD := ⟨("Room", some "read"), "read", "Room.read", defArgs s_Room_read, defBody s_Room_read, defScope s_Room_read, [], []⟩
def d_Room_own_page : He.DefD := ⟨("Room", some "own_page"), "own_page", "Room.own_page", defArgs s_Room_own_page, defBody s_Room_own_page, defScope s_Room_own_page, [], []⟩
def d_Room_write : He.DefD := ⟨("Room", some "write"), "write", "Room.write", defArgs s_Room_write, defBody s_Room_write, defScope s_Room_write, [], []⟩
def d_Room_numbers : He.DefD := ⟨("Room", some "numbers"), "numbers", "Room.numbers", defArgs s_Room_numbers, defBody s_Room_numbers, defScope s_Room_numbers, [], []⟩
def d_Room_twin : He.DefD := ⟨("Room", some "twin"), "twin", "Room.twin", defArgs s_Room_twin, defBody s_Room_twin, defScope s_Room_twin, [], []⟩
def d_Room_is_shut : He.DefD := ⟨("Room", some "is_shut"), "is_shut", "Room.is_shut", defArgs s_Room_is_shut, defBody s_Room_is_shut, defScope s_Room_is_shut, [], []⟩
def d_vet_strides : He.DefD := ⟨("vet_strides", none), "vet_strides", "vet_strides", defArgs s_vet_strides, defBody s_vet_strides, defScope s_vet_strides, [], []⟩
def d_cells_by : He.DefD := ⟨("cells_by", none), "cells_by", "cells_by", defArgs s_cells_by, defBody s_cells_by, defScope s_cells_by, [], []⟩
def d_vet_cells : He.DefD := ⟨("vet_cells", none), "vet_cells", "vet_cells", defArgs s_vet_cells, defBody s_vet_cells, defScope s_vet_cells, [], []⟩
def d_View_init : He.DefD := ⟨("View", some "__init__"), "__init__", "View.__init__", defArgs s_View_init, defBody s_View_init, defScope s_View_init, [.non], [("first", .int 0), ("strides", .non)]⟩
def d_View_tell : He.DefD := ⟨("View", some "tell"), "tell", "View.tell", defArgs s_View_tell, defBody s_View_tell, defScope s_View_tell, [], []⟩
def d_View_room : He.DefD := ⟨("View", some "room"), "room", "View.room", defArgs s_View_room, defBody s_View_room, defScope s_View_room, [], []⟩
def d_View_sides : He.DefD := ⟨("View", some "sides"), "sides", "View.sides", defArgs s_View_sides, defBody s_View_sides, defScope s_View_sides, [], []⟩
def d_View_first : He.DefD := ⟨("View", some "first"), "first", "View.first", defArgs s_View_first, defBody s_View_first, defScope s_View_first, [], []⟩
def d_View_strides : He.DefD := ⟨("View", some "strides"), "strides", "View.strides", defArgs s_View_strides, defBody s_View_strides, defScope s_View_strides, [], []⟩
def d_View_cells : He.DefD := ⟨("View", some "cells"), "cells", "View.cells", defArgs s_View_cells, defBody s_View_cells, defScope s_View_cells, [], []⟩
def d_View_cell : He.DefD := ⟨("View", some "cell"), "cell", "View.cell", defArgs s_View_cell, defBody s_View_cell, defScope s_View_cell, [], []⟩
def d_View_at : He.DefD := ⟨("View", some "at"), "at", "View.at", defArgs s_View_at, defBody s_View_at, defScope s_View_at, [], []⟩
def d_View_put : He.DefD := ⟨("View", some "put"), "put", "View.put", defArgs s_View_put, defBody s_View_put, defScope s_View_put, [], []⟩
def d_View_numbers : He.DefD := ⟨("View", some "numbers"), "numbers", "View.numbers", defArgs s_View_numbers, defBody s_View_numbers, defScope s_View_numbers, [], []⟩
def d_View_len : He.DefD := ⟨("View", some "__len__"), "__len__", "View.__len__", defArgs s_View_len, defBody s_View_len, defScope s_View_len, [], []⟩
def d_View_twin : He.DefD := ⟨("View", some "twin"), "twin", "View.twin", defArgs s_View_twin, defBody s_View_twin, defScope s_View_twin, [], []⟩
def d_plain_view : He.DefD := ⟨("plain_view", none), "plain_view", "plain_view", defArgs s_plain_view, defBody s_plain_view, defScope s_plain_view, [], []⟩
def d_new_view : He.DefD := ⟨("new_view", none), "new_view", "new_view", defArgs s_new_view, defBody s_new_view, defScope s_new_view, [], []⟩
def d_wide_stride : He.DefD := ⟨("wide_stride", none), "wide_stride", "wide_stride", defArgs s_wide_stride, defBody s_wide_stride, defScope s_wide_stride, [], []⟩
def d_widened : He.DefD := ⟨("widened", none), "widened", "widened", defArgs s_widened, defBody s_widened, defScope s_widened, [], []⟩
def d_twice_in : He.DefD := ⟨("twice_in", none), "twice_in", "twice_in", defArgs s_twice_in, defBody s_twice_in, defScope s_twice_in, [], []⟩
def d_need_unlike : He.DefD := ⟨("need_unlike", none), "need_unlike", "need_unlike", defArgs s_need_unlike, defBody s_need_unlike, defScope s_need_unlike, [], []⟩
def d_need_open : He.DefD := ⟨("need_open", none), "need_open", "need_open", defArgs s_need_open, defBody s_need_open, defScope s_need_open, [], []⟩
def d_written : He.DefD := ⟨("written", none), "written", "written", defArgs s_written, defBody s_written, defScope s_written, [], []⟩
def d_asked_shut : He.DefD := ⟨("asked_shut", none), "asked_shut", "asked_shut", defArgs s_asked_shut, defBody s_asked_shut, defScope s_asked_shut, [], []⟩
def d_answer_of : He.DefD := ⟨("answer_of", none), "answer_of", "answer_of", defArgs s_answer_of, defBody s_answer_of, defScope s_answer_of, [], []⟩
def d_need_target : He.DefD := ⟨("need_target", none), "need_target", "need_target", defArgs s_need_target, defBody s_need_target, defScope s_need_target, [], []⟩
def d_together : He.DefD := ⟨("together", none), "together", "together", defArgs s_together, defBody s_together, defScope s_together, [], [("into", .non)]⟩
def d_others_of : He.DefD := ⟨("others_of", none), "others_of", "others_of", defArgs s_others_of, defBody s_others_of, defScope s_others_of, [], []⟩
def d_along : He.DefD := ⟨("along", none), "along", "along", defArgs s_along, defBody s_along, defScope s_along, [], []⟩
def d_laid_along : He.DefD := ⟨("laid_along", none), "laid_along", "laid_along", defArgs s_laid_along, defBody s_laid_along, defScope s_laid_along, [], []⟩
def d_need_some : He.DefD := ⟨("need_some", none), "need_some", "need_some", defArgs s_need_some, defBody s_need_some, defScope s_need_some, [], []⟩
def d_run_row : He.DefD := ⟨("run_row", none), "run_row", "run_row", defArgs s_run_row, defBody s_run_row, defScope s_run_row, [], []⟩
def d_running : He.DefD := ⟨("running", none), "running", "running", defArgs s_running, defBody s_running, defScope s_running, [.int (-1)], []⟩
def d_sums : He.DefD := ⟨("sums", none), "sums", "sums", defArgs s_sums, defBody s_sums, defScope s_sums, [.non], [("start", .int 0), ("keep", .bl false)]⟩
def d_first_by : He.DefD := ⟨("first_by", none), "first_by", "first_by", defArgs s_first_by, defBody s_first_by, defScope s_first_by, [], []⟩
def d_least : He.DefD := ⟨("least", none), "least", "least", defArgs s_least, defBody s_least, defScope s_least, [.non], [("default", .non)]⟩
def d_l_purse : He.DefD := ⟨("_law_purse", none), "_law_purse", "_law_purse", defArgs s_l_purse, defBody s_l_purse, defScope s_l_purse, [], []⟩
def d_l_take : He.DefD := ⟨("_law_take", none), "_law_take", "_law_take", defArgs s_l_take, defBody s_l_take, defScope s_l_take, [], []⟩
def d_l_places : He.DefD := ⟨("_law_places", none), "_law_places", "_law_places", defArgs s_l_places, defBody s_l_places, defScope s_l_places, [], []⟩
def d_l_cells : He.DefD := ⟨("_law_cells", none), "_law_cells", "_law_cells", defArgs s_l_cells, defBody s_l_cells, defScope s_l_cells, [], []⟩
def d_l_lengths : He.DefD := ⟨("_law_lengths", none), "_law_lengths", "_law_lengths", defArgs s_l_lengths, defBody s_l_lengths, defScope s_l_lengths, [], []⟩
def d_l_number : He.DefD := ⟨("_law_number", none), "_law_number", "_law_number", defArgs s_l_number, defBody s_l_number, defScope s_l_number, [], []⟩
def d_l_reach : He.DefD := ⟨("_law_reach", none), "_law_reach", "_law_reach", defArgs s_l_reach, defBody s_l_reach, defScope s_l_reach, [], []⟩
def d_l_room : He.DefD := ⟨("_law_room", none), "_law_room", "_law_room", defArgs s_l_room, defBody s_l_room, defScope s_l_room, [], []⟩
def d_l_unlike_steps : He.DefD := ⟨("_law_unlike_steps", none), "_law_unlike_steps", "_law_unlike_steps", defArgs s_l_unlike_steps, defBody s_l_unlike_steps, defScope s_l_unlike_steps, [], []⟩
def d_l_source : He.DefD := ⟨("_law_source", none), "_law_source", "_law_source", defArgs s_l_source, defBody s_l_source, defScope s_l_source, [], []⟩
def d_l_over : He.DefD := ⟨("_law_over", none), "_law_over", "_law_over", defArgs s_l_over, defBody s_l_over, defScope s_l_over, [], []⟩
def d_l_wide : He.DefD := ⟨("_law_wide", none), "_law_wide", "_law_wide", defArgs s_l_wide, defBody s_l_wide, defScope s_l_wide, [], []⟩
def d_l_shown : He.DefD := ⟨("_law_shown", none), "_law_shown", "_law_shown", defArgs s_l_shown, defBody s_l_shown, defScope s_l_shown, [], []⟩
def d_l_read : He.DefD := ⟨("_law_read", none), "_law_read", "_law_read", defArgs s_l_read, defBody s_l_read, defScope s_l_read, [], []⟩
def d_l_into : He.DefD := ⟨("_law_into", none), "_law_into", "_law_into", defArgs s_l_into, defBody s_l_into, defScope s_l_into, [], []⟩
def d_l_along : He.DefD := ⟨("_law_along", none), "_law_along", "_law_along", defArgs s_l_along, defBody s_l_along, defScope s_l_along, [], []⟩
def d_l_side : He.DefD := ⟨("_law_side", none), "_law_side", "_law_side", defArgs s_l_side, defBody s_l_side, defScope s_l_side, [], []⟩
def d_law : He.DefD := ⟨("law", none), "law", "law", defArgs s_law, defBody s_law, defScope s_law, [], []⟩
def fn0 : List He.DefD := [d_is_whole, d_size_of, d_vet_size, d_vet_sides, d_places_of, d_whole_place, d_number_of, d_common_length, d_common_sides, d_side_of, d_unlike_sides, d_dense_strides, d_Page_init, d_Room_init, d_Room_len, d_Room_need, d_Room_read, d_Room_own_page, d_Room_write, d_Room_numbers, d_Room_twin, d_Room_is_shut, d_vet_strides, d_cells_by, d_vet_cells, d_View_init, d_View_tell, d_View_room, d_View_sides, d_View_first, d_View_strides, d_View_cells, d_View_cell, d_View_at, d_View_put]
def fn1 : List He.DefD := [d_View_numbers, d_View_len, d_View_twin, d_plain_view, d_new_view, d_wide_stride, d_widened, d_twice_in, d_need_unlike, d_need_open, d_written, d_asked_shut, d_answer_of, d_need_target, d_together, d_others_of, d_along, d_laid_along, d_need_some, d_run_row, d_running, d_sums, d_first_by, d_least, d_l_purse, d_l_take, d_l_places, d_l_cells, d_l_lengths, d_l_number, d_l_reach, d_l_room, d_l_unlike_steps, d_l_source, d_l_over]
def fn2 : List He.DefD := [d_l_wide, d_l_shown, d_l_read, d_l_into, d_l_along, d_l_side, d_law]
def fn : List He.DefD := fn0 ++ fn1 ++ fn2
def fa0 : List He.Fa := [.glo "is_whole", .glo "size_of", .glo "vet_size", .glo "vet_sides", .glo "places_of", .glo "whole_place", .glo "number_of", .glo "common_length", .glo "common_sides", .glo "side_of", .glo "unlike_sides", .glo "dense_strides", .glo "vet_strides", .glo "cells_by", .glo "vet_cells", .glo "plain_view", .glo "new_view", .glo "wide_stride", .glo "widened", .glo "twice_in", .glo "need_unlike", .glo "need_open", .glo "written", .glo "asked_shut", .glo "answer_of", .glo "need_target", .glo "together", .glo "others_of", .glo "along", .glo "laid_along", .glo "need_some", .glo "run_row", .glo "running", .glo "sums", .glo "first_by"]
def fa1 : List He.Fa := [.glo "least", .glo "_law_purse", .glo "_law_take", .glo "_law_places", .glo "_law_cells", .glo "_law_lengths", .glo "_law_number", .glo "_law_reach", .glo "_law_room", .glo "_law_unlike_steps", .glo "_law_source", .glo "_law_over", .glo "_law_wide", .glo "_law_shown", .glo "_law_read", .glo "_law_into", .glo "_law_along", .glo "_law_side", .glo "law", .glo "Page", .cls "Page", .mkr "Page", .noat "Page" "kept", .noat "Page" "holders", .glo "Room", .cls "Room", .mkr "Room", .noat "Room" "many", .noat "Room" "width", .noat "Room" "pages", .noat "Room" "copies", .noat "Room" "shuts", .glo "View", .cls "View", .mkr "View"]
def fa2 : List He.Fa := [.noat "View" "held", .noat "View" "lengths", .noat "View" "begin", .noat "View" "steps", .meth "Room" "__len__", .meth "Room" "need", .meth "Room" "read", .meth "Room" "own_page", .meth "Room" "write", .meth "Room" "numbers", .meth "Room" "twin", .meth "Room" "is_shut", .meth "View" "tell", .meth "View" "room", .meth "View" "sides", .meth "View" "first", .meth "View" "strides", .meth "View" "cells", .meth "View" "cell", .meth "View" "at", .meth "View" "put", .meth "View" "numbers", .meth "View" "__len__", .meth "View" "twin", .free "isinstance", .free "int", .free "bool", .free "len", .free "max", .free "min", .free "tuple", .free "zip", .free "enumerate", .free "range", .free "list"]
def fa3 : List He.Fa := [.free "reversed", .free "sum", .free "abs", .int "MOST_SIDES" 5, .int "MOST_PLACES" 600, .int "PAGE" 8, .int "MOST_STRIDE" 600]
def fa : List He.Fa := fa0 ++ fa1 ++ fa2 ++ fa3
def exf : PySem.W.Frag → Bool := fun _ => true
def loose0 : List Str := [("_wall" : Str), ("NoSides" : Str), ("NoStrides" : Str), ("NoOrder" : Str), ("NoFit" : Str), ("Twice" : Str), ("OutOfRoom" : Str), ("NoPlace" : Str), ("NoCell" : Str), ("NoSide" : Str), ("NoneThere" : Str), ("TooGreat" : Str), ("Shut" : Str), ("MOST_SIDES" : Str), ("MOST_PLACES" : Str), ("is_whole" : Str), ("size_of" : Str), ("vet_size" : Str), ("vet_sides" : Str), ("places_of" : Str), ("whole_place" : Str), ("number_of" : Str), ("common_length" : Str), ("common_sides" : Str), ("side_of" : Str), ("unlike_sides" : Str), ("dense_strides" : Str), ("PAGE" : Str), ("Page" : Str), ("Room" : Str), ("MOST_STRIDE" : Str), ("vet_strides" : Str), ("cells_by" : Str), ("vet_cells" : Str), ("View" : Str)]
def loose1 : List Str := [("plain_view" : Str), ("new_view" : Str), ("wide_stride" : Str), ("widened" : Str), ("twice_in" : Str), ("need_unlike" : Str), ("need_open" : Str), ("written" : Str), ("asked_shut" : Str), ("answer_of" : Str), ("need_target" : Str), ("together" : Str), ("others_of" : Str), ("along" : Str), ("laid_along" : Str), ("need_some" : Str), ("run_row" : Str), ("running" : Str), ("sums" : Str), ("first_by" : Str), ("least" : Str), ("_law_purse" : Str), ("_law_take" : Str), ("_law_places" : Str), ("_law_cells" : Str), ("_law_lengths" : Str), ("_law_number" : Str), ("_law_steps" : Str), ("_law_reach" : Str), ("_law_room" : Str), ("_law_look" : Str), ("_law_unlike_steps" : Str), ("_law_source" : Str), ("_law_over" : Str), ("_law_wide" : Str)]
def loose2 : List Str := [("_law_shown" : Str), ("_law_read" : Str), ("_law_into" : Str), ("_law_along" : Str), ("_law_side" : Str)]
def loose : List Str := loose0 ++ loose1 ++ loose2
structure Tx (K : PySem.W.Frag) (mg : Str → Option Value) : Prop where
  ex : ∃ h : Heap, K.In h ∧ h.Ns mainGlobals mg
  c : He.SaysD fa fn K
section
variable {K : PySem.W.Frag} {mg : Str → Option Value}
theorem Tx.fa (T : Tx K mg) (i : Nat) {f : He.Fa} (h : VG.fa[i]? = some f) : f.ok K = true := T.c.fact i h
theorem Tx.glo (T : Tx K mg) (i : Nat) {x : Str} (h : VG.fa[i]? = some (.glo x)) : mg x = some (.ref (He.ga K x)) := let ⟨_, X, G⟩ := T.ex; He.glo_ok X G (T.fa i h)
theorem Tx.free (T : Tx K mg) (i : Nat) {x : Str} (h : VG.fa[i]? = some (.free x)) : mg x = none := let ⟨_, X, G⟩ := T.ex; He.free_ok X G (T.fa i h)
theorem Tx.int (T : Tx K mg) (i : Nat) {x : Str} {n : Int} (h : VG.fa[i]? = some (.int x n)) : ∃ t, mg x = some (.int n t) := let ⟨_, X, G⟩ := T.ex; He.int_ok X G (T.fa i h)
theorem g_is_whole (T : Tx K mg) : mg "is_whole" = some (.ref (He.ga K "is_whole")) := T.glo 0 rfl
theorem g_size_of (T : Tx K mg) : mg "size_of" = some (.ref (He.ga K "size_of")) := T.glo 1 rfl
theorem g_vet_size (T : Tx K mg) : mg "vet_size" = some (.ref (He.ga K "vet_size")) := T.glo 2 rfl
theorem g_vet_sides (T : Tx K mg) : mg "vet_sides" = some (.ref (He.ga K "vet_sides")) := T.glo 3 rfl
theorem g_places_of (T : Tx K mg) : mg "places_of" = some (.ref (He.ga K "places_of")) := T.glo 4 rfl
theorem g_whole_place (T : Tx K mg) : mg "whole_place" = some (.ref (He.ga K "whole_place")) := T.glo 5 rfl
theorem g_number_of (T : Tx K mg) : mg "number_of" = some (.ref (He.ga K "number_of")) := T.glo 6 rfl
theorem g_common_length (T : Tx K mg) : mg "common_length" = some (.ref (He.ga K "common_length")) := T.glo 7 rfl
theorem g_common_sides (T : Tx K mg) : mg "common_sides" = some (.ref (He.ga K "common_sides")) := T.glo 8 rfl
theorem g_side_of (T : Tx K mg) : mg "side_of" = some (.ref (He.ga K "side_of")) := T.glo 9 rfl
theorem g_unlike_sides (T : Tx K mg) : mg "unlike_sides" = some (.ref (He.ga K "unlike_sides")) := T.glo 10 rfl
theorem g_dense_strides (T : Tx K mg) : mg "dense_strides" = some (.ref (He.ga K "dense_strides")) := T.glo 11 rfl
theorem g_vet_strides (T : Tx K mg) : mg "vet_strides" = some (.ref (He.ga K "vet_strides")) := T.glo 12 rfl
theorem g_cells_by (T : Tx K mg) : mg "cells_by" = some (.ref (He.ga K "cells_by")) := T.glo 13 rfl
theorem g_vet_cells (T : Tx K mg) : mg "vet_cells" = some (.ref (He.ga K "vet_cells")) := T.glo 14 rfl
theorem g_plain_view (T : Tx K mg) : mg "plain_view" = some (.ref (He.ga K "plain_view")) := T.glo 15 rfl
theorem g_new_view (T : Tx K mg) : mg "new_view" = some (.ref (He.ga K "new_view")) := T.glo 16 rfl
theorem g_wide_stride (T : Tx K mg) : mg "wide_stride" = some (.ref (He.ga K "wide_stride")) := T.glo 17 rfl
theorem g_widened (T : Tx K mg) : mg "widened" = some (.ref (He.ga K "widened")) := T.glo 18 rfl
theorem g_twice_in (T : Tx K mg) : mg "twice_in" = some (.ref (He.ga K "twice_in")) := T.glo 19 rfl
theorem g_need_unlike (T : Tx K mg) : mg "need_unlike" = some (.ref (He.ga K "need_unlike")) := T.glo 20 rfl
theorem g_need_open (T : Tx K mg) : mg "need_open" = some (.ref (He.ga K "need_open")) := T.glo 21 rfl
theorem g_written (T : Tx K mg) : mg "written" = some (.ref (He.ga K "written")) := T.glo 22 rfl
theorem g_asked_shut (T : Tx K mg) : mg "asked_shut" = some (.ref (He.ga K "asked_shut")) := T.glo 23 rfl
theorem g_answer_of (T : Tx K mg) : mg "answer_of" = some (.ref (He.ga K "answer_of")) := T.glo 24 rfl
theorem g_need_target (T : Tx K mg) : mg "need_target" = some (.ref (He.ga K "need_target")) := T.glo 25 rfl
theorem g_together (T : Tx K mg) : mg "together" = some (.ref (He.ga K "together")) := T.glo 26 rfl
theorem g_others_of (T : Tx K mg) : mg "others_of" = some (.ref (He.ga K "others_of")) := T.glo 27 rfl
theorem g_along (T : Tx K mg) : mg "along" = some (.ref (He.ga K "along")) := T.glo 28 rfl
theorem g_laid_along (T : Tx K mg) : mg "laid_along" = some (.ref (He.ga K "laid_along")) := T.glo 29 rfl
theorem g_need_some (T : Tx K mg) : mg "need_some" = some (.ref (He.ga K "need_some")) := T.glo 30 rfl
theorem g_run_row (T : Tx K mg) : mg "run_row" = some (.ref (He.ga K "run_row")) := T.glo 31 rfl
theorem g_running (T : Tx K mg) : mg "running" = some (.ref (He.ga K "running")) := T.glo 32 rfl
theorem g_sums (T : Tx K mg) : mg "sums" = some (.ref (He.ga K "sums")) := T.glo 33 rfl
theorem g_first_by (T : Tx K mg) : mg "first_by" = some (.ref (He.ga K "first_by")) := T.glo 34 rfl
theorem g_least (T : Tx K mg) : mg "least" = some (.ref (He.ga K "least")) := T.glo 35 rfl
theorem g_l_purse (T : Tx K mg) : mg "_law_purse" = some (.ref (He.ga K "_law_purse")) := T.glo 36 rfl
theorem g_l_take (T : Tx K mg) : mg "_law_take" = some (.ref (He.ga K "_law_take")) := T.glo 37 rfl
theorem g_l_places (T : Tx K mg) : mg "_law_places" = some (.ref (He.ga K "_law_places")) := T.glo 38 rfl
theorem g_l_cells (T : Tx K mg) : mg "_law_cells" = some (.ref (He.ga K "_law_cells")) := T.glo 39 rfl
theorem g_l_lengths (T : Tx K mg) : mg "_law_lengths" = some (.ref (He.ga K "_law_lengths")) := T.glo 40 rfl
theorem g_l_number (T : Tx K mg) : mg "_law_number" = some (.ref (He.ga K "_law_number")) := T.glo 41 rfl
theorem g_l_reach (T : Tx K mg) : mg "_law_reach" = some (.ref (He.ga K "_law_reach")) := T.glo 42 rfl
theorem g_l_room (T : Tx K mg) : mg "_law_room" = some (.ref (He.ga K "_law_room")) := T.glo 43 rfl
theorem g_l_unlike_steps (T : Tx K mg) : mg "_law_unlike_steps" = some (.ref (He.ga K "_law_unlike_steps")) := T.glo 44 rfl
theorem g_l_source (T : Tx K mg) : mg "_law_source" = some (.ref (He.ga K "_law_source")) := T.glo 45 rfl
theorem g_l_over (T : Tx K mg) : mg "_law_over" = some (.ref (He.ga K "_law_over")) := T.glo 46 rfl
theorem g_l_wide (T : Tx K mg) : mg "_law_wide" = some (.ref (He.ga K "_law_wide")) := T.glo 47 rfl
theorem g_l_shown (T : Tx K mg) : mg "_law_shown" = some (.ref (He.ga K "_law_shown")) := T.glo 48 rfl
theorem g_l_read (T : Tx K mg) : mg "_law_read" = some (.ref (He.ga K "_law_read")) := T.glo 49 rfl
theorem g_l_into (T : Tx K mg) : mg "_law_into" = some (.ref (He.ga K "_law_into")) := T.glo 50 rfl
theorem g_l_along (T : Tx K mg) : mg "_law_along" = some (.ref (He.ga K "_law_along")) := T.glo 51 rfl
theorem g_l_side (T : Tx K mg) : mg "_law_side" = some (.ref (He.ga K "_law_side")) := T.glo 52 rfl
theorem g_law (T : Tx K mg) : mg "law" = some (.ref (He.ga K "law")) := T.glo 53 rfl
theorem g_Page (T : Tx K mg) : mg "Page" = some (.ref (He.ga K "Page")) := T.glo 54 rfl
theorem cl_Page (T : Tx K mg) : Cls K (He.ga K "Page") := He.cls_ok (T.fa 55 rfl)
theorem mk_Page (T : Tx K mg) : Mk K (He.ga K "Page") (He.ma K (He.ga K "Page") "__init__") := He.mkr_ok (T.fa 56 rfl)
theorem no_Page_kept (T : Tx K mg) : NoAttr K (He.ga K "Page") "kept" := He.noat_ok (T.fa 57 rfl)
theorem no_Page_holders (T : Tx K mg) : NoAttr K (He.ga K "Page") "holders" := He.noat_ok (T.fa 58 rfl)
theorem g_Room (T : Tx K mg) : mg "Room" = some (.ref (He.ga K "Room")) := T.glo 59 rfl
theorem cl_Room (T : Tx K mg) : Cls K (He.ga K "Room") := He.cls_ok (T.fa 60 rfl)
theorem mk_Room (T : Tx K mg) : Mk K (He.ga K "Room") (He.ma K (He.ga K "Room") "__init__") := He.mkr_ok (T.fa 61 rfl)
theorem no_Room_many (T : Tx K mg) : NoAttr K (He.ga K "Room") "many" := He.noat_ok (T.fa 62 rfl)
theorem no_Room_width (T : Tx K mg) : NoAttr K (He.ga K "Room") "width" := He.noat_ok (T.fa 63 rfl)
theorem no_Room_pages (T : Tx K mg) : NoAttr K (He.ga K "Room") "pages" := He.noat_ok (T.fa 64 rfl)
theorem no_Room_copies (T : Tx K mg) : NoAttr K (He.ga K "Room") "copies" := He.noat_ok (T.fa 65 rfl)
theorem no_Room_shuts (T : Tx K mg) : NoAttr K (He.ga K "Room") "shuts" := He.noat_ok (T.fa 66 rfl)
theorem g_View (T : Tx K mg) : mg "View" = some (.ref (He.ga K "View")) := T.glo 67 rfl
theorem cl_View (T : Tx K mg) : Cls K (He.ga K "View") := He.cls_ok (T.fa 68 rfl)
theorem mk_View (T : Tx K mg) : Mk K (He.ga K "View") (He.ma K (He.ga K "View") "__init__") := He.mkr_ok (T.fa 69 rfl)
theorem no_View_held (T : Tx K mg) : NoAttr K (He.ga K "View") "held" := He.noat_ok (T.fa 70 rfl)
theorem no_View_lengths (T : Tx K mg) : NoAttr K (He.ga K "View") "lengths" := He.noat_ok (T.fa 71 rfl)
theorem no_View_begin (T : Tx K mg) : NoAttr K (He.ga K "View") "begin" := He.noat_ok (T.fa 72 rfl)
theorem no_View_steps (T : Tx K mg) : NoAttr K (He.ga K "View") "steps" := He.noat_ok (T.fa 73 rfl)
theorem me_Room_len (T : Tx K mg) : Meth K (He.ga K "Room") "__len__" (He.ma K (He.ga K "Room") "__len__") := He.meth_ok (T.fa 74 rfl)
theorem me_Room_need (T : Tx K mg) : Meth K (He.ga K "Room") "need" (He.ma K (He.ga K "Room") "need") := He.meth_ok (T.fa 75 rfl)
theorem me_Room_read (T : Tx K mg) : Meth K (He.ga K "Room") "read" (He.ma K (He.ga K "Room") "read") := He.meth_ok (T.fa 76 rfl)
theorem me_Room_own_page (T : Tx K mg) : Meth K (He.ga K "Room") "own_page" (He.ma K (He.ga K "Room") "own_page") := He.meth_ok (T.fa 77 rfl)
theorem me_Room_write (T : Tx K mg) : Meth K (He.ga K "Room") "write" (He.ma K (He.ga K "Room") "write") := He.meth_ok (T.fa 78 rfl)
theorem me_Room_numbers (T : Tx K mg) : Meth K (He.ga K "Room") "numbers" (He.ma K (He.ga K "Room") "numbers") := He.meth_ok (T.fa 79 rfl)
theorem me_Room_twin (T : Tx K mg) : Meth K (He.ga K "Room") "twin" (He.ma K (He.ga K "Room") "twin") := He.meth_ok (T.fa 80 rfl)
theorem me_Room_is_shut (T : Tx K mg) : Meth K (He.ga K "Room") "is_shut" (He.ma K (He.ga K "Room") "is_shut") := He.meth_ok (T.fa 81 rfl)
theorem me_View_tell (T : Tx K mg) : Meth K (He.ga K "View") "tell" (He.ma K (He.ga K "View") "tell") := He.meth_ok (T.fa 82 rfl)
theorem me_View_room (T : Tx K mg) : Meth K (He.ga K "View") "room" (He.ma K (He.ga K "View") "room") := He.meth_ok (T.fa 83 rfl)
theorem me_View_sides (T : Tx K mg) : Meth K (He.ga K "View") "sides" (He.ma K (He.ga K "View") "sides") := He.meth_ok (T.fa 84 rfl)
theorem me_View_first (T : Tx K mg) : Meth K (He.ga K "View") "first" (He.ma K (He.ga K "View") "first") := He.meth_ok (T.fa 85 rfl)
theorem me_View_strides (T : Tx K mg) : Meth K (He.ga K "View") "strides" (He.ma K (He.ga K "View") "strides") := He.meth_ok (T.fa 86 rfl)
theorem me_View_cells (T : Tx K mg) : Meth K (He.ga K "View") "cells" (He.ma K (He.ga K "View") "cells") := He.meth_ok (T.fa 87 rfl)
theorem me_View_cell (T : Tx K mg) : Meth K (He.ga K "View") "cell" (He.ma K (He.ga K "View") "cell") := He.meth_ok (T.fa 88 rfl)
theorem me_View_at (T : Tx K mg) : Meth K (He.ga K "View") "at" (He.ma K (He.ga K "View") "at") := He.meth_ok (T.fa 89 rfl)
theorem me_View_put (T : Tx K mg) : Meth K (He.ga K "View") "put" (He.ma K (He.ga K "View") "put") := He.meth_ok (T.fa 90 rfl)
theorem me_View_numbers (T : Tx K mg) : Meth K (He.ga K "View") "numbers" (He.ma K (He.ga K "View") "numbers") := He.meth_ok (T.fa 91 rfl)
theorem me_View_len (T : Tx K mg) : Meth K (He.ga K "View") "__len__" (He.ma K (He.ga K "View") "__len__") := He.meth_ok (T.fa 92 rfl)
theorem me_View_twin (T : Tx K mg) : Meth K (He.ga K "View") "twin" (He.ma K (He.ga K "View") "twin") := He.meth_ok (T.fa 93 rfl)
theorem z_isinstance (T : Tx K mg) : mg "isinstance" = none := T.free 94 rfl
theorem z_int (T : Tx K mg) : mg "int" = none := T.free 95 rfl
theorem z_bool (T : Tx K mg) : mg "bool" = none := T.free 96 rfl
theorem z_len (T : Tx K mg) : mg "len" = none := T.free 97 rfl
theorem z_max (T : Tx K mg) : mg "max" = none := T.free 98 rfl
theorem z_min (T : Tx K mg) : mg "min" = none := T.free 99 rfl
theorem z_tuple (T : Tx K mg) : mg "tuple" = none := T.free 100 rfl
theorem z_zip (T : Tx K mg) : mg "zip" = none := T.free 101 rfl
theorem z_enumerate (T : Tx K mg) : mg "enumerate" = none := T.free 102 rfl
theorem z_range (T : Tx K mg) : mg "range" = none := T.free 103 rfl
theorem z_list (T : Tx K mg) : mg "list" = none := T.free 104 rfl
theorem z_reversed (T : Tx K mg) : mg "reversed" = none := T.free 105 rfl
theorem z_sum (T : Tx K mg) : mg "sum" = none := T.free 106 rfl
theorem z_abs (T : Tx K mg) : mg "abs" = none := T.free 107 rfl
theorem i_MOST_SIDES (T : Tx K mg) : ∃ t, mg "MOST_SIDES" = some (.int 5 t) := T.int 108 rfl
theorem i_MOST_PLACES (T : Tx K mg) : ∃ t, mg "MOST_PLACES" = some (.int 600 t) := T.int 109 rfl
theorem i_PAGE (T : Tx K mg) : ∃ t, mg "PAGE" = some (.int 8 t) := T.int 110 rfl
theorem i_MOST_STRIDE (T : Tx K mg) : ∃ t, mg "MOST_STRIDE" = some (.int 600 t) := T.int 111 rfl
theorem f_is_whole (T : Tx K mg) : ∃ fd, FunD K d_is_whole.name d_is_whole.qual d_is_whole.params d_is_whole.body d_is_whole.scope (d_is_whole.dvs K) (d_is_whole.kws K) (He.fAd K d_is_whole.at_) fd := T.c.def_ 0 rfl
theorem f_size_of (T : Tx K mg) : ∃ fd, FunD K d_size_of.name d_size_of.qual d_size_of.params d_size_of.body d_size_of.scope (d_size_of.dvs K) (d_size_of.kws K) (He.fAd K d_size_of.at_) fd := T.c.def_ 1 rfl
theorem f_vet_size (T : Tx K mg) : ∃ fd, FunD K d_vet_size.name d_vet_size.qual d_vet_size.params d_vet_size.body d_vet_size.scope (d_vet_size.dvs K) (d_vet_size.kws K) (He.fAd K d_vet_size.at_) fd := T.c.def_ 2 rfl
theorem f_vet_sides (T : Tx K mg) : ∃ fd, FunD K d_vet_sides.name d_vet_sides.qual d_vet_sides.params d_vet_sides.body d_vet_sides.scope (d_vet_sides.dvs K) (d_vet_sides.kws K) (He.fAd K d_vet_sides.at_) fd := T.c.def_ 3 rfl
theorem f_places_of (T : Tx K mg) : ∃ fd, FunD K d_places_of.name d_places_of.qual d_places_of.params d_places_of.body d_places_of.scope (d_places_of.dvs K) (d_places_of.kws K) (He.fAd K d_places_of.at_) fd := T.c.def_ 4 rfl
theorem f_whole_place (T : Tx K mg) : ∃ fd, FunD K d_whole_place.name d_whole_place.qual d_whole_place.params d_whole_place.body d_whole_place.scope (d_whole_place.dvs K) (d_whole_place.kws K) (He.fAd K d_whole_place.at_) fd := T.c.def_ 5 rfl
theorem f_number_of (T : Tx K mg) : ∃ fd, FunD K d_number_of.name d_number_of.qual d_number_of.params d_number_of.body d_number_of.scope (d_number_of.dvs K) (d_number_of.kws K) (He.fAd K d_number_of.at_) fd := T.c.def_ 6 rfl
theorem f_common_length (T : Tx K mg) : ∃ fd, FunD K d_common_length.name d_common_length.qual d_common_length.params d_common_length.body d_common_length.scope (d_common_length.dvs K) (d_common_length.kws K) (He.fAd K d_common_length.at_) fd := T.c.def_ 7 rfl
theorem f_common_sides (T : Tx K mg) : ∃ fd, FunD K d_common_sides.name d_common_sides.qual d_common_sides.params d_common_sides.body d_common_sides.scope (d_common_sides.dvs K) (d_common_sides.kws K) (He.fAd K d_common_sides.at_) fd := T.c.def_ 8 rfl
theorem f_side_of (T : Tx K mg) : ∃ fd, FunD K d_side_of.name d_side_of.qual d_side_of.params d_side_of.body d_side_of.scope (d_side_of.dvs K) (d_side_of.kws K) (He.fAd K d_side_of.at_) fd := T.c.def_ 9 rfl
theorem f_unlike_sides (T : Tx K mg) : ∃ fd, FunD K d_unlike_sides.name d_unlike_sides.qual d_unlike_sides.params d_unlike_sides.body d_unlike_sides.scope (d_unlike_sides.dvs K) (d_unlike_sides.kws K) (He.fAd K d_unlike_sides.at_) fd := T.c.def_ 10 rfl
theorem f_dense_strides (T : Tx K mg) : ∃ fd, FunD K d_dense_strides.name d_dense_strides.qual d_dense_strides.params d_dense_strides.body d_dense_strides.scope (d_dense_strides.dvs K) (d_dense_strides.kws K) (He.fAd K d_dense_strides.at_) fd := T.c.def_ 11 rfl
theorem f_Page_init (T : Tx K mg) : ∃ fd, FunD K d_Page_init.name d_Page_init.qual d_Page_init.params d_Page_init.body d_Page_init.scope (d_Page_init.dvs K) (d_Page_init.kws K) (He.fAd K d_Page_init.at_) fd := T.c.def_ 12 rfl
theorem f_Room_init (T : Tx K mg) : ∃ fd, FunD K d_Room_init.name d_Room_init.qual d_Room_init.params d_Room_init.body d_Room_init.scope (d_Room_init.dvs K) (d_Room_init.kws K) (He.fAd K d_Room_init.at_) fd := T.c.def_ 13 rfl
theorem f_Room_len (T : Tx K mg) : ∃ fd, FunD K d_Room_len.name d_Room_len.qual d_Room_len.params d_Room_len.body d_Room_len.scope (d_Room_len.dvs K) (d_Room_len.kws K) (He.fAd K d_Room_len.at_) fd := T.c.def_ 14 rfl
theorem f_Room_need (T : Tx K mg) : ∃ fd, FunD K d_Room_need.name d_Room_need.qual d_Room_need.params d_Room_need.body d_Room_need.scope (d_Room_need.dvs K) (d_Room_need.kws K) (He.fAd K d_Room_need.at_) fd := T.c.def_ 15 rfl
theorem f_Room_read (T : Tx K mg) : ∃ fd, FunD K d_Room_read.name d_Room_read.qual d_Room_read.params d_Room_read.body d_Room_read.scope (d_Room_read.dvs K) (d_Room_read.kws K) (He.fAd K d_Room_read.at_) fd := T.c.def_ 16 rfl
theorem f_Room_own_page (T : Tx K mg) : ∃ fd, FunD K d_Room_own_page.name d_Room_own_page.qual d_Room_own_page.params d_Room_own_page.body d_Room_own_page.scope (d_Room_own_page.dvs K) (d_Room_own_page.kws K) (He.fAd K d_Room_own_page.at_) fd := T.c.def_ 17 rfl
theorem f_Room_write (T : Tx K mg) : ∃ fd, FunD K d_Room_write.name d_Room_write.qual d_Room_write.params d_Room_write.body d_Room_write.scope (d_Room_write.dvs K) (d_Room_write.kws K) (He.fAd K d_Room_write.at_) fd := T.c.def_ 18 rfl
theorem f_Room_numbers (T : Tx K mg) : ∃ fd, FunD K d_Room_numbers.name d_Room_numbers.qual d_Room_numbers.params d_Room_numbers.body d_Room_numbers.scope (d_Room_numbers.dvs K) (d_Room_numbers.kws K) (He.fAd K d_Room_numbers.at_) fd := T.c.def_ 19 rfl
theorem f_Room_twin (T : Tx K mg) : ∃ fd, FunD K d_Room_twin.name d_Room_twin.qual d_Room_twin.params d_Room_twin.body d_Room_twin.scope (d_Room_twin.dvs K) (d_Room_twin.kws K) (He.fAd K d_Room_twin.at_) fd := T.c.def_ 20 rfl
theorem f_Room_is_shut (T : Tx K mg) : ∃ fd, FunD K d_Room_is_shut.name d_Room_is_shut.qual d_Room_is_shut.params d_Room_is_shut.body d_Room_is_shut.scope (d_Room_is_shut.dvs K) (d_Room_is_shut.kws K) (He.fAd K d_Room_is_shut.at_) fd := T.c.def_ 21 rfl
theorem f_vet_strides (T : Tx K mg) : ∃ fd, FunD K d_vet_strides.name d_vet_strides.qual d_vet_strides.params d_vet_strides.body d_vet_strides.scope (d_vet_strides.dvs K) (d_vet_strides.kws K) (He.fAd K d_vet_strides.at_) fd := T.c.def_ 22 rfl
theorem f_cells_by (T : Tx K mg) : ∃ fd, FunD K d_cells_by.name d_cells_by.qual d_cells_by.params d_cells_by.body d_cells_by.scope (d_cells_by.dvs K) (d_cells_by.kws K) (He.fAd K d_cells_by.at_) fd := T.c.def_ 23 rfl
theorem f_vet_cells (T : Tx K mg) : ∃ fd, FunD K d_vet_cells.name d_vet_cells.qual d_vet_cells.params d_vet_cells.body d_vet_cells.scope (d_vet_cells.dvs K) (d_vet_cells.kws K) (He.fAd K d_vet_cells.at_) fd := T.c.def_ 24 rfl
theorem f_View_init (T : Tx K mg) : ∃ fd, FunD K d_View_init.name d_View_init.qual d_View_init.params d_View_init.body d_View_init.scope (d_View_init.dvs K) (d_View_init.kws K) (He.fAd K d_View_init.at_) fd := T.c.def_ 25 rfl
theorem f_View_tell (T : Tx K mg) : ∃ fd, FunD K d_View_tell.name d_View_tell.qual d_View_tell.params d_View_tell.body d_View_tell.scope (d_View_tell.dvs K) (d_View_tell.kws K) (He.fAd K d_View_tell.at_) fd := T.c.def_ 26 rfl
theorem f_View_room (T : Tx K mg) : ∃ fd, FunD K d_View_room.name d_View_room.qual d_View_room.params d_View_room.body d_View_room.scope (d_View_room.dvs K) (d_View_room.kws K) (He.fAd K d_View_room.at_) fd := T.c.def_ 27 rfl
theorem f_View_sides (T : Tx K mg) : ∃ fd, FunD K d_View_sides.name d_View_sides.qual d_View_sides.params d_View_sides.body d_View_sides.scope (d_View_sides.dvs K) (d_View_sides.kws K) (He.fAd K d_View_sides.at_) fd := T.c.def_ 28 rfl
theorem f_View_first (T : Tx K mg) : ∃ fd, FunD K d_View_first.name d_View_first.qual d_View_first.params d_View_first.body d_View_first.scope (d_View_first.dvs K) (d_View_first.kws K) (He.fAd K d_View_first.at_) fd := T.c.def_ 29 rfl
theorem f_View_strides (T : Tx K mg) : ∃ fd, FunD K d_View_strides.name d_View_strides.qual d_View_strides.params d_View_strides.body d_View_strides.scope (d_View_strides.dvs K) (d_View_strides.kws K) (He.fAd K d_View_strides.at_) fd := T.c.def_ 30 rfl
theorem f_View_cells (T : Tx K mg) : ∃ fd, FunD K d_View_cells.name d_View_cells.qual d_View_cells.params d_View_cells.body d_View_cells.scope (d_View_cells.dvs K) (d_View_cells.kws K) (He.fAd K d_View_cells.at_) fd := T.c.def_ 31 rfl
theorem f_View_cell (T : Tx K mg) : ∃ fd, FunD K d_View_cell.name d_View_cell.qual d_View_cell.params d_View_cell.body d_View_cell.scope (d_View_cell.dvs K) (d_View_cell.kws K) (He.fAd K d_View_cell.at_) fd := T.c.def_ 32 rfl
theorem f_View_at (T : Tx K mg) : ∃ fd, FunD K d_View_at.name d_View_at.qual d_View_at.params d_View_at.body d_View_at.scope (d_View_at.dvs K) (d_View_at.kws K) (He.fAd K d_View_at.at_) fd := T.c.def_ 33 rfl
theorem f_View_put (T : Tx K mg) : ∃ fd, FunD K d_View_put.name d_View_put.qual d_View_put.params d_View_put.body d_View_put.scope (d_View_put.dvs K) (d_View_put.kws K) (He.fAd K d_View_put.at_) fd := T.c.def_ 34 rfl
theorem f_View_numbers (T : Tx K mg) : ∃ fd, FunD K d_View_numbers.name d_View_numbers.qual d_View_numbers.params d_View_numbers.body d_View_numbers.scope (d_View_numbers.dvs K) (d_View_numbers.kws K) (He.fAd K d_View_numbers.at_) fd := T.c.def_ 35 rfl
theorem f_View_len (T : Tx K mg) : ∃ fd, FunD K d_View_len.name d_View_len.qual d_View_len.params d_View_len.body d_View_len.scope (d_View_len.dvs K) (d_View_len.kws K) (He.fAd K d_View_len.at_) fd := T.c.def_ 36 rfl
theorem f_View_twin (T : Tx K mg) : ∃ fd, FunD K d_View_twin.name d_View_twin.qual d_View_twin.params d_View_twin.body d_View_twin.scope (d_View_twin.dvs K) (d_View_twin.kws K) (He.fAd K d_View_twin.at_) fd := T.c.def_ 37 rfl
theorem f_plain_view (T : Tx K mg) : ∃ fd, FunD K d_plain_view.name d_plain_view.qual d_plain_view.params d_plain_view.body d_plain_view.scope (d_plain_view.dvs K) (d_plain_view.kws K) (He.fAd K d_plain_view.at_) fd := T.c.def_ 38 rfl
theorem f_new_view (T : Tx K mg) : ∃ fd, FunD K d_new_view.name d_new_view.qual d_new_view.params d_new_view.body d_new_view.scope (d_new_view.dvs K) (d_new_view.kws K) (He.fAd K d_new_view.at_) fd := T.c.def_ 39 rfl
theorem f_wide_stride (T : Tx K mg) : ∃ fd, FunD K d_wide_stride.name d_wide_stride.qual d_wide_stride.params d_wide_stride.body d_wide_stride.scope (d_wide_stride.dvs K) (d_wide_stride.kws K) (He.fAd K d_wide_stride.at_) fd := T.c.def_ 40 rfl
theorem f_widened (T : Tx K mg) : ∃ fd, FunD K d_widened.name d_widened.qual d_widened.params d_widened.body d_widened.scope (d_widened.dvs K) (d_widened.kws K) (He.fAd K d_widened.at_) fd := T.c.def_ 41 rfl
theorem f_twice_in (T : Tx K mg) : ∃ fd, FunD K d_twice_in.name d_twice_in.qual d_twice_in.params d_twice_in.body d_twice_in.scope (d_twice_in.dvs K) (d_twice_in.kws K) (He.fAd K d_twice_in.at_) fd := T.c.def_ 42 rfl
theorem f_need_unlike (T : Tx K mg) : ∃ fd, FunD K d_need_unlike.name d_need_unlike.qual d_need_unlike.params d_need_unlike.body d_need_unlike.scope (d_need_unlike.dvs K) (d_need_unlike.kws K) (He.fAd K d_need_unlike.at_) fd := T.c.def_ 43 rfl
theorem f_need_open (T : Tx K mg) : ∃ fd, FunD K d_need_open.name d_need_open.qual d_need_open.params d_need_open.body d_need_open.scope (d_need_open.dvs K) (d_need_open.kws K) (He.fAd K d_need_open.at_) fd := T.c.def_ 44 rfl
theorem f_written (T : Tx K mg) : ∃ fd, FunD K d_written.name d_written.qual d_written.params d_written.body d_written.scope (d_written.dvs K) (d_written.kws K) (He.fAd K d_written.at_) fd := T.c.def_ 45 rfl
theorem f_asked_shut (T : Tx K mg) : ∃ fd, FunD K d_asked_shut.name d_asked_shut.qual d_asked_shut.params d_asked_shut.body d_asked_shut.scope (d_asked_shut.dvs K) (d_asked_shut.kws K) (He.fAd K d_asked_shut.at_) fd := T.c.def_ 46 rfl
theorem f_answer_of (T : Tx K mg) : ∃ fd, FunD K d_answer_of.name d_answer_of.qual d_answer_of.params d_answer_of.body d_answer_of.scope (d_answer_of.dvs K) (d_answer_of.kws K) (He.fAd K d_answer_of.at_) fd := T.c.def_ 47 rfl
theorem f_need_target (T : Tx K mg) : ∃ fd, FunD K d_need_target.name d_need_target.qual d_need_target.params d_need_target.body d_need_target.scope (d_need_target.dvs K) (d_need_target.kws K) (He.fAd K d_need_target.at_) fd := T.c.def_ 48 rfl
theorem f_together (T : Tx K mg) : ∃ fd, FunD K d_together.name d_together.qual d_together.params d_together.body d_together.scope (d_together.dvs K) (d_together.kws K) (He.fAd K d_together.at_) fd := T.c.def_ 49 rfl
theorem f_others_of (T : Tx K mg) : ∃ fd, FunD K d_others_of.name d_others_of.qual d_others_of.params d_others_of.body d_others_of.scope (d_others_of.dvs K) (d_others_of.kws K) (He.fAd K d_others_of.at_) fd := T.c.def_ 50 rfl
theorem f_along (T : Tx K mg) : ∃ fd, FunD K d_along.name d_along.qual d_along.params d_along.body d_along.scope (d_along.dvs K) (d_along.kws K) (He.fAd K d_along.at_) fd := T.c.def_ 51 rfl
theorem f_laid_along (T : Tx K mg) : ∃ fd, FunD K d_laid_along.name d_laid_along.qual d_laid_along.params d_laid_along.body d_laid_along.scope (d_laid_along.dvs K) (d_laid_along.kws K) (He.fAd K d_laid_along.at_) fd := T.c.def_ 52 rfl
theorem f_need_some (T : Tx K mg) : ∃ fd, FunD K d_need_some.name d_need_some.qual d_need_some.params d_need_some.body d_need_some.scope (d_need_some.dvs K) (d_need_some.kws K) (He.fAd K d_need_some.at_) fd := T.c.def_ 53 rfl
theorem f_run_row (T : Tx K mg) : ∃ fd, FunD K d_run_row.name d_run_row.qual d_run_row.params d_run_row.body d_run_row.scope (d_run_row.dvs K) (d_run_row.kws K) (He.fAd K d_run_row.at_) fd := T.c.def_ 54 rfl
theorem f_running (T : Tx K mg) : ∃ fd, FunD K d_running.name d_running.qual d_running.params d_running.body d_running.scope (d_running.dvs K) (d_running.kws K) (He.fAd K d_running.at_) fd := T.c.def_ 55 rfl
theorem f_sums (T : Tx K mg) : ∃ fd, FunD K d_sums.name d_sums.qual d_sums.params d_sums.body d_sums.scope (d_sums.dvs K) (d_sums.kws K) (He.fAd K d_sums.at_) fd := T.c.def_ 56 rfl
theorem f_first_by (T : Tx K mg) : ∃ fd, FunD K d_first_by.name d_first_by.qual d_first_by.params d_first_by.body d_first_by.scope (d_first_by.dvs K) (d_first_by.kws K) (He.fAd K d_first_by.at_) fd := T.c.def_ 57 rfl
theorem f_least (T : Tx K mg) : ∃ fd, FunD K d_least.name d_least.qual d_least.params d_least.body d_least.scope (d_least.dvs K) (d_least.kws K) (He.fAd K d_least.at_) fd := T.c.def_ 58 rfl
theorem f_l_purse (T : Tx K mg) : ∃ fd, FunD K d_l_purse.name d_l_purse.qual d_l_purse.params d_l_purse.body d_l_purse.scope (d_l_purse.dvs K) (d_l_purse.kws K) (He.fAd K d_l_purse.at_) fd := T.c.def_ 59 rfl
theorem f_l_take (T : Tx K mg) : ∃ fd, FunD K d_l_take.name d_l_take.qual d_l_take.params d_l_take.body d_l_take.scope (d_l_take.dvs K) (d_l_take.kws K) (He.fAd K d_l_take.at_) fd := T.c.def_ 60 rfl
theorem f_l_places (T : Tx K mg) : ∃ fd, FunD K d_l_places.name d_l_places.qual d_l_places.params d_l_places.body d_l_places.scope (d_l_places.dvs K) (d_l_places.kws K) (He.fAd K d_l_places.at_) fd := T.c.def_ 61 rfl
theorem f_l_cells (T : Tx K mg) : ∃ fd, FunD K d_l_cells.name d_l_cells.qual d_l_cells.params d_l_cells.body d_l_cells.scope (d_l_cells.dvs K) (d_l_cells.kws K) (He.fAd K d_l_cells.at_) fd := T.c.def_ 62 rfl
theorem f_l_lengths (T : Tx K mg) : ∃ fd, FunD K d_l_lengths.name d_l_lengths.qual d_l_lengths.params d_l_lengths.body d_l_lengths.scope (d_l_lengths.dvs K) (d_l_lengths.kws K) (He.fAd K d_l_lengths.at_) fd := T.c.def_ 63 rfl
theorem f_l_number (T : Tx K mg) : ∃ fd, FunD K d_l_number.name d_l_number.qual d_l_number.params d_l_number.body d_l_number.scope (d_l_number.dvs K) (d_l_number.kws K) (He.fAd K d_l_number.at_) fd := T.c.def_ 64 rfl
theorem f_l_reach (T : Tx K mg) : ∃ fd, FunD K d_l_reach.name d_l_reach.qual d_l_reach.params d_l_reach.body d_l_reach.scope (d_l_reach.dvs K) (d_l_reach.kws K) (He.fAd K d_l_reach.at_) fd := T.c.def_ 65 rfl
theorem f_l_room (T : Tx K mg) : ∃ fd, FunD K d_l_room.name d_l_room.qual d_l_room.params d_l_room.body d_l_room.scope (d_l_room.dvs K) (d_l_room.kws K) (He.fAd K d_l_room.at_) fd := T.c.def_ 66 rfl
theorem f_l_unlike_steps (T : Tx K mg) : ∃ fd, FunD K d_l_unlike_steps.name d_l_unlike_steps.qual d_l_unlike_steps.params d_l_unlike_steps.body d_l_unlike_steps.scope (d_l_unlike_steps.dvs K) (d_l_unlike_steps.kws K) (He.fAd K d_l_unlike_steps.at_) fd := T.c.def_ 67 rfl
theorem f_l_source (T : Tx K mg) : ∃ fd, FunD K d_l_source.name d_l_source.qual d_l_source.params d_l_source.body d_l_source.scope (d_l_source.dvs K) (d_l_source.kws K) (He.fAd K d_l_source.at_) fd := T.c.def_ 68 rfl
theorem f_l_over (T : Tx K mg) : ∃ fd, FunD K d_l_over.name d_l_over.qual d_l_over.params d_l_over.body d_l_over.scope (d_l_over.dvs K) (d_l_over.kws K) (He.fAd K d_l_over.at_) fd := T.c.def_ 69 rfl
theorem f_l_wide (T : Tx K mg) : ∃ fd, FunD K d_l_wide.name d_l_wide.qual d_l_wide.params d_l_wide.body d_l_wide.scope (d_l_wide.dvs K) (d_l_wide.kws K) (He.fAd K d_l_wide.at_) fd := T.c.def_ 70 rfl
theorem f_l_shown (T : Tx K mg) : ∃ fd, FunD K d_l_shown.name d_l_shown.qual d_l_shown.params d_l_shown.body d_l_shown.scope (d_l_shown.dvs K) (d_l_shown.kws K) (He.fAd K d_l_shown.at_) fd := T.c.def_ 71 rfl
theorem f_l_read (T : Tx K mg) : ∃ fd, FunD K d_l_read.name d_l_read.qual d_l_read.params d_l_read.body d_l_read.scope (d_l_read.dvs K) (d_l_read.kws K) (He.fAd K d_l_read.at_) fd := T.c.def_ 72 rfl
theorem f_l_into (T : Tx K mg) : ∃ fd, FunD K d_l_into.name d_l_into.qual d_l_into.params d_l_into.body d_l_into.scope (d_l_into.dvs K) (d_l_into.kws K) (He.fAd K d_l_into.at_) fd := T.c.def_ 73 rfl
theorem f_l_along (T : Tx K mg) : ∃ fd, FunD K d_l_along.name d_l_along.qual d_l_along.params d_l_along.body d_l_along.scope (d_l_along.dvs K) (d_l_along.kws K) (He.fAd K d_l_along.at_) fd := T.c.def_ 74 rfl
theorem f_l_side (T : Tx K mg) : ∃ fd, FunD K d_l_side.name d_l_side.qual d_l_side.params d_l_side.body d_l_side.scope (d_l_side.dvs K) (d_l_side.kws K) (He.fAd K d_l_side.at_) fd := T.c.def_ 75 rfl
theorem f_law (T : Tx K mg) : ∃ fd, FunD K d_law.name d_law.qual d_law.params d_law.body d_law.scope (d_law.dvs K) (d_law.kws K) (He.fAd K d_law.at_) fd := T.c.def_ 76 rfl
end
end VG
-- VgHead
set_option Elab.async false
set_option linter.all false
set_option maxRecDepth 100000
set_option maxHeartbeats 0
namespace VG
open PySem PySem.Spec PyProof.Rows L2
def tf : List He.Defn := [("together", none), ("running", none), ("least", none), ("_law_into", none), ("_law_side", none)]
/-- from an object on: a dict's values, a def's code and defaults, a class's namespace -/
def onward (g : Addr → Option Obj) (a : Addr) : List Addr :=
  match g a with
  | none => []
  | some ob => match ob.data with
    | .dict es _ => es.toList.flatMap (fun en => He.refV en.val)
    | .func f => He.refV f.code ++ (He.refV f.defaults ++ He.refV f.kwdefaults)
    | .cls c => [c.ns]
    | _ => []
def reach (g : Addr → Option Obj) : List Addr :=
  let a1 := onward g mainGlobals
  let a2 := a1.flatMap (onward g)
  let a3 := a2.flatMap (onward g)
  let a4 := a3.flatMap (onward g)
  mainGlobals :: (a1 ++ (a2 ++ (a3 ++ a4)))
def part (g : Addr → Option Obj) : PySem.W.Frag := He.frT g (reach g)
abbrev Seen : Type := Bool × (List He.FnW × Bool)
def seen (g : Addr → Option Obj) : Seen :=
  (fa.all (fun f => f.ok (part g)) && fn.all (fun d => d.ok (part g)), (fn.map (fun d => He.fnW (part g) d.at_), He.tabsB g tf (part g)))
def due : Seen := (true, (fn.map He.DefD.val, true))
/-- what the head tells of its heap -/
structure Told (h : Heap) (K : PySem.W.Frag) : Prop where
  d : He.SaysD fa fn K
  hd : ∀ p ∈ tf, PySem.W.codeHdIn K (He.cT K p).1 (He.cT K p).2 = true
  out : ∀ p ∈ tf, K.lookup (He.cT K p).2 = none
  bare : ∀ p ∈ tf, h.get? (He.cT K p).2 = some { cls := .none, data := .fields #[] }
theorem told_of {h : Heap} (e : seen h.get? = due) : Told h (part h.get?) := by
  have e1 : (fa.all (fun f => f.ok (part h.get?)) && fn.all (fun d => d.ok (part h.get?))) = true := congrArg Prod.fst e
  have e2 : fn.map (fun d => He.fnW (part h.get?) d.at_) = fn.map He.DefD.val := congrArg (fun z : Seen => z.2.1) e
  have e3 : He.tabsB h.get? tf (part h.get?) = true := congrArg (fun z : Seen => z.2.2) e
  have key : ∀ p ∈ tf, PySem.W.codeHdIn (part h.get?) (He.cT (part h.get?) p).1 (He.cT (part h.get?) p).2 = true ∧ ∃ ob, h.get? (He.cT (part h.get?) p).2 = some ob ∧ He.emptyTab ob = true := by
    intro p hp
    have z := He.ba (List.all_eq_true.mp e3 p hp)
    refine ⟨z.1, ?_⟩
    have z2 := z.2
    revert z2
    cases h.get? (He.cT (part h.get?) p).2 with
    | none => intro z2; cases z2
    | some ob => intro z2; exact ⟨ob, rfl, z2⟩
  refine ⟨?_, fun p hp => (key p hp).1, ?_, ?_⟩
  · show He.obsD fa fn (part h.get?) = He.valD fn
    unfold He.obsD He.valD
    rw [e1, e2]
  · intro p hp
    obtain ⟨_, ob, h1, h2⟩ := key p hp
    exact He.frT_none h1 h2
  · intro p hp
    obtain ⟨_, ob, h1, h2⟩ := key p hp
    rw [h1, He.emptyTab_eq h2]
noncomputable abbrev hk : PySem.W.Hook where
  α := Seen
  obs := fun st => seen st.heap.get?
  val := fun _ => due
  says := fun _ h => ∃ K : PySem.W.Frag, K.In h ∧ Told h K
  of := fun _ _ e => ⟨_, He.frT_in, told_of e⟩
  keeps := fun _ _ _ ⟨K, hK, c⟩ k => ⟨K, PySem.W.Frag.In.keeps hK k, ⟨c.d, c.hd, c.out, fun p hp => k _ _ (c.bare p hp)⟩⟩
def ob (st : PySem.W.SharedT) : Seen := seen (HandSHeadRun.getT st)
theorem ob_eq (st : PySem.W.SharedT) : ob st = hk.obs st.abs := by
  have e : HandSHeadRun.getT st = st.abs.heap.get? := funext (HandSHeadRun.getT_eq st)
  show seen (HandSHeadRun.getT st) = seen st.abs.heap.get?
  rw [e]
abbrev qv : Program := PySem.W.view R.prog [84]
noncomputable abbrev topEnd (w : World) (os : OsState) := HandSHeadRun.endF (HandSHeadRun.stepQ (HandSHeadRun.denQ HandSHeadRun.tabQ) R.prog w) 20000 R.prog w os
theorem run_a (w : World) (os : OsState) : ((topEnd w os).map fun st => (HandSHeadRun.looksF R.prog (PySem.W.boot_heap w.params) st.abs, HandSHeadRun.seenQ qv loose (importedModules R.prog.main.body) (fun s => PySem.W.xlAt qv [] s && PySem.W.recOk R.toRowW.records s) st.abs)) = some (true, PySem.W.openGood qv loose) := by
  kernel_rfl
theorem run_b (w : World) (os : OsState) : ((topEnd w os).map fun st => ob st) = some due := by
  kernel_rfl
theorem pair_map {α β γ : Type} {x : Option α} {f : α → β} {g : α → γ} {b : β} {c : γ} (h1 : x.map f = some b) (h2 : x.map g = some c) : x.map (fun z => (f z, g z)) = some (b, c) := by
  cases x with
  | none => cases h1
  | some z =>
    have e1 : f z = b := Option.some.inj h1
    have e2 : g z = c := Option.some.inj h2
    show some (f z, g z) = some (b, c)
    rw [e1, e2]
theorem run (w : World) : HandSHeadRun.RunEq R qv hk ob 20000 loose w := by
  intro os
  have h := pair_map (run_a w os) (run_b w os)
  revert h
  show (topEnd w os).map _ = _ → (topEnd w os).map _ = _
  cases topEnd w os with
  | none => intro h; cases h
  | some st =>
    intro h
    have h1 := Option.some.inj h
    have h2 := congrArg Prod.fst h1
    have h3 := congrArg Prod.snd h1
    have h4 := congrArg Prod.fst h2
    have h5 := congrArg Prod.snd h2
    dsimp only at h3 h4 h5
    show some (_, _, _) = some (_, _, _)
    rw [h3, h4, h5]
end VG
-- VgBase
set_option Elab.async false
set_option linter.all false
set_option maxRecDepth 100000
set_option maxHeartbeats 4000000
namespace VG
open PySem PySem.Spec PyProof.Rows L2

/-- the def x, called by its name with all but its defaults (ds) by position -/
structure Def (P : Program) (w : World) (K : PySem.W.Frag) (mg : Str → Option Value) (base : Heap) (k : Nat) (x : Str) (ps : List Str) (ds : List V) (sp : Sp) : Prop where
  ex : ∃ (f : Addr) (fd : FuncData) (us : List Value), FnOk P w K mg base CX0 k f fd ps sp ∧ mg x = some (.ref f) ∧ PySem.W.keepIn K (.ref f) = true ∧ L2.Binds K fd ps us ∧ Vals ds us
/-- the method m of the class c -/
structure Met (P : Program) (w : World) (K : PySem.W.Frag) (mg : Str → Option Value) (base : Heap) (k : Nat) (c m : Str) (ps : List Str) (sp : Sp) : Prop where
  ex : ∃ (f : Addr) (fd : FuncData), FnOk P w K mg base CX0 k f fd ps sp ∧ Meth K (He.ga K c) m f ∧ L2.Binds K fd ps []
section
variable {P : Program} {w : World} {K : PySem.W.Frag} {mg : Str → Option Value} {base : Heap} {k : Nat} {x : Str} {ps : List Str} {ds : List V} {sp : Sp}
theorem Def.mono {j : Nat} (D : Def P w K mg base j x ps ds sp) (h : j ≤ k) : Def P w K mg base k x ps ds sp :=
  let ⟨f, fd, us, F, a, b, c, d⟩ := D.ex; ⟨⟨f, fd, us, F.mono h, a, b, c, d⟩⟩
theorem Met.mono {j : Nat} {c m : Str} (D : Met P w K mg base j c m ps sp) (h : j ≤ k) : Met P w K mg base k c m ps sp :=
  let ⟨f, fd, F, a, b⟩ := D.ex; ⟨⟨f, fd, F.mono h, a, b⟩⟩
/-- the body's proof -/
abbrev Body (P : Program) (w : World) (K : PySem.W.Frag) (mg : Str → Option Value) (base : Heap) (k : Nat) (qual : Str) (st : Stmt) (N : List Str) (f : Addr) (sp : Sp) : Prop :=
  ∀ (cdv : Value) (A : Around) (outer : List Env) (s : Shared) (H : Hp) (vs : List V) (Q : VK) (E : XK), L2.Room k (A.deeper (envOfC qual (defScope st) s.heap.objs.size f cdv)) → sp vs H Q E →
    ∃ t, PSs (cxOf CX0 P w K mg base N qual (defScope st) f cdv A outer s H E).nox (defBody st) t ∧ t { nx := fun _ H' => Q .non H', rt := Q } (L2.start N vs) H
theorem fn_ok {qual name : Str} {st : Stmt} {N : List Str} {f : Addr} {fd : FuncData} {dvs : List V} {kws : List (Str × V)} (F : FunD K name qual (defArgs st) (defBody st) (defScope st) dvs kws f fd) (S : FnScope N ps (defScope st))
    (len : ∀ vs H Q E, sp vs H Q E → vs.length = ps.length) (body : Body P w K mg base k qual st N f sp) : FnOk P w K mg base CX0 (k + 1) f fd ps sp :=
  F.ok S len fun cdv A outer s H vs Q E hr h => let ⟨t, a, b⟩ := body cdv A outer s H vs Q E hr h; ⟨t, a.nox, b⟩
/-- a def without defaults -/
theorem Def.mk0 {qual name : Str} {st : Stmt} {N : List Str} {f : Addr} (F : ∃ fd, FunD K name qual (defArgs st) (defBody st) (defScope st) [] [] f fd) (hm : mg x = some (.ref f)) (S : FnScope N ps (defScope st))
    (hb : ∀ (kV doc pm : Value) (an : Option Addr) (cdv ct : Value) (us : List Value), us.length = ps.length → bindArgs (PySem.W.fnOf name qual (defArgs st) (defBody st) (defScope st) .none kV doc pm an cdv ct) ⟨us, []⟩ = pure (ps.zip us))
    (len : ∀ vs H Q E, sp vs H Q E → vs.length = ps.length) (body : Body P w K mg base k qual st N f sp) : Def P w K mg base (k + 1) x ps [] sp := by
  obtain ⟨fd, F⟩ := F
  exact ⟨⟨f, fd, [], fn_ok F S len body, hm, F.kp, F.bindsN hb, .nil⟩⟩
theorem Met.mk0 {c m qual name : Str} {st : Stmt} {N : List Str} {f : Addr} (F : ∃ fd, FunD K name qual (defArgs st) (defBody st) (defScope st) [] [] f fd) (hm : Meth K (He.ga K c) m f) (S : FnScope N ps (defScope st))
    (hb : ∀ (kV doc pm : Value) (an : Option Addr) (cdv ct : Value) (us : List Value), us.length = ps.length → bindArgs (PySem.W.fnOf name qual (defArgs st) (defBody st) (defScope st) .none kV doc pm an cdv ct) ⟨us, []⟩ = pure (ps.zip us))
    (len : ∀ vs H Q E, sp vs H Q E → vs.length = ps.length) (body : Body P w K mg base k qual st N f sp) : Met P w K mg base (k + 1) c m ps sp := by
  obtain ⟨fd, F⟩ := F
  exact ⟨⟨f, fd, fn_ok F S len body, hm, F.bindsN hb⟩⟩
end
section
variable {X : Cx} {k : Nat} {x : Str} {ps : List Str} {ds : List V} {sp : Sp} {p pos apos : Pos} {e o : Expr} {es : List Expr} {t : TA} {to : TE} {c m : Str}
/-- f(e, ..) -/
theorem pe_f (D : Def X.prog X.w X.K X.mg X.base k x ps ds sp) (hr : L2.Room k X.A) (hg : Gl X x) (ha : PA X (e :: es) t) (hdb : (x == ("__debug__" : Str)) = false := by decide)
    (he : starEach (e :: es) X.env = (false, eval e X.env) :: starEach es X.env := by rfl) (hpl : (backTo pos (starEach es X.env)).any (·.1) = false := by rfl) : PE X (.Call (.Name x p) (e :: es) [] pos) (tCall sp ds E0 t) := by
  obtain ⟨f, fd, us, F, hm, hk, hb, hd⟩ := D.ex
  exact pe_call F hr hg hm hk hb hd pass0 ha hdb he hpl
/-- o.m(e, ..) -/
theorem pe_m {pl : Sem Bool} (D : Met X.prog X.w X.K X.mg X.base k c m ps sp) (hc : Cls X.K (He.ga X.K c)) (hr : L2.Room k X.A) (ho : PE X o to) (ha : PA X (e :: es) t)
    (hst : starEach (e :: es) X.env = (false, eval e X.env) :: starEach es X.env := by rfl) (hpl : (backTo pos (starEach es X.env)).any (·.1) = false := by rfl)
    (ht : eval (.Call (.Attribute o m apos) (e :: es) [] pos) X.env = (do
      let ov ← eval o X.env
      standAt apos.atName
      let (f, first) ← holding [ov] (getMethod ov m pl)
      callWith pos f first (backTo pos (starEach (e :: es) X.env)) (backToKw pos (keywordEach [] X.env))) := by rfl) :
    PE X (.Call (.Attribute o m apos) (e :: es) [] pos) (tMeth (He.ga X.K c) m sp [] E0 to t) := by
  obtain ⟨f, fd, F, hm, hb⟩ := D.ex
  exact pe_meth ho hc hm F hr hb .nil pass0 ha hst hpl ht
/-- o.m() -/
theorem pe_m0 {pl : Sem Bool} (D : Met X.prog X.w X.K X.mg X.base k c m ps sp) (hc : Cls X.K (He.ga X.K c)) (hr : L2.Room k X.A) (ho : PE X o to)
    (ht : eval (.Call (.Attribute o m apos) [] [] pos) X.env = (do
      let ov ← eval o X.env
      standAt apos.atName
      let (f, first) ← holding [ov] (getMethod ov m pl)
      callWith pos f first (backTo pos (starEach [] X.env)) (backToKw pos (keywordEach [] X.env))) := by rfl) :
    PE X (.Call (.Attribute o m apos) [] [] pos) (tMeth (He.ga X.K c) m sp [] E0 to tNil) := by
  obtain ⟨f, fd, F, hm, hb⟩ := D.ex
  exact pe_meth0 ho hc hm F hr hb .nil pass0 ht
end

/-- numbers from 0 on; any whole numbers -/
def tn (ns : List Nat) : List V := ns.map fun n : Nat => V.int (n : Int)
def ti (ns : List Int) : List V := ns.map V.int
theorem tn_len (ns : List Nat) : (tn ns).length = ns.length := List.length_map ..
theorem ti_len (ns : List Int) : (ti ns).length = ns.length := List.length_map ..
theorem tn_at {ns : List Nat} {i : Nat} {x : V} (h : (tn ns)[i]? = some x) : ∃ n : Nat, ns[i]? = some n ∧ x = .int (n : Int) := by
  unfold tn at h
  rw [List.getElem?_map] at h
  cases e : ns[i]? with
  | none => rw [e] at h; cases h
  | some n => rw [e] at h; exact ⟨n, rfl, (Option.some.inj h).symm⟩
theorem ti_at {ns : List Int} {i : Nat} {x : V} (h : (ti ns)[i]? = some x) : ∃ n : Int, ns[i]? = some n ∧ x = .int n := by
  unfold ti at h
  rw [List.getElem?_map] at h
  cases e : ns[i]? with
  | none => rw [e] at h; cases h
  | some n => rw [e] at h; exact ⟨n, rfl, (Option.some.inj h).symm⟩
theorem tn_get {ns : List Nat} {i n : Nat} (h : ns[i]? = some n) : (tn ns)[i]? = some (.int (n : Int)) := by
  unfold tn; rw [List.getElem?_map, h]; rfl
theorem ti_get {ns : List Int} {i : Nat} {n : Int} (h : ns[i]? = some n) : (ti ns)[i]? = some (.int n) := by
  unfold ti; rw [List.getElem?_map, h]; rfl
theorem tn_ti (ns : List Nat) : tn ns = ti (ns.map fun n : Nat => (n : Int)) := by
  unfold tn ti; rw [List.map_map]; rfl
theorem sz_ok {n : Nat} (h : n ≤ 100000) : n ≤ sizeLine := Nat.le_trans h (by decide)
theorem sz_lt {n : Nat} (h : n < 100000) : n < sizeLine := Nat.lt_of_lt_of_le h (by decide)

/-- tuples of numbers -/
inductive Tups (H : Hp) : List Addr → List (List Nat) → Prop where
  | nil : Tups H [] []
  | cons {a as p ps} : H a = some (.tup (tn p)) → Tups H as ps → Tups H (a :: as) (p :: ps)
section
variable {H H' : Hp}
theorem Tups.len : ∀ {as ps}, Tups H as ps → as.length = ps.length
  | _, _, .nil => rfl
  | _, _, .cons _ t => congrArg Nat.succ t.len
theorem Tups.keep (k : ∀ b xs, H b = some (.tup xs) → H' b = some (.tup xs)) : ∀ {as ps}, Tups H as ps → Tups H' as ps
  | _, _, .nil => .nil
  | _, _, .cons h t => .cons (k _ _ h) (t.keep k)
theorem Tups.same (s : Same H H') {as ps} (t : Tups H as ps) : Tups H' as ps := t.keep fun b xs h => s b _ h
theorem Tups.get : ∀ {as ps} {i : Nat} {a : Addr}, Tups H as ps → as[i]? = some a → ∃ p, ps[i]? = some p ∧ H a = some (.tup (tn p))
  | _, _, _, _, .nil, h => by cases h
  | _, _, 0, _, .cons h t, e => by cases e; exact ⟨_, rfl, h⟩
  | _, _, i + 1, _, .cons h t, e => t.get (i := i) e
theorem Tups.get2 : ∀ {as ps} {i : Nat} {p : List Nat}, Tups H as ps → ps[i]? = some p → ∃ a, as[i]? = some a ∧ H a = some (.tup (tn p))
  | _, _, _, _, .nil, h => by cases h
  | _, _, 0, _, .cons h t, e => by cases e; exact ⟨_, rfl, h⟩
  | _, _, i + 1, _, .cons h t, e => t.get2 (i := i) e
theorem Tups.snoc {as ps a p} (t : Tups H as ps) (h : H a = some (.tup (tn p))) : Tups H (as ++ [a]) (ps ++ [p]) := by
  induction t with
  | nil => exact .cons h .nil
  | cons h' t ih => exact .cons h' ih
end
/-- a list of places -/
def LstP (H : Hp) (l : Addr) (ps : List (List Nat)) : Prop := ∃ as, H l = some (.lst (as.map V.ref)) ∧ Tups H as ps
theorem LstP.same {H H' : Hp} {l : Addr} {ps} (s : Same H H') (h : LstP H l ps) : LstP H' l ps := let ⟨as, a, b⟩ := h; ⟨as, s _ _ a, b.same s⟩
theorem Same.sqt {K : PySem.W.Frag} {H H' : Hp} {a : Addr} {xs : List V} (e : Same H H') (h : SqT K H a xs) : SqT K H' a xs := by
  rcases h with (h | ⟨o, h⟩) | h
  · exact .inl (.inl (e _ _ h))
  · exact .inl (.inr ⟨o, e _ _ h⟩)
  · exact .inr h
theorem Same.new {H : Hp} {p : Addr} {o : HO} (h : H p = none) : Same H (upd H p o) := fun b u e => by
  rw [upd_ne (ne_of_none e h)]; exact e
/-- all that was tracked but what is told of is as it was -/
def But (D : Addr) (H H' : Hp) : Prop := ∀ b o, b ≠ D → H b = some o → H' b = some o
theorem Same.but {H H' : Hp} (D : Addr) (s : Same H H') : But D H H' := fun b o _ e => s b o e
theorem But.trans {D : Addr} {H H1 H2 : Hp} (a : But D H H1) (b : But D H1 H2) : But D H H2 := fun c o n e => b c o n (a c o n e)
theorem But.put {D : Addr} {H : Hp} {o : HO} : But D H (upd H D o) := fun b u n e => by rw [upd_ne n]; exact e
theorem But.same {D : Addr} {H H' : Hp} (n : H D = none) (s : But D H H') : Same H H' := fun b o e => s b o (ne_of_none e n) e

section
variable {J : It} {n : Nat} {G : Hp → Prop} {Y : Nat → Hp → V → Hp → Prop}
theorem lc_new (w : Walk J n G Y) {g : TG} {te : TE} {vs : List Nat} {σ : L2.St} {H1 : Hp} {D : Addr} {Qd : Hp → Prop} (hn : n ≤ 90000) (hD : H1 D = none) (R : Nat → V → Hp → Prop)
    (hG : ∀ H, Same H1 H → G H) (hR : ∀ i y H H', But D H H' → R i y H → R i y H')
    (hs : ∀ i x H H' (Kt : VK), i < n → Same H1 H → (∃ acc, H D = some (.lst acc)) → Y i H x H' → (∀ y H4, Same H H4 → R i y H4 → Kt y H4) → g x (wipe σ vs) H' fun σ2 H2 => wipe σ2 vs = wipe σ vs ∧ te σ2 H2 Kt)
    (hd : ∀ ys H, Same H1 H → H D = some (.lst ys) → ys.length = n → (∀ (i : Nat) y, ys[i]? = some y → R i y H) → Qd H) :
    ∃ W : Nat → Nat → Hp → Prop, (∃ m, W 0 m (upd H1 D (.lst []))) ∧ ∀ i m H, W i m H →
      (J.stop i H ∧ Qd H) ∨ (J.go i H ∧ ∃ Nx : Hp → Prop, (∀ H', Nx H' → ∃ m', m' < m ∧ W (i + 1) m' H') ∧ ∀ x H', J.yld i H x H' → g x (wipe σ vs) H' fun σ2 H2 => wipe σ2 vs = wipe σ vs ∧ tYes σ2 H2 fun b H3 =>
        if b = true then te σ2 H3 fun y H4 => ∃ acc, H4 D = some (.lst acc) ∧ acc.length < sizeLine ∧ Nx (upd H4 D (.lst (acc ++ [y]))) else Nx H3) := by
  refine lc_it w (fun i H => Same H1 H ∧ ∃ ys, H D = some (.lst ys) ∧ ys.length = i ∧ ∀ (j : Nat) y, ys[j]? = some y → R j y H) ⟨Same.new hD, [], upd_same, rfl, fun j y e => by simp at e⟩ (fun i H _ h => hG H h.1) ?_ (fun H ⟨s, ys, a, b, c⟩ => hd ys H s a b c)
  rintro i x H H' hi ⟨s, ys, hy, hl, hr⟩ y
  show g x (wipe σ vs) H' fun σ2 H2 => wipe σ2 vs = wipe σ vs ∧ te σ2 H2 fun y H4 => _
  refine hs i x H H' _ hi s ⟨ys, hy⟩ y fun z H4 s4 r4 => ?_
  have hD4 := s4 D _ hy
  refine ⟨ys, hD4, sz_lt (by omega), But.same hD ((Same.but D (s.trans s4)).trans But.put), ys ++ [z], upd_same, by rw [List.length_append, hl]; rfl, fun j v e => ?_⟩
  by_cases hj : j < ys.length
  · rw [List.getElem?_append_left hj] at e
    exact hR _ _ _ _ ((Same.but D s4).trans But.put) (hr j v e)
  · rw [List.getElem?_append_right (by omega)] at e
    have hjl : j - ys.length = 0 := by
      cases q : j - ys.length with
      | zero => rfl
      | succ m => rw [q] at e; simp at e
    have ej : j = i := by omega
    rw [hjl] at e
    have ez : z = v := by simpa using e
    subst ej ez
    exact hR _ _ _ _ But.put r4
end
end VG
-- VgMax
set_option Elab.async false
set_option linter.all false
set_option maxRecDepth 100000
set_option maxHeartbeats 4000000
namespace VG
open PySem PySem.Spec PyProof.Rows L2
section
variable {prog : Program} {w : World} {A : Around} {R : Result → Shared → Prop} {E : Value → Shared → Prop}
/-- an int of some -/
def OneOf (ns : List Int) (v : Value) : Prop := ∃ i t, v = .int i t ∧ i ∈ ns
theorem gt_any {ns : List Int} {a b : Value} {s : Shared} {Q : Value → Shared → Prop} (ha : OneOf ns a) (hb : OneOf ns b) (h : ∀ z, Q (.bool z) s) : wpAny (model prog w) A (richCompare .Gt a b) Q E s := by
  obtain ⟨i, t, rfl, _⟩ := ha
  obtain ⟨j, u, rfl, _⟩ := hb
  exact CmpOf.ints_gt (prog := prog) (w := w) (A := A) (P := fun k v => ∃ t, v = .int (if k = 0 then i else j) t) (fun k => if k = 0 then i else j) (fun _ _ h => h) 0 1 _ _ s Q E ⟨t, rfl⟩ ⟨u, rfl⟩ (h _)
/-- max's loop, the best so far an int of ns; whatever stands behind as default -/
theorem mx_turns {I S : Addr} {fp wr : List Addr} {n : Nat} {P : Nat → Value → Prop} {St : Nat → Heap → Prop} {kw : List (Str × Value)} {ns : List Int} (W : Walks prog w A.in1 I fp wr n P St) (hP : ∀ i v, P i v → OneOf ns v) (nS : S ∉ fp) :
    ∀ (k j : Nat) (s : Shared) (vb : Value) (c : Nat), n - j = k → j ≤ n → St j s.heap → OneOf ns vb → s.heap.get? S = some { cls := .type "list", data := .seq #[vb, vb] c } →
      (∀ v h' tk, OneOf ns v → (∀ b o, b ∉ wr → b ≠ S → s.heap.get? b = some o → h'.get? b = some o) → R (.ok (.ret v)) { s with heap := h', toks := tk }) →
      codeAny (model prog w) A (.builtin "max.loop" ⟨[.ref I, .none, .ref S], kw⟩) R s := by
  have nw : S ∉ wr := fun z => nS (W.sub _ z)
  have nm : (toString "max" ++ toString ".loop" : String) = "max.loop" := by decide
  intro k
  induction k with
  | zero =>
    intro j s vb c hk hj st g hS fin
    have e : j = n := by omega
    subst e
    refine codeAny_builtin PySem.F.entry_max_loop ?_
    rw [Around.under_plainId PySem.F.plain_max_loop]
    show wpAny _ A.in1 (seqItems? (.ref S) >>= _) _ _ _
    refine wpAny_bind (wpAny_seqItems hS rfl ?_)
    show wpAny _ A.in1 (tryCatch (pyNext (.ref I)) _ >>= _) _ _ _
    refine wpAny_bind (wpAny_tryCatch (W.done s _ _ st fun h1 tk k1 => ?_))
    show wpAny _ A.in1 (updateSeq S (fun _ => #[]) >>= _) _ _ _
    refine wpAny_bind (wpAny_updateSeq (k1 S _ nw hS) rfl (wpAny_bind (wpAny_letGo (wpAny_pure ?_))))
    exact fin vb _ tk g fun b o h1' h2' q => (Heap.get?_update_other _ _ (Ne.symm h2')).trans (k1 b o h1' q)
  | succ k ih =>
    intro j s vb c hk hj st g hS fin
    have lt : j < n := by omega
    refine codeAny_builtin PySem.F.entry_max_loop ?_
    rw [Around.under_plainId PySem.F.plain_max_loop]
    show wpAny _ A.in1 (seqItems? (.ref S) >>= _) _ _ _
    refine wpAny_bind (wpAny_seqItems hS rfl ?_)
    show wpAny _ A.in1 (tryCatch (pyNext (.ref I)) _ >>= _) _ _ _
    refine wpAny_bind (wpAny_tryCatch (W.item j s _ _ lt st fun v h1 tk hv st1 k1 => ?_))
    have hS1 := k1 S _ nw hS
    have gv := hP _ _ hv
    show wpAny _ A.in1 (tryCatch (holding [v, v] (richCompare .Gt v vb >>= _)) _ >>= _) _ _ _
    refine wpAny_bind (wpAny_tryCatch (wpAny_holding (wpAny_bind (gt_any gv g fun z => ?_))))
    refine wpAny_bind (wpAny_holding (wpAny_truthy_bool ?_))
    refine wpAny_bind (wpAny_letGo (wpAny_pure ?_))
    cases z with
    | true =>
      simp only [if_true]
      refine wpAny_bind (wpAny_updateSeq hS1 rfl (wpAny_bind (wpAny_letGo ?_)))
      rw [nm]
      refine wpAny_pure ⟨plainId_quiet PySem.F.plain_max_loop _, ih (j + 1) _ v _ (by omega) lt (W.frame _ _ _ st1 fun b hb o e => ?_) gv (Heap.get?_update_self _ hS1 rfl) fun v2 h2 tk2 g2 k2 => ?_⟩
      · exact (Heap.get?_update_other _ _ (fun q : S = b => nS (by rw [q]; exact hb))).trans e
      · exact fin v2 h2 tk2 g2 fun b o n1 n2 e => k2 b o n1 n2 ((Heap.get?_update_other _ _ (Ne.symm n2)).trans (k1 b o n1 e))
    | false =>
      simp only [Bool.false_eq_true, if_false]
      refine wpAny_bind (wpAny_letGo ?_)
      rw [nm]
      refine wpAny_pure ⟨plainId_quiet PySem.F.plain_max_loop _, ih (j + 1) _ vb c (by omega) lt st1 g hS1 fun v2 h2 tk2 g2 k2 => ?_⟩
      exact fin v2 h2 tk2 g2 fun b o n1 n2 e => k2 b o n1 n2 (k1 b o n1 e)
/-- the loop from its begin, a default standing behind -/
theorem mx_begin {I S : Addr} {fp wr : List Addr} {n : Nat} {P : Nat → Value → Prop} {St : Nat → Heap → Prop} {d : Value} {ns : List Int} {s : Shared} {c : Nat} (W : Walks prog w A.in1 I fp wr n P St) (hP : ∀ i v, P i v → OneOf ns v) (nS : S ∉ fp)
    (st : St 0 s.heap) (hS : s.heap.get? S = some { cls := .type "list", data := .seq #[] c })
    (fin : ∀ v h' tk, v = d ∨ OneOf ns v → (∀ b o, b ∉ wr → b ≠ S → s.heap.get? b = some o → h'.get? b = some o) → R (.ok (.ret v)) { s with heap := h', toks := tk }) :
    codeAny (model prog w) A (.builtin "max.loop" ⟨[.ref I, .none, .ref S], [("default", d)]⟩) R s := by
  have nw : S ∉ wr := fun z => nS (W.sub _ z)
  have nm : (toString "max" ++ toString ".loop" : String) = "max.loop" := by decide
  refine codeAny_builtin PySem.F.entry_max_loop ?_
  rw [Around.under_plainId PySem.F.plain_max_loop]
  show wpAny _ A.in1 (seqItems? (.ref S) >>= _) _ _ _
  refine wpAny_bind (wpAny_seqItems hS rfl ?_)
  show wpAny _ A.in1 (tryCatch (pyNext (.ref I)) _ >>= _) _ _ _
  cases n with
  | zero =>
    refine wpAny_bind (wpAny_tryCatch (W.done s _ _ st fun h1 tk k1 => ?_))
    show wpAny _ A.in1 (rule "max.default" >>= fun _ => ret d) _ _ _
    refine wpAny_bind (wpAny_rule (wpAny_pure ?_))
    exact fin d _ tk (.inl rfl) fun b o h1' h2' q => k1 b o h1' q
  | succ n =>
    refine wpAny_bind (wpAny_tryCatch (W.item 0 s _ _ (Nat.succ_pos _) st fun v h1 tk hv st1 k1 => ?_))
    have hS1 := k1 S _ nw hS
    show wpAny _ A.in1 (updateSeq S (fun _ => #[v, v]) >>= _) _ _ _
    refine wpAny_bind (wpAny_updateSeq hS1 rfl ?_)
    rw [nm]
    refine wpAny_pure ⟨plainId_quiet PySem.F.plain_max_loop _, mx_turns W hP nS _ 1 _ v _ rfl (by omega) (W.frame _ _ _ st1 fun b hb o e => ?_) (hP _ _ hv) (Heap.get?_update_self _ hS1 rfl) fun v2 h2 tk2 g2 k2 => ?_⟩
    · exact (Heap.get?_update_other _ _ (fun q : S = b => nS (by rw [q]; exact hb))).trans e
    · exact fin v2 h2 tk2 (.inr g2) fun b o n1 n2 e => k2 b o n1 n2 ((Heap.get?_update_other _ _ (Ne.symm n2)).trans (k1 b o n1 e))
theorem ints_get : ∀ {vs : List Value} {ns : List Int} {i : Nat} {v : Value}, IntsAre vs ns → vs[i]? = some v → ∃ n t, v = .int n t ∧ n ∈ ns
  | _, _, _, _, .nil, h => by simp at h
  | _, _, 0, _, .cons _ _ _, h => by
    have e := Option.some.inj h
    exact ⟨_, _, e.symm, List.mem_cons_self ..⟩
  | _, _, i + 1, _, .cons _ _ r, h => by
    obtain ⟨n, t, e, m⟩ := ints_get (i := i) r h
    exact ⟨n, t, e, List.mem_cons_of_mem _ m⟩
theorem mx_args (a v : Value) : argsOk "max" ⟨[a], [(Str.ofString "default", v)]⟩ := by unfold argsOk; kernel_rfl
theorem mx_tuple {t : Addr} {its : List Value} {ns : List Int} {d : Value} {s : Shared} {Q : Value → Shared → Prop} (hh : A.handled = none) (ht : s.heap.IsTuple t its.toArray) (hi : IntsAre its ns)
    (fin : ∀ v h' tk, v = d ∨ OneOf ns v → (∀ b o, s.heap.get? b = some o → h'.get? b = some o) → Q v { s with heap := h', toks := tk }) :
    wpAny (model prog w) A (call (.builtin "max") [.ref t] [(Str.ofString "default", d)]) Q E s := by
  have nm : (toString "max" ++ toString ".loop" : String) = "max.loop" := by decide
  have lt : t < s.heap.objs.size := by obtain ⟨o, h, _⟩ := id ht; exact Heap.lt_size h
  refine kmk_tree PySem.F.kind_max PySem.F.plain_max PySem.F.entry_max (mx_args _ _) ?_
  show wpAny _ A.in1 (Builtin.Builtins.bindParams "max" ["key", "default"] 0 ⟨[], [(Str.ofString "default", d)]⟩ >>= _) _ _ s
  refine wpAny_bind (wpAny_of_eq (show Builtin.Builtins.bindParams "max" ["key", "default"] 0 ⟨[], [(Str.ofString "default", d)]⟩ = pure [none, some d] from rfl) ?_)
  refine wpAny_bind (wpAny_pure ?_)
  refine wpAny_bind (wpAny_pyIter_tuple ht ?_)
  refine wpAny_bind (wpAny_newList ?_ (Nat.zero_le _))
  rw [nm]
  have hsz : (s.heap.push { cls := .type "tuple_iterator", data := .fields #[.ref t, .int 0 0] }).objs.size = s.heap.objs.size + 1 := size_push' ..
  have W := Walks.tuple (prog := prog) (w := w) (A := A.in1) hh s.heap.objs.size t (Nat.ne_of_lt lt) its.toArray
  refine wpAny_pure ⟨plainId_quiet PySem.F.plain_max_loop _, mx_begin (ns := ns) (S := (s.heap.push { cls := .type "tuple_iterator", data := .fields #[.ref t, .int 0 0] }).objs.size) W (fun i v hv => ?_) ?_ ?_ (Heap.get?_push_size _ rfl) fun v h' tk g k => ?_⟩
  · have hv' : its[i]? = some v := by simpa using hv
    obtain ⟨n, t', e1, e2⟩ := ints_get hi hv'
    exact ⟨n, t', e1, e2⟩
  · rw [hsz]
    intro z
    rcases List.mem_cons.mp z with z | z
    · exact absurd z (Nat.succ_ne_self _)
    · exact absurd (List.mem_singleton.mp z) (Nat.ne_of_gt (Nat.lt_succ_of_lt lt))
  · exact ⟨⟨_, Heap.get?_push_of_some _ (Heap.get?_push_size _ rfl), rfl, rfl⟩, (ht.push _).push _⟩
  · refine fin v h' tk g fun b o e => k b o (fun z => ?_) ?_ (Heap.get?_push_of_some _ (Heap.get?_push_of_some _ e))
    · exact absurd (List.mem_singleton.mp z) (Nat.ne_of_lt (Heap.lt_size e))
    · rw [hsz]
      exact Nat.ne_of_lt (Nat.lt_succ_of_lt (Heap.lt_size e))
end
section
variable {X : Cx}
/-- max(t, default=d), t a tuple of ints: one of them, or d -/
def rMaxD (K : PySem.W.Frag) : List V → List V → Hp → VK → Prop := fun vs zs H Q => ∃ (a : Addr) (ns : List Int) (d : Int), vs = [.ref a] ∧ zs = [.int d] ∧ SqT K H a (ti ns) ∧ ∀ m, m = d ∨ m ∈ ns → Q (.int m) H
theorem ints_of : ∀ {ns : List Int} {us : List Value}, Vals (ti ns) us → IntsAre us ns
  | [], _, r => by cases r; exact .nil
  | n :: ns, _, r => by
    cases r with
    | cons h t =>
      obtain ⟨tk, rfl⟩ := h
      exact .cons _ _ (ints_of t)
theorem call_maxD (hc : X.calm = true) : CallRK X (.builtin "max") ["default"] (rMaxD X.K) := by
  intro pins s σ H vs zs us ws Q I r rz h
  obtain ⟨a, ns, d, rfl, rfl, hs, q⟩ := h
  obtain ⟨its, rv, ht, _⟩ := I.tuple hs
  cases rz with
  | cons r1 r2 =>
    cases r2
    obtain ⟨t, rfl⟩ := r1
    rw [Vals.ref1 r]
    refine mx_tuple (I.ok.hd hc) ht (ints_of rv) fun v h' tk g hk => ?_
    rcases g with e | ⟨i, t', e, hm⟩
    · exact ⟨.int d, H, I.kept hk, ⟨t, e⟩, q d (.inl rfl)⟩
    · exact ⟨.int i, H, I.kept hk, ⟨t', e⟩, q i (.inr hm)⟩
end
end VG
-- VgMath
set_option linter.all false
namespace VG
/-- how many places -/
def sz : List Nat → Nat
  | [] => 1
  | n :: r => n * sz r
theorem foldl_mul (l : List Nat) : ∀ a : Nat, l.foldl (· * ·) a = a * sz l := by
  induction l with
  | nil => intro a; exact (Nat.mul_one a).symm
  | cons n r ih => intro a; rw [List.foldl_cons, ih, sz, Nat.mul_assoc]
theorem sz_append (a b : List Nat) : sz (a ++ b) = sz a * sz b := by
  induction a with
  | nil => simp [sz]
  | cons n r ih => rw [List.cons_append, sz, sz, ih, Nat.mul_assoc]
theorem sz_snoc (a : List Nat) (n : Nat) : sz (a ++ [n]) = sz a * n := by
  rw [sz_append]; simp [sz]
theorem sz_take_succ {l : List Nat} {i n : Nat} (h : l[i]? = some n) : sz (l.take (i + 1)) = sz (l.take i) * n := by
  have e : l.take (i + 1) = l.take i ++ [n] := by
    rw [List.take_add_one, h]; rfl
  rw [e, sz_snoc]
/-- all places, in order -/
def places : List Nat → List (List Nat)
  | [] => [[]]
  | n :: r => (List.range n).flatMap fun k => (places r).map (k :: ·)
theorem places_len : ∀ l : List Nat, (places l).length = sz l
  | [] => rfl
  | n :: r => by
    have ih := places_len r
    simp only [places, sz, List.length_flatMap, List.length_map, ih]
    induction n with
    | zero => simp
    | succ n ihn => rw [List.range_succ, List.map_append, List.sum_append, ihn]; simp [Nat.succ_mul]
theorem places_snoc : ∀ (l : List Nat) (n : Nat), places (l ++ [n]) = (places l).flatMap fun p => (List.range n).map fun k => p ++ [k]
  | [], n => by
    simp only [List.nil_append, places, List.flatMap_cons, List.flatMap_nil, List.append_nil, List.map_cons, List.map_nil]
    induction n with
    | zero => rfl
    | succ n ih => rw [List.range_succ, List.flatMap_append, ih, List.map_append]; rfl
  | m :: l, n => by
    have ih := places_snoc l n
    simp only [List.cons_append, places, ih, List.flatMap_assoc, List.map_flatMap, List.map_map, List.flatMap_map]
    rfl
/-- p is a place of l -/
def Inb : List Nat → List Nat → Prop
  | [], [] => True
  | k :: p, n :: l => k < n ∧ Inb p l
  | _, _ => False
theorem mem_places : ∀ {l p : List Nat}, p ∈ places l ↔ Inb p l
  | [], [] => by simp [places, Inb]
  | [], _ :: _ => by simp [places, Inb]
  | n :: l, [] => by simp [places, Inb]
  | n :: l, k :: p => by
    have ih := @mem_places l p
    simp only [places, Inb, List.mem_flatMap, List.mem_range, List.mem_map, List.cons.injEq]
    constructor
    · rintro ⟨a, ha, b, hb, rfl, rfl⟩
      exact ⟨ha, ih.mp hb⟩
    · rintro ⟨ha, hb⟩
      exact ⟨k, ha, p, ih.mpr hb, rfl, rfl⟩
theorem Inb.len : ∀ {p l : List Nat}, Inb p l → p.length = l.length
  | [], [], _ => rfl
  | _ :: _, _ :: _, h => congrArg Nat.succ h.2.len
  | [], _ :: _, h => h.elim
  | _ :: _, [], h => h.elim
theorem Inb.get : ∀ {p l : List Nat} {i k n : Nat}, Inb p l → p[i]? = some k → l[i]? = some n → k < n
  | [], [], _, _, _, _, h, _ => by simp at h
  | _ :: _, _ :: _, 0, _, _, h, a, b => by
    simp at a b; subst a b; exact h.1
  | _ :: _, _ :: _, i + 1, _, _, h, a, b => h.2.get (i := i) (by simpa using a) (by simpa using b)
  | [], _ :: _, _, _, _, h, _, _ => h.elim
  | _ :: _, [], _, _, _, h, _, _ => h.elim
theorem Inb.snoc : ∀ {p l : List Nat} {k n : Nat}, Inb p l → k < n → Inb (p ++ [k]) (l ++ [n])
  | [], [], _, _, _, h => ⟨h, trivial⟩
  | _ :: _, _ :: _, _, _, h, g => ⟨h.1, h.2.snoc g⟩
  | [], _ :: _, _, _, h, _ => h.elim
  | _ :: _, [], _, _, h, _ => h.elim
theorem places_take {l : List Nat} {i n : Nat} (h : l[i]? = some n) : places (l.take (i + 1)) = (places (l.take i)).flatMap fun p => (List.range n).map fun k => p ++ [k] := by
  have e : l.take (i + 1) = l.take i ++ [n] := by
    rw [List.take_add_one, h]; rfl
  rw [e, places_snoc]
theorem sz_pos {l : List Nat} (h : sz l ≠ 0) : ∀ n ∈ l, 0 < n := by
  induction l with
  | nil => intro n hn; cases hn
  | cons a r ih =>
    intro n hn
    simp only [sz] at h
    have h1 : a ≠ 0 := fun z => h (by rw [z, Nat.zero_mul])
    have h2 : sz r ≠ 0 := fun z => h (by rw [z, Nat.mul_zero])
    rcases List.mem_cons.mp hn with e | hn
    · rw [e]; omega
    · exact ih h2 n hn
theorem sz_take_le {l : List Nat} (h : sz l ≠ 0) (i : Nat) : sz (l.take i) ≤ sz l := by
  have e : sz l = sz (l.take i) * sz (l.drop i) := by rw [← sz_append, List.take_append_drop]
  have hd : sz (l.drop i) ≠ 0 := fun z => h (by rw [e, z, Nat.mul_zero])
  rw [e]
  exact Nat.le_mul_of_pos_right _ (Nat.pos_of_ne_zero hd)
theorem places_zero {l : List Nat} (h : sz l = 0) : places l = [] := List.length_eq_zero_iff.mp (by rw [places_len, h])
/-- the number of a place -/
def idx : List Nat → List Nat → Nat
  | [], _ => 0
  | _, [] => 0
  | n :: l, k :: p => k * sz l + idx l p
theorem idx_fold : ∀ (l p : List Nat) (a : Nat), p.length = l.length → (p.zip l).foldl (fun a q => a * q.2 + q.1) a = a * sz l + idx l p
  | [], [], a, _ => by simp [sz, idx]
  | n :: l, k :: p, a, h => by
    have h' : p.length = l.length := by simpa using h
    simp only [List.zip_cons_cons, List.foldl_cons]
    rw [idx_fold l p (a * n + k) h']
    simp only [sz, idx, Nat.add_mul, Nat.mul_assoc, Nat.add_assoc]
  | [], _ :: _, _, h => by simp at h
  | _ :: _, [], _, h => by simp at h
theorem idx_lt : ∀ {l p : List Nat}, Inb p l → idx l p < sz l
  | [], [], _ => by simp [idx, sz]
  | n :: l, k :: p, h => by
    have ih := idx_lt h.2
    have h1 : (k + 1) * sz l ≤ n * sz l := Nat.mul_le_mul_right _ h.1
    simp only [idx, sz]
    rw [Nat.succ_mul] at h1
    omega
  | [], _ :: _, h => h.elim
  | _ :: _, [], h => h.elim
theorem flatMap_at {α β : Type} {f : α → List β} {m : Nat} : ∀ (l : List α) (i j : Nat), (∀ a ∈ l, (f a).length = m) → j < m → (l.flatMap f)[i * m + j]? = (l[i]?).bind fun a => (f a)[j]?
  | [], i, j, _, _ => by simp
  | a :: l, 0, j, h, hj => by
    have e := h a (List.mem_cons_self ..)
    simp only [List.flatMap_cons, Nat.zero_mul, Nat.zero_add]
    rw [List.getElem?_append_left (by omega)]
    rfl
  | a :: l, i + 1, j, h, hj => by
    have e := h a (List.mem_cons_self ..)
    have ih := flatMap_at l i j (fun b hb => h b (List.mem_cons_of_mem _ hb)) hj
    simp only [List.flatMap_cons]
    rw [List.getElem?_append_right (by rw [e, Nat.succ_mul]; omega), e]
    have z : (i + 1) * m + j - m = i * m + j := by rw [Nat.succ_mul]; omega
    rw [z, ih]
    simp
theorem places_idx : ∀ {l p : List Nat}, Inb p l → (places l)[idx l p]? = some p
  | [], [], _ => rfl
  | n :: l, k :: p, h => by
    have ih := places_idx h.2
    simp only [places, idx]
    rw [flatMap_at (m := sz l) _ _ _ (fun a _ => by rw [List.length_map, places_len]) (idx_lt h.2)]
    rw [List.getElem?_range h.1]
    simp [ih]
  | [], _ :: _, h => h.elim
  | _ :: _, [], h => h.elim
theorem idx_at : ∀ {l p : List Nat} {i : Nat}, (places l)[i]? = some p → idx l p = i
  | [], p, i, h => by
    cases i with
    | zero => simp [idx]
    | succ i => simp [places] at h
  | n :: l, p, i, h => by
    have hi := (List.getElem?_eq_some_iff.mp h).1
    rw [places_len, sz] at hi
    have hm : 0 < sz l := by
      rcases Nat.eq_zero_or_pos (sz l) with z | z
      · rw [z] at hi; simp at hi
      · exact z
    have e : i = i / sz l * sz l + i % sz l := (Nat.div_add_mod' i (sz l)).symm
    have hr := Nat.mod_lt i hm
    simp only [places] at h
    rw [e, flatMap_at (m := sz l) _ _ _ (fun a _ => by rw [List.length_map, places_len]) hr] at h
    cases q : (List.range n)[i / sz l]? with
    | none => rw [q] at h; simp at h
    | some k =>
      rw [q] at h
      have hk : k = i / sz l := by
        have := List.getElem?_eq_some_iff.mp q
        obtain ⟨_, z⟩ := this
        simpa using z.symm
      simp only [Option.bind_some, List.getElem?_map] at h
      cases q2 : (places l)[i % sz l]? with
      | none => rw [q2] at h; simp at h
      | some p' =>
        rw [q2] at h
        have hp : k :: p' = p := by simpa using h
        subst hp
        have ih := idx_at q2
        simp only [idx, ih, hk]
        exact e.symm
theorem idx_inj {l p q : List Nat} (hp : Inb p l) (hq : Inb q l) (h : idx l p = idx l q) : p = q := by
  have a := places_idx hp
  have b := places_idx hq
  rw [h, b] at a
  exact (Option.some.inj a).symm
def dot : List Nat → List Int → Int
  | k :: p, s :: ss => (k : Int) * s + dot p ss
  | _, _ => 0
def cellAt (b : Int) (ss : List Int) (p : List Nat) : Int := b + dot p ss
def cells (l : List Nat) (b : Int) (ss : List Int) : List Int := (places l).map (cellAt b ss)
theorem dot_snoc : ∀ (p : List Nat) (ss : List Int) (k : Nat) (s : Int), p.length = ss.length → dot (p ++ [k]) (ss ++ [s]) = dot p ss + (k : Int) * s
  | [], [], k, s, _ => by simp [dot]
  | a :: p, t :: ss, k, s, h => by
    have ih := dot_snoc p ss k s (by simpa using h)
    simp only [List.cons_append, dot, ih]
    omega
  | [], _ :: _, _, _, h => by simp at h
  | _ :: _, [], _, _, h => by simp at h
theorem cells_snoc (l : List Nat) (n : Nat) (b : Int) (ss : List Int) (s : Int) (h : l.length = ss.length) :
    cells (l ++ [n]) b (ss ++ [s]) = (cells l b ss).flatMap fun c => (List.range n).map fun k : Nat => c + s * (k : Int) := by
  unfold cells
  rw [places_snoc, List.map_flatMap, List.flatMap_map]
  have key : ∀ ps : List (List Nat), (∀ p ∈ ps, p.length = ss.length) → (ps.flatMap fun a => List.map (cellAt b (ss ++ [s])) ((List.range n).map fun k => a ++ [k])) = ps.flatMap fun a => (List.range n).map fun k : Nat => cellAt b ss a + s * (k : Int) := by
    intro ps
    induction ps with
    | nil => intro _; rfl
    | cons p ps ih =>
      intro hp
      rw [List.flatMap_cons, List.flatMap_cons, ih fun q hq => hp q (List.mem_cons_of_mem _ hq), List.map_map]
      congr 1
      refine List.map_congr_left fun k _ => ?_
      show cellAt b (ss ++ [s]) (p ++ [k]) = _
      unfold cellAt
      rw [dot_snoc p ss k s (hp p (List.mem_cons_self ..)), Int.mul_comm s]
      omega
  exact key _ fun p hp => ((mem_places.mp hp).len).trans h
end VG
-- VgEnum
set_option Elab.async false
set_option linter.all false
set_option maxRecDepth 100000
set_option maxHeartbeats 4000000
namespace VG
open PySem PySem.Spec PyProof.Rows L2
theorem tup_iter_push {h : Heap} {t : Addr} {items : Array Value} (ht : h.IsTuple t items) (o : Obj) : (h.push o).IsTuple t items := ht.push o
theorem mk_enum_tup (l : Addr) (items : Array Value) (n : Nat) (dct : Option Addr) (sl : Array (Option Value)) :
    Meets (Builtin.«enumerate.__new__» ⟨[.type "enumerate", .ref l], []⟩) (fun _ R s => s.heap.get? l = some { cls := .type "tuple", dict := dct, data := .seq items n, slots := sl } ∧
      R (.ok (.ret (.ref (s.heap.push { cls := .type "tuple_iterator", data := .fields #[.ref l, .int 0 0] }).objs.size)))
        { s with heap := (s.heap.push { cls := .type "tuple_iterator", data := .fields #[.ref l, .int 0 0] }).push { cls := .type "enumerate", data := .fields #[.none, .bool false, .ref s.heap.objs.size, rawInt 0, .none, .none] } }) :=
  .of_wp fun prog w A R s h => by
    obtain ⟨hp, g, d, tk, os⟩ := s; obtain ⟨hl, h⟩ := h
    have hsub := sub_enumerate
    have hT : Heap.IsTuple (Shared.heap ⟨hp, g, d, tk, os⟩) l items := ⟨_, hl, rfl, n, rfl⟩
    wp_walk using AutoSeq1.wpAny_loadPart' hl
    refine wpAny_stack_any fun st => wpAny_pure ?_
    split
    · rename_i c _ _ _ _ _
      cases (c == Value.type "enumerate")
      all_goals
        wp_walk using AutoSeq1.wpAny_loadPart' hl, wpAny_pyIter_tuple hT
        exact ⟨_, rfl, h⟩
    · wp_walk using AutoSeq1.wpAny_loadPart' hl, wpAny_pyIter_tuple hT
      exact ⟨_, rfl, h⟩
section
variable {prog : Program} {w : World} {A : Around} {E : Value → Shared → Prop} {s : Shared}
theorem enum_tup {l : Addr} {items : Array Value} {Q : Value → Shared → Prop} (hT : s.heap.IsTuple l items)
    (h : ∀ h', IsEnum h' (s.heap.objs.size + 1) s.heap.objs.size 0 .none → h'.IsTupleIter s.heap.objs.size l 0 →
      (∀ b o, s.heap.get? b = some o → h'.get? b = some o) → Q (.ref (s.heap.objs.size + 1)) { s with heap := h' }) :
    wpAny (model prog w) A (call (.type "enumerate") [.ref l]) Q E s := by
  obtain ⟨⟨c, dct, dt, sl⟩, hl, hc, n, hd⟩ := hT
  replace hc : c = .type "tuple" := hc
  replace hd : dt = .seq items n := hd
  subst hc hd
  refine callType_new PySem.F.called_enumerate (by decide) (PySem.F.typeCall_enumerate_1 _) (PySem.F.newCall_enumerate_1 _) (fun obj => PySem.F.args_object_init_2 obj _) PySem.F.entry_enumerate_new
    (mk_enum_tup l items n dct sl) ⟨hl, ?_⟩
  have hz : (s.heap.push { cls := .type "tuple_iterator", data := .fields #[.ref l, .int 0 0] }).objs.size = s.heap.objs.size + 1 := Heap.size_push ..
  show _ ∧ _
  rw [hz]
  have he : IsEnum ((s.heap.push { cls := .type "tuple_iterator", data := .fields #[.ref l, .int 0 0] }).push
      { cls := .type "enumerate", data := .fields #[.none, .bool false, .ref s.heap.objs.size, rawInt 0, .none, .none] }) (s.heap.objs.size + 1) s.heap.objs.size 0 .none := by
    have q := Heap.get?_push_size (s.heap.push { cls := .type "tuple_iterator", data := .fields #[.ref l, .int 0 0] })
      (o := { cls := .type "enumerate", data := .fields #[.none, .bool false, .ref s.heap.objs.size, rawInt 0, .none, .none] }) rfl
    rw [hz] at q; exact q
  exact ⟨⟨_, he, rfl⟩, h _ he ⟨_, Heap.get?_push_of_some _ (Heap.get?_push_size _ rfl), rfl, rfl⟩ fun b o x => Heap.get?_push_of_some _ (Heap.get?_push_of_some _ x)⟩
end
/-- the tuple at a, the items in new pairs -/
def IteT (K : PySem.W.Frag) (a : Addr) : It :=
  ⟨fun i H => ∃ (xs : List V) (x : V), SqT K H a xs ∧ xs[i]? = some x,
    fun i H v H' => ∃ T x, v = .ref T ∧ H T = none ∧ H' = upd H T (.tup [.int (i : Nat), x]) ∧ ∀ xs, SqT K H a xs → xs[i]? = some x,
    fun i H => ∃ xs : List V, SqT K H a xs ∧ xs.length = i⟩
theorem turn_enumT {P : Program} {w : World} {K : PySem.W.Frag} {elts : List Expr} {kk : Nat} {tpos : Pos} (a e it : Addr) :
    Turn P w K (.Tuple elts kk tpos) (IteT K a) [e, it] e (fun i h => (∃ old, IsEnum h e it ((i : Nat) : Int) old) ∧ h.IsTupleIter it a i ∧ e ≠ it ∧ e ≠ a ∧ it ≠ a) where
  mem := by simp
  obj := fun i h st b hb => by
    obtain ⟨⟨old, he⟩, ⟨o, ho, hc, hd⟩, _⟩ := st
    rcases List.mem_cons.mp hb with z | z
    · rw [z]; exact ⟨_, he, fun v q => nomatch q⟩
    · rw [List.mem_singleton.mp z]; exact ⟨o, ho, fun v q => by rw [hd] at q; cases q⟩
  keep := fun i h h' st k => let ⟨⟨old, he⟩, hi, hne⟩ := st; ⟨⟨old, k e (by simp) _ he⟩, hi.at fun o q => k it (by simp) o q, hne⟩
  item := by
    intro X hP hw hK hc i pins s σ H E I hf st hg
    subst hP hw hK
    obtain ⟨⟨old, he⟩, hit, hne, hea, hia⟩ := st
    obtain ⟨xs, x, hq, hx⟩ := hg
    obtain ⟨its, rv, p, hz⟩ := I.tuple hq
    obtain ⟨u, hu, ru⟩ := rv.get hx
    have hel : e < s.heap.objs.size := Heap.lt_size he
    have hil : it < s.heap.objs.size := by obtain ⟨_, q, _⟩ := hit; exact Heap.lt_size q
    have hsz : i < its.toArray.size := by
      have q := (List.getElem?_eq_some_iff.mp hu).1
      simpa using q
    refine wpAny_pyNext_enum_itemD (Draws.tuple (A := X.A.in1) (I.ok.hd hc) it a (Ne.symm hia) its.toArray) he ⟨hit, p⟩ hsz hne (by simp [hne, hea]) fun y h' tk hy ho st' hT hs hk => ?_
    have ey : y = u := by
      have q : its.toArray[i]? = some u := by simpa using hu
      rw [q] at hy
      exact (Option.some.inj hy).symm
    subst ey
    refine ⟨_, rfl, wpAny_letOwnedTupleGo_enum (s := { s with heap := h', toks := tk + 1 }) ho fun h'' he' sb => ?_⟩
    have hT2 : h''.get? s.heap.objs.size = some { cls := .type "tuple", data := .seq #[.int i tk, y] } := (sb.2 _ (Nat.ne_of_gt hel)).trans hT
    have new : ObjOk X.prog X.w (upd H s.heap.objs.size (.tup [.int (i : Nat), x])) h'' s.heap.objs.size (.tup [.int (i : Nat), x]) :=
      ⟨by show 2 ≤ sizeLine; decide, [.int i tk, y], .cons ⟨_, rfl⟩ (.cons ru .nil), ⟨_, hT2, rfl, _, rfl⟩⟩
    have I1 : Inv X pins σ (upd H s.heap.objs.size (.tup [.int (i : Nat), x])) { s with heap := h'', toks := tk + 1 } :=
      I.turnedNew (ch := [e, it]) (fun b ob hb q => (sb.2 b (fun z => hb (by simp [z]))).trans (hk b ob (fun z => hb (by simp [z])) (fun z => hb (by simp [z])) q)) hf (Nat.le_refl _) new
    refine ⟨.ref s.heap.objs.size, _, I1, rfl, ⟨_, x, rfl, I.hok.fresh (Nat.le_refl _), rfl, fun ys hy => by rw [I.tuple_inj hy hq]; exact hx⟩, ⟨⟨y, ?_⟩, st'.1.at fun o q => (sb.2 it (Ne.symm hne)).trans q, hne, hea, hia⟩, fun b hb => ?_⟩
    · have e1 : ((i + 1 : Nat) : Int) = (i : Int) + 1 := by omega
      rw [e1]; exact he'
    · have hb' : b < s.heap.objs.size := by
        rcases List.mem_cons.mp hb with z | z
        · rw [z]; exact hel
        · rw [List.mem_singleton.mp z]; exact hil
      rw [upd_ne (Nat.ne_of_lt hb')]
      exact (hf b hb).1
  done := by
    intro X hP hw hK hc i pins s σ H E I hf st hg
    subst hP hw hK
    obtain ⟨⟨old, he⟩, hit, hne, hea, hia⟩ := st
    obtain ⟨xs, hq, hx⟩ := hg
    obtain ⟨its, rv, p, hz⟩ := I.tuple hq
    obtain ⟨f0, f1, f2, f3, f4, f5⟩ := hf it (by simp)
    have hl := rv.length
    have D := Draws.tuple (prog := X.prog) (w := X.w) (A := X.A.in1) (I.ok.hd hc) it a (Ne.symm hia) its.toArray
    have ei : its.toArray.size = i := by rw [List.size_toArray]; omega
    rw [ei] at D
    exact wpAny_pyNext_enum_endD D he ⟨hit, p⟩ fun h' eb => ⟨rfl, I.turned (t' := s.toks) (fun b o hb q => eb b o hb q) f0 f1 f3 f4 f5⟩
  self := fun A i s Q E st h => let ⟨⟨_, he⟩, _⟩ := st; wpAny_pyIter_enum he h
def iEnumT (K : PySem.W.Frag) (ta : TA) : TI := fun σ H R => ta σ H fun vs H1 => ∃ a xs, vs = [.ref a] ∧ SqT K H1 a xs ∧ R (IteT K a) H1
theorem pi_enumT {X : Cx} {e : Expr} {ta : TA} {p pos tpos : Pos} {elts : List Expr} {kk : Nat} (hg : Gl X "enumerate") (hm : X.mg "enumerate" = none) (ha : PA X [e] ta) (hs : starEach [e] X.env = [(false, eval e X.env)] := by rfl) :
    PI X (.Tuple elts kk tpos) (.Call (.Name "enumerate" p) [e] [] pos) (iEnumT X.K ta) := by
  refine ⟨fun pins s σ H R I h => ?_⟩
  refine Call_ (ld_blt I hg hm boot_enumerate (PyProof.Rows.callWith_type1 (thn (ha.run pos pins s σ H _ I h) fun us s1 ⟨vs, H1, I1, r1, q1⟩ => ?_) hs rfl))
  obtain ⟨a, xs, ex, hq, q⟩ := q1
  subst ex
  rw [Vals.ref1 r1]
  obtain ⟨its, rv, p', hz⟩ := I1.tuple hq
  refine enum_tup p' fun h' he hit hk => wpAny_pyIter_enum he ?_
  have I2 : Inv X pins σ H1 { s1 with heap := h' } := I1.kept (t' := s1.toks) hk
  have la : a < s1.heap.objs.size := by obtain ⟨o, ho, _⟩ := p'; exact Heap.lt_size ho
  refine ⟨s1.heap.objs.size + 1, [s1.heap.objs.size + 1, s1.heap.objs.size], _, _, H1, rfl, I2, turn_enumT a (s1.heap.objs.size + 1) s1.heap.objs.size, ⟨⟨.none, he⟩, hit, Nat.succ_ne_self _, Nat.ne_of_gt (Nat.lt_succ_of_lt la), Nat.ne_of_gt la⟩, fun b hb => ?_, q⟩
  have hle : s1.heap.objs.size ≤ b := by
    rcases List.mem_cons.mp hb with z | z
    · rw [z]; exact Nat.le_add_right _ _
    · rw [List.mem_singleton.mp z]; exact Nat.le_refl _
  exact I1.fpOk hle (I1.hok.fresh hle)
theorem walk_enumT {K : PySem.W.Frag} {a : Addr} {xs : List V} : Walk (IteT K a) xs.length (fun H => SqT K H a xs) (YPair (fun i => some (.int (i : Nat))) (fun i => xs[i]?)) := by
  refine ⟨fun i _ hi q => ⟨xs, xs[i], q, by simp [hi]⟩, fun _ q => ⟨xs, q, rfl⟩, fun i H v H' _ q y => ?_⟩
  obtain ⟨T, x, h1, h2, h3, h4⟩ := y
  exact ⟨T, .int (i : Nat), x, h1, h2, h3, rfl, h4 xs q⟩
/-- zip of two tuples -/
theorem walk_zipT {K : PySem.W.Frag} {a b : Addr} {xs ys : List V} {n : Nat} (h1 : xs.length = n) (h2 : ys.length = n) : Walk (RZ.ItzT K a b) n (fun H => SqT K H a xs ∧ SqT K H b ys) (YPair (fun i => xs[i]?) (fun i => ys[i]?)) := by
  refine ⟨fun i _ hi q => ?_, fun _ q => ⟨xs, ys, q.1, q.2, by omega⟩, fun i H v H' _ q y => ?_⟩
  · exact ⟨xs, ys, xs[i]'(by omega), ys[i]'(by omega), q.1, q.2, by simp, by simp⟩
  · obtain ⟨T, x, z, e1, e2, e3, e4, e5⟩ := y
    exact ⟨T, x, z, e1, e2, e3, e4 xs q.1, e5 ys q.2⟩
theorem walk_zipL {K : PySem.W.Frag} {a b : Addr} {xs ys : List V} {n : Nat} (h1 : xs.length = n) (h2 : ys.length = n) : Walk (Itz K a b) n (fun H => SqL K H a xs ∧ SqL K H b ys) (YPair (fun i => xs[i]?) (fun i => ys[i]?)) :=
  walk_zip (by omega)
/-- reversed(tuple) -/
theorem walk_revT {K : PySem.W.Frag} {a : Addr} {xs : List V} : Walk (RT.ItvT K a xs.length) xs.length (fun H => SqT K H a xs) (fun i H x H' => H' = H ∧ xs[xs.length - 1 - i]? = some x) :=
  ⟨fun i _ hi q => ⟨hi, xs, xs[xs.length - 1 - i]'(by omega), q, by simp [show xs.length - 1 - i < xs.length by omega]⟩, fun _ _ => Nat.le_refl _, fun _ _ _ _ _ q y => ⟨y.1, y.2 xs q⟩⟩
end VG
-- VgComp
set_option Elab.async false
set_option linter.all false
set_option maxRecDepth 100000
set_option maxHeartbeats 4000000
namespace VG
open PySem PySem.Spec PyProof.Rows L2
/-- two lists, item by item -/
inductive All2 {α β : Type} (F : α → β → Prop) : List α → List β → Prop where
  | nil : All2 F [] []
  | cons {a b as bs} : F a b → All2 F as bs → All2 F (a :: as) (b :: bs)
namespace All2
variable {α β : Type} {F G : α → β → Prop}
theorem len : ∀ {as : List α} {bs : List β}, All2 F as bs → as.length = bs.length
  | _, _, .nil => rfl
  | _, _, .cons _ t => congrArg Nat.succ t.len
theorem imp (h : ∀ a b, F a b → G a b) : ∀ {as : List α} {bs : List β}, All2 F as bs → All2 G as bs
  | _, _, .nil => .nil
  | _, _, .cons x t => .cons (h _ _ x) (t.imp h)
theorem snoc {a : α} {b : β} (h : F a b) : ∀ {as : List α} {bs : List β}, All2 F as bs → All2 F (as ++ [a]) (bs ++ [b])
  | _, _, .nil => .cons h .nil
  | _, _, .cons x t => .cons x (t.snoc h)
theorem get : ∀ {as : List α} {bs : List β} {i : Nat} {a : α}, All2 F as bs → as[i]? = some a → ∃ b, bs[i]? = some b ∧ F a b
  | _, _, _, _, .nil, h => by cases h
  | _, _, 0, _, .cons x _, h => by cases h; exact ⟨_, rfl, x⟩
  | _, _, i + 1, _, .cons _ t, h => t.get (i := i) h
theorem get2 : ∀ {as : List α} {bs : List β} {i : Nat} {b : β}, All2 F as bs → bs[i]? = some b → ∃ a, as[i]? = some a ∧ F a b
  | _, _, _, _, .nil, h => by cases h
  | _, _, 0, _, .cons x _, h => by cases h; exact ⟨_, rfl, x⟩
  | _, _, i + 1, _, .cons _ t, h => t.get2 (i := i) h
theorem of_get : ∀ {as : List α} {bs : List β}, as.length = bs.length → (∀ (i : Nat) a b, as[i]? = some a → bs[i]? = some b → F a b) → All2 F as bs
  | [], [], _, _ => .nil
  | a :: as, b :: bs, h, k => .cons (k 0 a b rfl rfl) (of_get (by simpa using h) fun i x y p q => k (i + 1) x y (by simpa using p) (by simpa using q))
  | [], _ :: _, h, _ => by simp at h
  | _ :: _, [], h, _ => by simp at h
end All2
theorem all2_int : ∀ {ys : List V} {ns : List Int}, All2 (fun y n => y = V.int n) ys ns → ys = ti ns
  | _, _, .nil => rfl
  | _, _, .cons e t => by rw [e, all2_int t]; rfl
theorem all2_nat : ∀ {ys : List V} {ns : List Nat}, All2 (fun y (n : Nat) => y = V.int (n : Int)) ys ns → ys = tn ns
  | _, _, .nil => rfl
  | _, _, .cons e t => by rw [e, all2_nat t]; rfl
/-- refs of tuples of numbers -/
theorem all2_tups {H : Hp} : ∀ {ys : List V} {ps : List (List Nat)}, All2 (fun y p => ∃ q, y = V.ref q ∧ H q = some (.tup (tn p))) ys ps → ∃ as : List Addr, ys = as.map V.ref ∧ Tups H as ps
  | _, _, .nil => ⟨[], rfl, .nil⟩
  | _, _, .cons ⟨q, e, h⟩ t => by
    obtain ⟨as, e2, h2⟩ := all2_tups t
    exact ⟨q :: as, by rw [e, e2]; rfl, .cons h h2⟩
theorem take_flat {α β : Type} {as : List α} {f : α → List β} {i : Nat} {a : α} (h : as[i]? = some a) : (as.take (i + 1)).flatMap f = (as.take i).flatMap f ++ f a := by
  rw [List.take_add_one, h]
  simp
theorem take_one {β : Type} {bs : List β} {i : Nat} {b : β} (h : bs[i]? = some b) : bs.take (i + 1) = bs.take i ++ [b] := by
  rw [List.take_add_one, h]; rfl
theorem flat_len_le {α β : Type} {as : List α} {f : α → List β} {i j : Nat} {a : α} (h : as[i]? = some a) : ((as.take i).flatMap f).length + ((f a).take j).length ≤ (as.flatMap f).length := by
  have e : as = as.take i ++ a :: as.drop (i + 1) := by
    obtain ⟨hi, e⟩ := List.getElem?_eq_some_iff.mp h
    rw [← e, ← List.drop_eq_getElem_cons hi, List.take_append_drop]
  have e2 : as.flatMap f = (as.take i).flatMap f ++ (f a ++ (as.drop (i + 1)).flatMap f) := by
    conv => lhs; rw [e]
    rw [List.flatMap_append, List.flatMap_cons]
  rw [e2, List.length_append, List.length_append, List.length_take]
  omega
section
variable {J : It} {G : Hp → Prop} {Y : Nat → Hp → V → Hp → Prop} {α β : Type}
theorem lc2_new (as : List α) (f : α → List β) (w : Walk J as.length G Y) {i0 i1 : Nat} {wi1 : TI} {te : TE} {vs vs1 : List Nat} {σ : L2.St} {H1 : Hp} {D : Addr} {Qd : Hp → Prop} (hsz : (as.flatMap f).length ≤ 90000) (hD : H1 D = none) (Rel : V → β → Hp → Prop)
    (hG : ∀ H, Same H1 H → G H) (hR : ∀ y b H H', But D H H' → Rel y b H → Rel y b H') (hw : ∀ x, wipe ((wipe σ vs).set i0 (some x)) vs = wipe σ vs)
    (hs : ∀ i a x H H' (Kw : It → Hp → Prop), as[i]? = some a → Same H1 H → (∃ acc, H D = some (.lst acc)) → Y i H x H' →
      (∀ J1 H4 (G1 : Hp → Prop) (Y1 : Nat → Hp → V → Hp → Prop), Same H H4 → Walk J1 (f a).length G1 Y1 → (∀ H5, But D H4 H5 → G1 H5) →
        (∀ j b x1 H5 H6 (Kt : VK), (f a)[j]? = some b → But D H4 H5 → (∃ acc, H5 D = some (.lst acc)) → Y1 j H5 x1 H6 → (∀ y H7, Same H5 H7 → Rel y b H7 → Kt y H7) →
          wipe ((wipe ((wipe σ vs).set i0 (some x)) vs1).set i1 (some x1)) vs1 = wipe ((wipe σ vs).set i0 (some x)) vs1 ∧ te ((wipe ((wipe σ vs).set i0 (some x)) vs1).set i1 (some x1)) H6 Kt) → Kw J1 H4) →
      wi1 ((wipe σ vs).set i0 (some x)) H' Kw)
    (hd : ∀ ys H, Same H1 H → H D = some (.lst ys) → All2 (fun y b => Rel y b H) ys (as.flatMap f) → Qd H) :
    ∃ W : Nat → Nat → Hp → Prop, (∃ m, W 0 m (upd H1 D (.lst []))) ∧ ∀ i m H, W i m H →
      (J.stop i H ∧ Qd H) ∨ (J.go i H ∧ ∃ Nx : Hp → Prop, (∀ H', Nx H' → ∃ m', m' < m ∧ W (i + 1) m' H') ∧ ∀ x H', J.yld i H x H' → gName i0 x (wipe σ vs) H' fun σ2 H2 => wipe σ2 vs = wipe σ vs ∧ tYes σ2 H2 fun b H3 =>
        if b = true then wi1 σ2 H3 fun J1 H4 => ∃ W1 : Nat → Nat → Hp → Prop, (∃ m, W1 0 m H4) ∧ ∀ j k H, W1 j k H →
          (J1.stop j H ∧ Nx H) ∨ (J1.go j H ∧ ∃ Nx1 : Hp → Prop, (∀ H', Nx1 H' → ∃ k', k' < k ∧ W1 (j + 1) k' H') ∧ ∀ x H', J1.yld j H x H' → gName i1 x (wipe σ2 vs1) H' fun σ3 H5 => wipe σ3 vs1 = wipe σ2 vs1 ∧ tYes σ3 H5 fun b H6 =>
            if b = true then te σ3 H6 fun y H7 => ∃ acc, H7 D = some (.lst acc) ∧ acc.length < sizeLine ∧ Nx1 (upd H7 D (.lst (acc ++ [y]))) else Nx1 H6)
        else Nx H3) := by
  refine ⟨fun i m H => m = as.length - i ∧ i ≤ as.length ∧ Same H1 H ∧ ∃ ys, H D = some (.lst ys) ∧ All2 (fun y b => Rel y b H) ys ((as.take i).flatMap f), ⟨_, rfl, Nat.zero_le _, Same.new hD, [], upd_same, .nil⟩, ?_⟩
  rintro i m H ⟨rfl, hi, s, ys, hy, al⟩
  by_cases lt : i < as.length
  · obtain ⟨a, ha⟩ : ∃ a, as[i]? = some a := ⟨as[i], by simp [lt]⟩
    refine .inr ⟨w.goes i H lt (hG H s), fun H' => Same H1 H' ∧ ∃ ys, H' D = some (.lst ys) ∧ All2 (fun y b => Rel y b H') ys ((as.take (i + 1)).flatMap f), fun H' ⟨s', h'⟩ => ⟨_, by omega, rfl, lt, s', h'⟩, fun x H' yl => ?_⟩
    refine ⟨hw x, ?_⟩
    simp only [tYes, if_true]
    refine hs i a x H H' _ ha s ⟨ys, hy⟩ (w.yields i H x H' lt (hG H s) yl) fun J1 H4 G1 Y1 s4 w1 g1 inner => ?_
    refine ⟨fun j k H5 => k = (f a).length - j ∧ j ≤ (f a).length ∧ But D H4 H5 ∧ ∃ ys, H5 D = some (.lst ys) ∧ All2 (fun y b => Rel y b H5) ys ((as.take i).flatMap f ++ (f a).take j),
      ⟨_, rfl, Nat.zero_le _, fun b o _ e => e, ys, s4 D _ hy, by rw [List.take_zero, List.append_nil]; exact al.imp fun y b r => hR y b H H4 (Same.but D s4) r⟩, ?_⟩
    rintro j k H5 ⟨rfl, hj, b5, zs, hz, al5⟩
    have top5 : But D H1 H5 := (Same.but D (s.trans s4)).trans b5
    by_cases ltj : j < (f a).length
    · obtain ⟨b, hb⟩ : ∃ b, (f a)[j]? = some b := ⟨(f a)[j], by simp [ltj]⟩
      refine .inr ⟨w1.goes j H5 ltj (g1 H5 b5), fun H' => But D H4 H' ∧ ∃ ys, H' D = some (.lst ys) ∧ All2 (fun y b => Rel y b H') ys ((as.take i).flatMap f ++ (f a).take (j + 1)), fun H' ⟨s', h'⟩ => ⟨_, by omega, rfl, ltj, s', h'⟩, fun x1 H6 yl1 => ?_⟩
      have q := inner j b x1 H5 H6 (fun y H7 => ∃ acc, H7 D = some (.lst acc) ∧ acc.length < sizeLine ∧ (But D H4 (upd H7 D (.lst (acc ++ [y]))) ∧ ∃ ys, (upd H7 D (.lst (acc ++ [y]))) D = some (.lst ys) ∧ All2 (fun y' b => Rel y' b (upd H7 D (.lst (acc ++ [y])))) ys ((as.take i).flatMap f ++ (f a).take (j + 1))))
        hb b5 ⟨zs, hz⟩ (w1.yields j H5 x1 H6 ltj (g1 H5 b5) yl1) fun y H7 s7 r7 => ?_
      · refine ⟨q.1, ?_⟩
        exact q.2
      · have ln := al5.len
        have bd := flat_len_le (f := f) (j := j) ha
        rw [List.length_append] at ln
        refine ⟨zs, s7 D _ hz, sz_lt (by omega), (b5.trans (Same.but D s7)).trans But.put, zs ++ [y], upd_same, ?_⟩
        rw [take_one hb, ← List.append_assoc]
        exact All2.snoc (F := fun y' b' => Rel y' b' (upd H7 D (.lst (zs ++ [y])))) (hR y b H7 _ But.put r7) (al5.imp fun y' b' r => hR y' b' H5 _ ((Same.but D s7).trans But.put) r)
    · have e : j = (f a).length := by omega
      subst e
      refine .inl ⟨w1.stops H5 (g1 H5 b5), But.same hD top5, zs, hz, ?_⟩
      rw [take_flat ha]
      rw [List.take_length] at al5
      exact al5
  · have e : i = as.length := by omega
    subst e
    rw [List.take_length] at al
    exact .inl ⟨w.stops H (hG H s), hd ys H s hy al⟩
/-- a comprehension with a test -/
theorem lc_flt (as : List α) (f : α → Option β) (w : Walk J as.length G Y) {g : TG} {tt : TT} {te : TE} {vs : List Nat} {σ : L2.St} {H1 : Hp} {D : Addr} {Qd : Hp → Prop} (hsz : as.length ≤ 90000) (hD : H1 D = none) (Rel : V → β → Hp → Prop)
    (hG : ∀ H, Same H1 H → G H) (hR : ∀ y b H H', But D H H' → Rel y b H → Rel y b H')
    (hs : ∀ i a x H H' (Kt : VK) (Kn : Hp → Prop), as[i]? = some a → Same H1 H → (∃ acc, H D = some (.lst acc)) → Y i H x H' → (∀ y H4, Same H H4 → (∃ b, f a = some b ∧ Rel y b H4) → Kt y H4) → (∀ H4, Same H H4 → f a = none → Kn H4) →
      g x (wipe σ vs) H' fun σ2 H2 => wipe σ2 vs = wipe σ vs ∧ tt σ2 H2 fun b H3 => if b = true then te σ2 H3 Kt else Kn H3)
    (hd : ∀ ys H, Same H1 H → H D = some (.lst ys) → All2 (fun y b => Rel y b H) ys (as.filterMap f) → Qd H) :
    ∃ W : Nat → Nat → Hp → Prop, (∃ m, W 0 m (upd H1 D (.lst []))) ∧ ∀ i m H, W i m H →
      (J.stop i H ∧ Qd H) ∨ (J.go i H ∧ ∃ Nx : Hp → Prop, (∀ H', Nx H' → ∃ m', m' < m ∧ W (i + 1) m' H') ∧ ∀ x H', J.yld i H x H' → g x (wipe σ vs) H' fun σ2 H2 => wipe σ2 vs = wipe σ vs ∧ tt σ2 H2 fun b H3 =>
        if b = true then te σ2 H3 fun y H4 => ∃ acc, H4 D = some (.lst acc) ∧ acc.length < sizeLine ∧ Nx (upd H4 D (.lst (acc ++ [y]))) else Nx H3) := by
  refine lc_it w (fun i H => Same H1 H ∧ ∃ ys, H D = some (.lst ys) ∧ All2 (fun y b => Rel y b H) ys ((as.take i).filterMap f)) ⟨Same.new hD, [], upd_same, .nil⟩ (fun i H _ h => hG H h.1) ?_ ?_
  · rintro i x H H' hi ⟨s, ys, hy, al⟩ yl
    obtain ⟨a, ha⟩ : ∃ a, as[i]? = some a := ⟨as[i], by simp [hi]⟩
    refine hs i a x H H' _ _ ha s ⟨ys, hy⟩ yl (fun y H4 s4 ⟨b, hb, r⟩ => ?_) fun H4 s4 hn => ⟨s.trans s4, ys, s4 D _ hy, ?_⟩
    · have ln := al.len
      have h2 := List.length_filterMap_le f (as.take i)
      rw [List.length_take] at h2
      refine ⟨ys, s4 D _ hy, sz_lt (by omega), But.same hD ((Same.but D (s.trans s4)).trans But.put), ys ++ [y], upd_same, ?_⟩
      rw [take_one ha, List.filterMap_append, List.filterMap_cons, hb]
      exact All2.snoc (F := fun y' b' => Rel y' b' (upd H4 D (.lst (ys ++ [y])))) (hR y b H4 _ But.put r) (al.imp fun y' b' r => hR y' b' H _ ((Same.but D s4).trans But.put) r)
    · rw [take_one ha, List.filterMap_append, List.filterMap_cons, hn]
      simp only [List.filterMap_nil, List.append_nil]
      exact al.imp fun y' b' r => hR y' b' H _ (Same.but D s4) r
  · rintro H ⟨s, ys, hy, al⟩
    rw [List.take_length] at al
    exact hd ys H s hy al
end
end VG
-- VgK
set_option Elab.async false
set_option linter.all false
set_option maxRecDepth 100000
set_option maxHeartbeats 4000000
namespace VG
open PySem PySem.Spec PyProof.Rows L2
section
variable {X : Cx} {K : PySem.W.Frag} {tg e l o : Expr} {tl te to : TE} {ta t : TA} {p pos tpos apos cpos : Pos} {elts es : List Expr} {kk : Nat}
theorem op_catK (hK : X.K = K) : OpR X (binaryOp .Add) (rCatA K) := by subst hK; exact op_catA
theorem op_inK (hK : X.K = K) : OpR X (compareOp .In) (rIn K false) := by subst hK; exact op_in_seq
theorem op_notInK (hK : X.K = K) : OpR X (compareOp .NotIn) (rIn K true) := by subst hK; exact op_notIn_seq
theorem op_eqDK (hK : X.K = K) (hu : X.A.units + 64 < cLine) : OpR X (compareOp .Eq) (rEqD K) := by subst hK; exact op_eqD hu
theorem op_neDK (hK : X.K = K) (hu : X.A.units + 64 < cLine) : OpR X (compareOp .NotEq) (rNeD K) := by subst hK; exact op_neD hu
theorem ix_K (hK : X.K = K) : IxR X (rIx K) := by subst hK; exact ix_seq
theorem ix_LK (hK : X.K = K) : IxR X (rIxL K) := by subst hK; exact ix_list
theorem ix_TK (hK : X.K = K) : IxR X (rIxT K) := by subst hK; exact ix_tup
theorem sl_LK (hK : X.K = K) : SlR X (rSlL K) := by subst hK; exact sl_list
theorem sl_TK (hK : X.K = K) : SlR X (rSlA K) := by subst hK; exact sl_tupA
theorem call_isiK' (hK : X.K = K) : CallR X (.builtin "isinstance") (rIsi K) := by subst hK; exact call_isi
def rLenK (K : PySem.W.Frag) : List V → Hp → VK → Prop := fun xs H Q => ∃ p ys, xs = [.ref p] ∧ (SqL K H p ys ∨ SqT K H p ys) ∧ Q (.int ys.length) H
theorem call_lenK (hK : X.K = K) : CallR X (.builtin "len") (rLenK K) := by subst hK; exact call_len_seq
def rListK (K : PySem.W.Frag) : List V → Hp → VK → Prop := fun xs H Q => ∃ p ys, xs = [.ref p] ∧ (SqL K H p ys ∨ SqT K H p ys) ∧ ∀ l, H l = none → Q (.ref l) (upd H l (.lst ys))
theorem call_listK (hK : X.K = K) : CallR X (.type "list") (rListK K) := by subst hK; exact call_list_of
def rTupK (K : PySem.W.Frag) : List V → Hp → VK → Prop := fun xs H Q => ∃ p ys, xs = [.ref p] ∧ ((SqL K H p ys ∧ ∀ l, H l = none → Q (.ref l) (upd H l (.tup ys))) ∨ (SqT K H p ys ∧ Q (.ref p) H))
theorem call_tupK (hK : X.K = K) : CallR X (.type "tuple") (rTupK K) := by subst hK; exact call_tuple_of
theorem cr_sumK (hK : X.K = K) (hc : X.calm = true) : CallR X (.builtin "sum") (rSum K) := by subst hK; exact cr_sum hc
theorem cr_maxK (hK : X.K = K) (hc : X.calm = true) : CallR X (.builtin "max") (rMax K) := by subst hK; exact cr_max hc
theorem cr_minK' (hK : X.K = K) (hc : X.calm = true) : CallR X (.builtin "min") (rMin K) := by subst hK; exact cr_min hc
theorem call_maxDK (hK : X.K = K) (hc : X.calm = true) : CallRK X (.builtin "max") ["default"] (rMaxD K) := by subst hK; exact call_maxD hc
theorem pi_listK (hK : X.K = K) (hl : PE X l tl) : PI X tg l (iList K tl) := by subst hK; exact pi_list hl
theorem pi_tupK (hK : X.K = K) (hl : PE X l tl) : PI X tg l (iTup K tl) := by subst hK; exact pi_tup hl
theorem pi_zipK {e2 : Expr} (hK : X.K = K) (hg : Gl X "zip") (hm : X.mg "zip" = none) (ha : PA X [e, e2] ta) (hs : starEach [e, e2] X.env = (false, eval e X.env) :: starEach [e2] X.env := by rfl)
    (hs2 : ((backTo pos (starEach [e2] X.env)).any fun x => x.1) = false := by rfl) : PI X (.Tuple elts kk tpos) (.Call (.Name "zip" p) [e, e2] [] pos) (RZ.iZipA K ta) := by subst hK; exact RZ.pi_zipA hg hm ha hs hs2
theorem pi_enumK (hK : X.K = K) (hg : Gl X "enumerate") (hm : X.mg "enumerate" = none) (ha : PA X [e] ta) (hs : starEach [e] X.env = [(false, eval e X.env)] := by rfl) :
    PI X (.Tuple elts kk tpos) (.Call (.Name "enumerate" p) [e] [] pos) (iEnumT K ta) := by subst hK; exact pi_enumT hg hm ha hs
theorem pi_enumLK (hK : X.K = K) (hg : Gl X "enumerate") (hm : X.mg "enumerate" = none) (ha : PA X [e] ta) (hs : starEach [e] X.env = [(false, eval e X.env)] := by rfl) :
    PI X (.Tuple elts kk tpos) (.Call (.Name "enumerate" p) [e] [] pos) (iEnum K ta) := by subst hK; exact pi_enum hg hm ha hs
theorem pi_revK (hK : X.K = K) (hg : Gl X "reversed") (hm : X.mg "reversed" = none) (he : PE X e te) (hs : starEach [e] X.env = (false, eval e X.env) :: starEach [] X.env := by rfl) : PI X tg (.Call (.Name "reversed" p) [e] [] pos) (RT.iRevA K te) := by
  subst hK; exact RT.pi_revA hg hm he hs
theorem pg_tupK {k : Nat} {g : TGs} {n : Nat} (hK : X.K = K) (hc : X.calm = true) (h : PGs X es g) (hn : (assignEach es X.env).length = n := by rfl) (hst : (assignEach es X.env).findIdx? (·.1) = none := by rfl) : PG X (.Tuple es k pos) (gTup K n g) := by
  subst hK; exact pg_tup hc h hn hst
theorem pg_unlK {k : Nat} {g : TGs} {n : Nat} (hK : X.K = K) (hc : X.calm = true) (h : PGs X es g) (hn : (assignEach es X.env).length = n := by rfl) (hst : (assignEach es X.env).findIdx? (·.1) = none := by rfl) : PG X (.Tuple es k pos) (gUnl K n g) := by
  subst hK; exact pg_unl hc h hn hst
theorem pe_revLK {k : Nat} {p1 p2 p3 : Pos} (hK : X.K = K) (he : PE X e te) : PE X (.Subscript e (.Slice none none (some (.UnaryOp .USub (.Constant (.int 1) k p1) p2)) p3) pos) (tRevL K te) := by
  subst hK; exact pe_revL he
theorem pt_truthK {a : Expr} (hK : X.K = K) (ha : PE X a te) (he : ∀ whole, isTrue a X.env whole = (do let v ← whole; standAt a.pos; holding [v] (truthy v))) : PT X a (tTru K te) := by subst hK; exact pt_truth ha he
theorem pe_bmK {T : String} {name : Str} {id : String} {r : V → List V → Hp → VK → Prop} (hK : X.K = K) (pa : PlainAttrs T) (slot : Slot T name id) (hty : typeOf (.builtin id) = pure (.type "method_descriptor")) (hm : MtR X id r) (ho : PE X o to) (ha : PA X (e :: es) t)
    (hbase : attributeBase o name X.env (eval o X.env) = eval o X.env := by rfl)
    (hfew : ((backTo cpos (starEach (e :: es) X.env)).all (fun x => !x.1) && (backToKw cpos (keywordEach [] X.env)).all (fun x => x.1.isSome)
      && decide ((e :: es).length + ([] : List Keyword).length + (if ([] : List Keyword).isEmpty then 0 else 1) < 30)) = true := by rfl)
    (hline : (apos.endLine == cpos.line) = true := by rfl) (hs : starEach (e :: es) X.env = (false, eval e X.env) :: starEach es X.env := by rfl) (hplain : (backTo cpos (starEach es X.env)).any (·.1) = false := by rfl) :
    PE X (.Call (.Attribute o name apos) (e :: es) [] cpos) (tBM K T r to t) := by
  subst hK; exact pe_bm pa slot hty hm ho ha hbase hfew hline hs hplain
/-- f(e, ..), the written part named -/
theorem pe_fK {w : World} {P : Program} {mg : Str → Option Value} {base : Heap} {k : Nat} {x : Str} {ps : List Str} {ds : List V} {sp : Sp} (D : Def P w K mg base k x ps ds sp) (h1 : X.prog = P) (h2 : X.w = w) (h3 : X.K = K) (h4 : X.mg = mg) (h5 : X.base = base) (hr : L2.Room k X.A) (hg : Gl X x) (ha : PA X (e :: es) t)
    (hdb : (x == ("__debug__" : Str)) = false := by decide) (he : starEach (e :: es) X.env = (false, eval e X.env) :: starEach es X.env := by rfl) (hpl : (backTo pos (starEach es X.env)).any (·.1) = false := by rfl) : PE X (.Call (.Name x p) (e :: es) [] pos) (tCall sp ds E0 t) := by
  subst h1 h2 h3 h4 h5; exact pe_f D hr hg ha hdb he hpl
end
def pageF (kl : Addr) (h : Int) : List (Str × V) := [("kept", .ref kl), ("holders", .int h)]
def roomF (n w : Int) (pl : Addr) (c s : Int) : List (Str × V) := [("many", .int n), ("width", .int w), ("pages", .ref pl), ("copies", .int c), ("shuts", .int s)]
def viewF (r la : Addr) (b : Int) (sa : Addr) : List (Str × V) := [("held", .ref r), ("lengths", .ref la), ("begin", .int b), ("steps", .ref sa)]
section
variable {kl r la sa pl : Addr} {h b n w c s x : Int} {y : Addr}
theorem page_kept : (pageF kl h).lookup ("kept" : Str) = some (.ref kl) := by kernel_rfl
theorem page_holders : (pageF kl h).lookup ("holders" : Str) = some (.int h) := by kernel_rfl
theorem page_put : putF "holders" (.int x) (pageF kl h) = pageF kl x := by kernel_rfl
theorem page_new : putF "holders" (.int h) (putF "kept" (.ref kl) []) = pageF kl h := by kernel_rfl
theorem room_many : (roomF n w pl c s).lookup ("many" : Str) = some (.int n) := by kernel_rfl
theorem room_width : (roomF n w pl c s).lookup ("width" : Str) = some (.int w) := by kernel_rfl
theorem room_pages : (roomF n w pl c s).lookup ("pages" : Str) = some (.ref pl) := by kernel_rfl
theorem room_copies : (roomF n w pl c s).lookup ("copies" : Str) = some (.int c) := by kernel_rfl
theorem room_shuts : (roomF n w pl c s).lookup ("shuts" : Str) = some (.int s) := by kernel_rfl
theorem room_put_many : putF "many" (.int x) (roomF n w pl c s) = roomF x w pl c s := by kernel_rfl
theorem room_put_pages : putF "pages" (.ref y) (roomF n w pl c s) = roomF n w y c s := by kernel_rfl
theorem room_put_copies : putF "copies" (.int x) (roomF n w pl c s) = roomF n w pl x s := by kernel_rfl
theorem room_put_shuts : putF "shuts" (.int x) (roomF n w pl c s) = roomF n w pl c x := by kernel_rfl
theorem room_new : putF "shuts" (.int s) (putF "copies" (.int c) (putF "pages" (.ref pl) (putF "width" (.int w) (putF "many" (.int n) [])))) = roomF n w pl c s := by kernel_rfl
theorem view_held : (viewF r la b sa).lookup ("held" : Str) = some (.ref r) := by kernel_rfl
theorem view_lengths : (viewF r la b sa).lookup ("lengths" : Str) = some (.ref la) := by kernel_rfl
theorem view_begin : (viewF r la b sa).lookup ("begin" : Str) = some (.int b) := by kernel_rfl
theorem view_steps : (viewF r la b sa).lookup ("steps" : Str) = some (.ref sa) := by kernel_rfl
theorem view_put_lengths : putF "lengths" (.ref y) (viewF r la b sa) = viewF r y b sa := by kernel_rfl
theorem view_put_begin : putF "begin" (.int x) (viewF r la b sa) = viewF r la x sa := by kernel_rfl
theorem view_put_steps : putF "steps" (.ref y) (viewF r la b sa) = viewF r la b y := by kernel_rfl
theorem view_new : putF "steps" (.ref sa) (putF "begin" (.int b) (putF "lengths" (.ref la) (putF "held" (.ref r) []))) = viewF r la b sa := by kernel_rfl
end
theorem page_no {kl : Addr} {h : Int} {m : Str} (h1 : ¬ m = "kept") (h2 : ¬ m = "holders") : (pageF kl h).lookup m = none := by
  simp [pageF, List.lookup, beq_false_of_ne h1, beq_false_of_ne h2]
theorem room_no {n w : Int} {pl : Addr} {c s : Int} {m : Str} (h1 : ¬ m = "many") (h2 : ¬ m = "width") (h3 : ¬ m = "pages") (h4 : ¬ m = "copies") (h5 : ¬ m = "shuts") : (roomF n w pl c s).lookup m = none := by
  simp [roomF, List.lookup, beq_false_of_ne h1, beq_false_of_ne h2, beq_false_of_ne h3, beq_false_of_ne h4, beq_false_of_ne h5]
theorem view_no {r la : Addr} {b : Int} {sa : Addr} {m : Str} (h1 : ¬ m = "held") (h2 : ¬ m = "lengths") (h3 : ¬ m = "begin") (h4 : ¬ m = "steps") : (viewF r la b sa).lookup m = none := by
  simp [viewF, List.lookup, beq_false_of_ne h1, beq_false_of_ne h2, beq_false_of_ne h3, beq_false_of_ne h4]
section
variable (K : PySem.W.Frag)
def PgO (H : Hp) (a kl : Addr) (h : Int) : Prop := ∃ dx, H a = some (.ins (He.ga K "Page") dx (pageF kl h))
def RmO (H : Hp) (a : Addr) (n w : Int) (pl : Addr) (c s : Int) : Prop := ∃ dx, H a = some (.ins (He.ga K "Room") dx (roomF n w pl c s))
def VwO (H : Hp) (a r la : Addr) (b : Int) (sa : Addr) : Prop := ∃ dx, H a = some (.ins (He.ga K "View") dx (viewF r la b sa))
end
/-- a field that rel tells of -/
theorem pe_fl {X : Cx} {K : PySem.W.Frag} {e : Expr} {f : Str} {ta : TE} {pos : Pos} {C : Addr} {rel : V → Hp → V → Prop} (hK : X.K = K) (he : PE X e ta) (hrel : ∀ x H v, rel x H v → ∃ a dx fs, x = .ref a ∧ H a = some (.ins C dx fs) ∧ fs.lookup f = some v) (c : Cls K C) (n : NoAttr K C f)
    (hb : attributeBase e f X.env (eval e X.env) = eval e X.env := by rfl) : PE X (.Attribute e f pos) (fun σ H Q => ta σ H fun x H1 => ∃ v, rel x H1 v ∧ Q v H1) := by
  subst hK
  refine ⟨fun pins s σ H Q I h => ?_⟩
  refine attr_of hb (thn (he.run pins s σ H _ I h) fun u s1 ⟨x, H1, I1, rx, v, hr, q⟩ => ?_)
  obtain ⟨a, dx, fs, rfl, ea, l⟩ := hrel _ _ _ hr
  obtain rfl : u = Value.ref a := rx
  exact getattr_ok I1 ea c n l fun u' s2 I2 ru => ⟨v, H1, I2, ru, q⟩
section
variable {X : Cx} {K : PySem.W.Frag} {mg : Str → Option Value} {e : Expr} {ta : TE} {pos : Pos}
def relF (P : Addr → Hp → V → Prop) : V → Hp → V → Prop := fun x H v => ∃ a, x = .ref a ∧ P a H v
abbrev tFl (rel : V → Hp → V → Prop) (ta : TE) : TE := fun σ H Q => ta σ H fun x H1 => ∃ v, rel x H1 v ∧ Q v H1
def r_kept (K : PySem.W.Frag) := relF fun a H v => ∃ kl h, PgO K H a kl h ∧ v = .ref kl
def r_holders (K : PySem.W.Frag) := relF fun a H v => ∃ kl h, PgO K H a kl h ∧ v = .int h
def r_many (K : PySem.W.Frag) := relF fun a H v => ∃ n w pl c s, RmO K H a n w pl c s ∧ v = .int n
def r_width (K : PySem.W.Frag) := relF fun a H v => ∃ n w pl c s, RmO K H a n w pl c s ∧ v = .int w
def r_pages (K : PySem.W.Frag) := relF fun a H v => ∃ n w pl c s, RmO K H a n w pl c s ∧ v = .ref pl
def r_copies (K : PySem.W.Frag) := relF fun a H v => ∃ n w pl c s, RmO K H a n w pl c s ∧ v = .int c
def r_shuts (K : PySem.W.Frag) := relF fun a H v => ∃ n w pl c s, RmO K H a n w pl c s ∧ v = .int s
def r_held (K : PySem.W.Frag) := relF fun a H v => ∃ r la b sa, VwO K H a r la b sa ∧ v = .ref r
def r_lengths (K : PySem.W.Frag) := relF fun a H v => ∃ r la b sa, VwO K H a r la b sa ∧ v = .ref la
def r_begin (K : PySem.W.Frag) := relF fun a H v => ∃ r la b sa, VwO K H a r la b sa ∧ v = .int b
def r_steps (K : PySem.W.Frag) := relF fun a H v => ∃ r la b sa, VwO K H a r la b sa ∧ v = .ref sa
theorem fl_kept (T : Tx K mg) (hK : X.K = K) (he : PE X e ta) (hb : attributeBase e "kept" X.env (eval e X.env) = eval e X.env := by rfl) : PE X (.Attribute e "kept" pos) (tFl (r_kept K) ta) := pe_fl hK he (fun x H v ⟨a, e, kl, h, ⟨dx, q⟩, z⟩ => ⟨a, dx, _, e, q, by rw [z]; exact page_kept⟩) (cl_Page T) (no_Page_kept T) hb
theorem fl_holders (T : Tx K mg) (hK : X.K = K) (he : PE X e ta) (hb : attributeBase e "holders" X.env (eval e X.env) = eval e X.env := by rfl) : PE X (.Attribute e "holders" pos) (tFl (r_holders K) ta) := pe_fl hK he (fun x H v ⟨a, e, kl, h, ⟨dx, q⟩, z⟩ => ⟨a, dx, _, e, q, by rw [z]; exact page_holders⟩) (cl_Page T) (no_Page_holders T) hb
theorem fl_many (T : Tx K mg) (hK : X.K = K) (he : PE X e ta) (hb : attributeBase e "many" X.env (eval e X.env) = eval e X.env := by rfl) : PE X (.Attribute e "many" pos) (tFl (r_many K) ta) := pe_fl hK he (fun x H v ⟨a, e, n, w, pl, c, s, ⟨dx, q⟩, z⟩ => ⟨a, dx, _, e, q, by rw [z]; exact room_many⟩) (cl_Room T) (no_Room_many T) hb
theorem fl_width (T : Tx K mg) (hK : X.K = K) (he : PE X e ta) (hb : attributeBase e "width" X.env (eval e X.env) = eval e X.env := by rfl) : PE X (.Attribute e "width" pos) (tFl (r_width K) ta) := pe_fl hK he (fun x H v ⟨a, e, n, w, pl, c, s, ⟨dx, q⟩, z⟩ => ⟨a, dx, _, e, q, by rw [z]; exact room_width⟩) (cl_Room T) (no_Room_width T) hb
theorem fl_pages (T : Tx K mg) (hK : X.K = K) (he : PE X e ta) (hb : attributeBase e "pages" X.env (eval e X.env) = eval e X.env := by rfl) : PE X (.Attribute e "pages" pos) (tFl (r_pages K) ta) := pe_fl hK he (fun x H v ⟨a, e, n, w, pl, c, s, ⟨dx, q⟩, z⟩ => ⟨a, dx, _, e, q, by rw [z]; exact room_pages⟩) (cl_Room T) (no_Room_pages T) hb
theorem fl_copies (T : Tx K mg) (hK : X.K = K) (he : PE X e ta) (hb : attributeBase e "copies" X.env (eval e X.env) = eval e X.env := by rfl) : PE X (.Attribute e "copies" pos) (tFl (r_copies K) ta) := pe_fl hK he (fun x H v ⟨a, e, n, w, pl, c, s, ⟨dx, q⟩, z⟩ => ⟨a, dx, _, e, q, by rw [z]; exact room_copies⟩) (cl_Room T) (no_Room_copies T) hb
theorem fl_shuts (T : Tx K mg) (hK : X.K = K) (he : PE X e ta) (hb : attributeBase e "shuts" X.env (eval e X.env) = eval e X.env := by rfl) : PE X (.Attribute e "shuts" pos) (tFl (r_shuts K) ta) := pe_fl hK he (fun x H v ⟨a, e, n, w, pl, c, s, ⟨dx, q⟩, z⟩ => ⟨a, dx, _, e, q, by rw [z]; exact room_shuts⟩) (cl_Room T) (no_Room_shuts T) hb
theorem fl_held (T : Tx K mg) (hK : X.K = K) (he : PE X e ta) (hb : attributeBase e "held" X.env (eval e X.env) = eval e X.env := by rfl) : PE X (.Attribute e "held" pos) (tFl (r_held K) ta) := pe_fl hK he (fun x H v ⟨a, e, r, la, b, sa, ⟨dx, q⟩, z⟩ => ⟨a, dx, _, e, q, by rw [z]; exact view_held⟩) (cl_View T) (no_View_held T) hb
theorem fl_lengths (T : Tx K mg) (hK : X.K = K) (he : PE X e ta) (hb : attributeBase e "lengths" X.env (eval e X.env) = eval e X.env := by rfl) : PE X (.Attribute e "lengths" pos) (tFl (r_lengths K) ta) := pe_fl hK he (fun x H v ⟨a, e, r, la, b, sa, ⟨dx, q⟩, z⟩ => ⟨a, dx, _, e, q, by rw [z]; exact view_lengths⟩) (cl_View T) (no_View_lengths T) hb
theorem fl_begin (T : Tx K mg) (hK : X.K = K) (he : PE X e ta) (hb : attributeBase e "begin" X.env (eval e X.env) = eval e X.env := by rfl) : PE X (.Attribute e "begin" pos) (tFl (r_begin K) ta) := pe_fl hK he (fun x H v ⟨a, e, r, la, b, sa, ⟨dx, q⟩, z⟩ => ⟨a, dx, _, e, q, by rw [z]; exact view_begin⟩) (cl_View T) (no_View_begin T) hb
theorem fl_steps (T : Tx K mg) (hK : X.K = K) (he : PE X e ta) (hb : attributeBase e "steps" X.env (eval e X.env) = eval e X.env := by rfl) : PE X (.Attribute e "steps" pos) (tFl (r_steps K) ta) := pe_fl hK he (fun x H v ⟨a, e, r, la, b, sa, ⟨dx, q⟩, z⟩ => ⟨a, dx, _, e, q, by rw [z]; exact view_steps⟩) (cl_View T) (no_View_steps T) hb
end
section
variable {K : PySem.W.Frag} {H : Hp} {a b : Addr} {xs ys : List V} {Q : VK}
theorem q_cat (ha : H a = some (.tup xs)) (hb : H b = some (.tup ys)) (hz : xs.length + ys.length ≤ 100000) (h : ∀ p H', Same H H' → H' p = some (.tup (xs ++ ys)) → Q (.ref p) H') : rCatA K (.ref a) (.ref b) H Q := by
  refine ⟨a, b, xs, ys, rfl, rfl, SqT.of ha, SqT.of hb, sz_ok hz, fun e => h b H (Same.refl H) ?_, fun _ e => h a H (Same.refl H) ?_, fun _ _ p hp => h p _ (Same.new hp) upd_same⟩
  · rw [e]; exact hb
  · rw [e, List.append_nil]; exact ha
theorem cut_all {lo hi : Option Int} (z : HT.sIx xs.length 0 lo = 0 ∧ HT.sIx xs.length xs.length hi = xs.length) : cutV xs lo hi = xs := by
  unfold cutV
  rw [z.1, z.2, List.drop_zero, Nat.sub_zero, List.take_length]
theorem q_slT {lo hi : Option Int} (ha : H a = some (.tup xs)) (h : ∀ p H', Same H H' → H' p = some (.tup (cutV xs lo hi)) → Q (.ref p) H') : rSlA K (.ref a) lo hi H Q :=
  ⟨a, xs, rfl, SqT.of ha, fun z => h a H (Same.refl H) (by rw [cut_all z]; exact ha), fun _ p hp => h p _ (Same.new hp) upd_same⟩
theorem cut_to (k : Nat) : cutV xs none (some (k : Int)) = xs.take k := by
  unfold cutV
  rw [HT.sIx_nat]
  show (xs.drop 0).take (min k xs.length - 0) = _
  rw [List.drop_zero, Nat.sub_zero]
  by_cases h : k ≤ xs.length
  · rw [Nat.min_eq_left h]
  · rw [Nat.min_eq_right (by omega), List.take_length, List.take_of_length_le (by omega)]
theorem cut_from (k : Nat) : cutV xs (some (k : Int)) none = xs.drop k := by
  unfold cutV
  rw [HT.sIx_nat]
  show (xs.drop (min k xs.length)).take (xs.length - min k xs.length) = _
  by_cases h : k ≤ xs.length
  · rw [Nat.min_eq_left h, List.take_of_length_le (by rw [List.length_drop]; omega)]
  · rw [Nat.min_eq_right (by omega), List.drop_length, List.drop_eq_nil_of_le (by omega)]; simp
theorem q_ixL {i : Nat} {v : V} (ha : SqL K H a xs) (hv : xs[i]? = some v) (h : Q v H) : rIx K (.ref a) (.int (i : Int)) H Q := .inl ⟨a, xs, _, v, rfl, rfl, ha, atI_nat hv, h⟩
theorem q_ixT {i : Nat} {v : V} (ha : H a = some (.tup xs)) (hv : xs[i]? = some v) (h : Q v H) : rIx K (.ref a) (.int (i : Int)) H Q := .inr (.inl ⟨a, xs, _, v, rfl, rfl, SqT.of ha, atI_nat hv, h⟩)
theorem q_len {n : Nat} (ha : SqL K H a xs ∨ SqT K H a xs) (e : xs.length = n) (h : Q (.int (n : Int)) H) : rLenK K [.ref a] H Q := ⟨a, xs, rfl, ha, by rw [e]; exact h⟩
end
theorem walk_refs {K : PySem.W.Frag} {l : Addr} {as : List Addr} {n : Nat} (h : as.length = n) : Walk (Itl K l) n (fun H => SqL K H l (as.map V.ref)) (fun i H x H' => H' = H ∧ ∃ a, as[i]? = some a ∧ x = .ref a) := by
  have w := walk_list (K := K) (a := l) (xs := as.map V.ref)
  rw [List.length_map, h] at w
  refine w.mono (fun _ q => q) fun i H x H' _ _ y => ⟨y.1, ?_⟩
  have e := y.2
  rw [List.getElem?_map] at e
  cases q : as[i]? with
  | none => rw [q] at e; cases e
  | some a => rw [q] at e; exact ⟨a, rfl, (Option.some.inj e).symm⟩
theorem walk_tn {K : PySem.W.Frag} {l : Addr} {ns : List Nat} : Walk (Itt K l) ns.length (fun H => SqT K H l (tn ns)) (fun i H x H' => H' = H ∧ ∃ n, ns[i]? = some n ∧ x = .int (n : Int)) := by
  have w := walk_tup (K := K) (a := l) (xs := tn ns)
  rw [tn_len] at w
  exact w.mono (fun _ q => q) fun i H x H' _ _ y => ⟨y.1, tn_at y.2⟩
theorem walk_ti {K : PySem.W.Frag} {l : Addr} {ns : List Int} : Walk (Itl K l) ns.length (fun H => SqL K H l (ti ns)) (fun i H x H' => H' = H ∧ ∃ n, ns[i]? = some n ∧ x = .int n) := by
  have w := walk_list (K := K) (a := l) (xs := ti ns)
  rw [ti_len] at w
  exact w.mono (fun _ q => q) fun i H x H' _ _ y => ⟨y.1, ti_at y.2⟩
theorem walk_rng {n m : Nat} (h : n = m) : Walk (Itr 0 ((n : Int)).toNat) m (fun _ => True) (fun i H x H' => H' = H ∧ x = .int (i : Int)) := by
  subst h
  have w := walk_range (lo := 0) (n := n)
  refine (by simpa using w : Walk (Itr 0 ((n : Int)).toNat) n (fun _ => True) (YFn fun i => .int (0 + i))).mono (fun _ q => q) fun i H x H' _ _ y => ⟨y.1, ?_⟩
  exact y.2.trans (congrArg V.int (Int.zero_add _))
end VG
-- VgCls
set_option Elab.async false
set_option linter.all false
set_option maxRecDepth 100000
set_option maxHeartbeats 4000000
namespace VG
open PySem PySem.Spec PyProof.Rows L2
/-- the class c, made by its __init__: called by position, the rest (ds) by default -/
structure Ini (P : Program) (w : World) (K : PySem.W.Frag) (mg : Str → Option Value) (base : Heap) (k : Nat) (c : Str) (ps : List Str) (ds : List V) (sp : Sp) : Prop where
  ex : ∃ (f : Addr) (fd : FuncData) (us : List Value), Mk K (He.ga K c) f ∧ FnOk P w K mg base CX0 k f fd ps sp ∧ mg c = some (.ref (He.ga K c)) ∧ L2.Binds K fd ps us ∧ Vals ds us
/-- the same, called by n positions and the keywords ks -/
structure IniK (P : Program) (w : World) (K : PySem.W.Frag) (mg : Str → Option Value) (base : Heap) (k : Nat) (c : Str) (ps : List Str) (n : Nat) (ks : List Str) (sp : Sp) : Prop where
  ex : ∃ (f : Addr) (fd : FuncData) (g : List Value → List Value → List Value), Mk K (He.ga K c) f ∧ FnOk P w K mg base CX0 k f fd ps sp ∧ mg c = some (.ref (He.ga K c)) ∧ KBn K fd ps (n + 1) ks g (fun vs zs => vs ++ zs)
/-- a def called by n positions and the keywords ks; gV puts them in the parameters' order -/
structure DefK (P : Program) (w : World) (K : PySem.W.Frag) (mg : Str → Option Value) (base : Heap) (k : Nat) (x : Str) (ps : List Str) (n : Nat) (ks : List Str) (gV : List V → List V → List V) (sp : Sp) : Prop where
  ex : ∃ (f : Addr) (fd : FuncData) (g : List Value → List Value → List Value), FnOk P w K mg base CX0 k f fd ps sp ∧ mg x = some (.ref f) ∧ PySem.W.keepIn K (.ref f) = true ∧ KBn K fd ps n ks g gV
section
variable {P : Program} {w : World} {K : PySem.W.Frag} {mg : Str → Option Value} {base : Heap} {k j : Nat} {c x : Str} {ps ks : List Str} {ds : List V} {sp : Sp} {n : Nat} {gV : List V → List V → List V}
theorem Ini.mono (D : Ini P w K mg base j c ps ds sp) (h : j ≤ k) : Ini P w K mg base k c ps ds sp := let ⟨f, fd, us, M, F, a, b, d⟩ := D.ex; ⟨⟨f, fd, us, M, F.mono h, a, b, d⟩⟩
theorem IniK.mono (D : IniK P w K mg base j c ps n ks sp) (h : j ≤ k) : IniK P w K mg base k c ps n ks sp := let ⟨f, fd, g, M, F, a, b⟩ := D.ex; ⟨⟨f, fd, g, M, F.mono h, a, b⟩⟩
theorem DefK.mono (D : DefK P w K mg base j x ps n ks gV sp) (h : j ≤ k) : DefK P w K mg base k x ps n ks gV sp := let ⟨f, fd, g, F, a, b, d⟩ := D.ex; ⟨⟨f, fd, g, F.mono h, a, b, d⟩⟩
end
section
variable {X : Cx} {P : Program} {w : World} {K : PySem.W.Frag} {mg : Str → Option Value} {base : Heap} {k : Nat} {c m x : Str} {ps ks : List Str} {ds : List V} {sp : Sp} {n : Nat} {gV : List V → List V → List V}
  {o e : Expr} {es : List Expr} {kws : List Keyword} {to : TE} {t tk : TA} {p pos apos : Pos}
theorem pe_mK {pl : Sem Bool} (D : Met P w K mg base k c m ps sp) (hc : Cls K (He.ga K c)) (h1 : X.prog = P) (h2 : X.w = w) (h3 : X.K = K) (h4 : X.mg = mg) (h5 : X.base = base) (hr : L2.Room k X.A) (ho : PE X o to) (ha : PA X (e :: es) t)
    (hst : starEach (e :: es) X.env = (false, eval e X.env) :: starEach es X.env := by rfl) (hpl : (backTo pos (starEach es X.env)).any (·.1) = false := by rfl)
    (ht : eval (.Call (.Attribute o m apos) (e :: es) [] pos) X.env = (do
      let ov ← eval o X.env
      standAt apos.atName
      let (f, first) ← holding [ov] (getMethod ov m pl)
      callWith pos f first (backTo pos (starEach (e :: es) X.env)) (backToKw pos (keywordEach [] X.env))) := by rfl) :
    PE X (.Call (.Attribute o m apos) (e :: es) [] pos) (tMeth (He.ga K c) m sp [] E0 to t) := by subst h1 h2 h3 h4 h5; exact pe_m D hc hr ho ha hst hpl ht
theorem pe_m0K {pl : Sem Bool} (D : Met P w K mg base k c m ps sp) (hc : Cls K (He.ga K c)) (h1 : X.prog = P) (h2 : X.w = w) (h3 : X.K = K) (h4 : X.mg = mg) (h5 : X.base = base) (hr : L2.Room k X.A) (ho : PE X o to)
    (ht : eval (.Call (.Attribute o m apos) [] [] pos) X.env = (do
      let ov ← eval o X.env
      standAt apos.atName
      let (f, first) ← holding [ov] (getMethod ov m pl)
      callWith pos f first (backTo pos (starEach [] X.env)) (backToKw pos (keywordEach [] X.env))) := by rfl) :
    PE X (.Call (.Attribute o m apos) [] [] pos) (tMeth (He.ga K c) m sp [] E0 to tNil) := by subst h1 h2 h3 h4 h5; exact pe_m0 D hc hr ho ht
theorem pe_mkK (D : Ini P w K mg base k c ps ds sp) (h1 : X.prog = P) (h2 : X.w = w) (h3 : X.K = K) (h4 : X.mg = mg) (h5 : X.base = base) (hr : L2.Room (k + 1) X.A) (hg : Gl X c) (ha : PA X (e :: es) t)
    (hdb : (c == ("__debug__" : Str)) = false := by decide) (he : starEach (e :: es) X.env = (false, eval e X.env) :: starEach es X.env := by rfl) (hpl : (backTo pos (starEach es X.env)).any (·.1) = false := by rfl) :
    PE X (.Call (.Name c p) (e :: es) [] pos) (tMake (He.ga K c) sp ds E0 t) := by
  subst h1 h2 h3 h4 h5
  obtain ⟨f, fd, us, M, F, hm, hb, hd⟩ := D.ex
  exact pe_make M F hr hg hm hb hd pass0 ha hdb he hpl
theorem pe_mkKW (D : IniK P w K mg base k c ps n ks sp) (h1 : X.prog = P) (h2 : X.w = w) (h3 : X.K = K) (h4 : X.mg = mg) (h5 : X.base = base) (hr : L2.Room (k + 1) X.A) (hg : Gl X c) (ha : PA X (e :: es) t) (hkw : PK X kws tk)
    (hall : (backToKw pos (keywordEach kws X.env)).all (·.1.isSome) = true := by rfl) (hks : (backToKw pos (keywordEach kws X.env)).filterMap (·.1) = ks := by rfl)
    (hdb : (c == ("__debug__" : Str)) = false := by decide) (he : starEach (e :: es) X.env = (false, eval e X.env) :: starEach es X.env := by rfl)
    (hpl : ((backTo pos (starEach (e :: es) X.env)).any (·.1) || (backToKw pos (keywordEach kws X.env)).any (·.1.isNone)) = false := by rfl) :
    PE X (.Call (.Name c p) (e :: es) kws pos) (tMakeN (He.ga K c) n ks.length sp (fun vs zs => vs ++ zs) E0 t tk) := by
  subst h1 h2 h3 h4 h5
  obtain ⟨f, fd, g, M, F, hm, hb⟩ := D.ex
  exact pe_makeN M F hr hg hm hb pass0 ha hkw hall hks hdb he hpl
theorem pe_fKW (D : DefK P w K mg base k x ps n ks gV sp) (h1 : X.prog = P) (h2 : X.w = w) (h3 : X.K = K) (h4 : X.mg = mg) (h5 : X.base = base) (hr : L2.Room k X.A) (hg : Gl X x) (ha : PA X (e :: es) t) (hkw : PK X kws tk)
    (hall : (backToKw pos (keywordEach kws X.env)).all (·.1.isSome) = true := by rfl) (hks : (backToKw pos (keywordEach kws X.env)).filterMap (·.1) = ks := by rfl)
    (hdb : (x == ("__debug__" : Str)) = false := by decide) (he : starEach (e :: es) X.env = (false, eval e X.env) :: starEach es X.env := by rfl)
    (hpl : ((backTo pos (starEach (e :: es) X.env)).any (·.1) || (backToKw pos (keywordEach kws X.env)).any (·.1.isNone)) = false := by rfl) :
    PE X (.Call (.Name x p) (e :: es) kws pos) (tCallN n ks.length sp gV E0 t tk) := by
  subst h1 h2 h3 h4 h5
  obtain ⟨f, fd, g, F, hm, hk, hb⟩ := D.ex
  exact pe_callN F hr hg hm hk hb pass0 ha hkw hall hks hdb he hpl
end
end VG
-- VgSides
set_option Elab.async false
set_option linter.all false
set_option maxRecDepth 100000
set_option maxHeartbeats 4000000
namespace VG
open PySem PySem.Spec PyProof.Rows L2
section
variable {P : Program} {w : World} {K : PySem.W.Frag} {mg : Str → Option Value} {base : Heap}
def spWhole : Sp := fun vs H Q _ => ∃ i : Int, vs = [.int i] ∧ Q (.bl true) H
theorem ok_is_whole (T : Tx K mg) : Def P w K mg base 1 "is_whole" ["thing"] [] spWhole := by
  refine Def.mk0 (f_is_whole T) (g_is_whole T) sc_is_whole (fun _ _ _ _ _ _ us hl => match us, hl with | [_], _ => rfl) (fun vs H Q E h => ?_) (fun cdv A outer s H vs Q E hr h => ?_)
  · obtain ⟨i, rfl, _⟩ := h; rfl
  · obtain ⟨i, rfl, q⟩ := h
    refine ⟨_, pss_one (ps_ret (pe_and (pe_callB call_isi (by rfl) (z_isinstance T) (by decide +kernel) (pa_cons (pv 0) (pa_cons (pe_bltn (v := .ty "int") (by rfl) (z_int T) (by decide +kernel) rfl) pa_nil)))
      (pe_one (pe_not (pe_callB call_isi (by rfl) (z_isinstance T) (by decide +kernel) (pa_cons (pv 0) (pa_cons (pe_bltn (v := .ty "bool") (by rfl) (z_bool T) (by decide +kernel) rfl) pa_nil))))))), ?_⟩
    refine ⟨_, rfl, _, _, _, _, true, rfl, .ty "int", .base (.int i), kit_ty (by decide +kernel), _, rfl, iteT ?_⟩
    exact ⟨_, rfl, _, _, _, _, false, rfl, .ty "bool", .base (.int i), kit_ty (by decide +kernel), _, rfl, q⟩
/-- sizes: each length at most 600 -/
def spSize (K : PySem.W.Frag) : Sp := fun vs H Q _ => ∃ (a : Addr) (ls : List Nat), vs = [.ref a] ∧ SqT K H a (tn ls) ∧ (∀ l ∈ ls, l ≤ 600) ∧ Q (.int (sz ls : Int)) H
theorem ok_size_of (T : Tx K mg) : Def P w K mg base 1 "size_of" ["sides"] [] (spSize K) := by
  refine Def.mk0 (f_size_of T) (g_size_of T) sc_size_of (fun _ _ _ _ _ _ us hl => match us, hl with | [_], _ => rfl) (fun vs H Q E h => ?_) (fun cdv A outer s H vs Q E hr h => ?_)
  · obtain ⟨a, ls, rfl, _⟩ := h; rfl
  · obtain ⟨a, ls, rfl, hs, hl, q⟩ := h
    refine ⟨_, pss_cons (ps_set (i := 1) sc_size_of.nd rfl (Or.inl rfl) pe_int)
      (pss_cons (ps_for PassesOwn.never rfl (pi_tup (pv 0)) (pg_name (i := 2) sc_size_of.nd rfl (Or.inl rfl))
        (pss_one (ps_aug (i := 1) sc_size_of.nd rfl (Or.inl rfl) (pv 2) iop_mul)))
      (pss_one (ps_ret (pv 1)))), ?_⟩
    refine ⟨_, rfl, a, rfl, ⟨_, hs⟩, for_tup (xs := tn ls) (fun i σ H2 => H2 = H ∧ ∃ v, σ = [some (.ref a), some (.int (sz (ls.take i) : Int)), v]) ⟨rfl, none, rfl⟩ (fun i σ H2 _ ⟨e, _⟩ => by rw [e]; exact hs) ?_ ?_⟩
    · rintro i x σ H2 hx ⟨rfl, v, rfl⟩
      obtain ⟨n, hn, rfl⟩ := tn_at hx
      have hm := hl n (List.mem_of_getElem? hn)
      refine ⟨_, rfl, _, rfl, ?_⟩
      refine ⟨_, _, rfl, rfl, .inr (by constructor <;> omega), rfl, some (.int (n : Int)), ?_⟩
      rw [sz_take_succ hn, Int.natCast_mul]
      rfl
    · rintro σ H2 ⟨rfl, v, rfl⟩
      refine ⟨_, rfl, ?_⟩
      rw [tn_len, List.take_length]
      exact q
/-- sides that are no more than they may be -/
structure Okl (ls : List Nat) : Prop where
  len : ls.length ≤ 5
  size : sz ls ≤ 600
  each : ∀ l ∈ ls, l ≤ 600
def spVet (K : PySem.W.Frag) : Sp := fun vs H Q _ => ∃ (a : Addr) (ls : List Nat), vs = [.ref a] ∧ SqT K H a (tn ls) ∧ Okl ls ∧ Q .non H
theorem ok_vet_size (T : Tx K mg) : Def P w K mg base 2 "vet_size" ["lengths"] [] (spVet K) := by
  obtain ⟨_, h_MOST_SIDES⟩ := i_MOST_SIDES T
  obtain ⟨_, h_MOST_PLACES⟩ := i_MOST_PLACES T
  refine Def.mk0 (f_vet_size T) (g_vet_size T) sc_vet_size (fun _ _ _ _ _ _ us hl => match us, hl with | [_], _ => rfl) (fun vs H Q E h => ?_) (fun cdv A outer s H vs Q E hr h => ?_)
  · obtain ⟨a, ls, rfl, _⟩ := h; rfl
  · obtain ⟨a, ls, rfl, hs, hl, q⟩ := h
    refine ⟨_, (pss_cons (ps_set (i := 1) sc_vet_size.nd rfl (Or.inl rfl) (pe_fK (K := K) (P := P) (w := w) (mg := mg) (base := base) ((ok_size_of T).mono (by omega)) rfl rfl rfl rfl rfl hr (by rfl) (pa_cons (pv 0) pa_nil)))
    (pss_one (ps_if (PW.pt (pw_or (pt_cmpR op_gt (pe_callB (call_lenK (K := K) rfl) (by rfl) (z_len T) (by decide +kernel) (pa_cons (pv 0) pa_nil)) (pe_glob (v := .int 5) (by rfl) h_MOST_SIDES ⟨_, rfl⟩) (nomark _)) (pw_or (pt_cmpR op_gt (pv 1) (pe_glob (v := .int 600) (by rfl) h_MOST_PLACES ⟨_, rfl⟩) (nomark _)) (pw_or1 (pt_cmpR op_gt (pe_callBK (call_maxDK (K := K) rfl rfl) (by rfl) (z_max T) (by decide +kernel) (pa_cons (pv 0) pa_nil) (pk_cons pe_int pk_nil)) (pe_glob (v := .int 600) (by rfl) h_MOST_PLACES ⟨_, rfl⟩) (nomark _)))))) (pss_one ps_never) pss_nil))), ?_⟩
    refine ⟨_, rfl, a, ls, rfl, hs, hl.each, ?_⟩
    refine ⟨_, rfl, a, _, rfl, .inr hs, _, _, rfl, rfl, _, rfl, ?_⟩
    rw [tn_len]
    have e1 : ¬ (5 : Int) < (ls.length : Int) := by have := hl.len; omega
    refine ite2 (fun z => absurd (of_decide_eq_true z) e1) fun _ => ?_
    refine ⟨_, rfl, _, _, rfl, rfl, _, rfl, ?_⟩
    have e2 : ¬ (600 : Int) < (sz ls : Int) := by have := hl.size; omega
    refine ite2 (fun z => absurd (of_decide_eq_true z) e2) fun _ => ?_
    refine ⟨_, rfl, a, ls.map fun n : Nat => (n : Int), 0, rfl, rfl, by rw [← tn_ti]; exact hs, fun m hm => ⟨_, _, rfl, rfl, _, rfl, ?_⟩⟩
    have e3 : ¬ (600 : Int) < m := by
      rcases hm with rfl | hm
      · decide
      · obtain ⟨n, hn, rfl⟩ := List.mem_map.mp hm
        have := hl.each n hn
        omega
    exact ite2 (fun z => absurd (of_decide_eq_true z) e3) fun _ => q
theorem notB {c A B : Prop} [Decidable c] (hc : c) (h : B) : if (!decide c) = true then A else B := iteNS hc h
def spVetSides (K : PySem.W.Frag) : Sp := fun vs H Q _ => ∃ (a : Addr) (ls : List Nat), vs = [.ref a] ∧ H a = some (.tup (tn ls)) ∧ Okl ls ∧ ∀ H', Same H H' → Q .non H'
theorem ok_vet_sides (T : Tx K mg) : Def P w K mg base 3 "vet_sides" ["thing"] [] (spVetSides K) := by
  obtain ⟨_, h_MOST_PLACES⟩ := i_MOST_PLACES T
  refine Def.mk0 (f_vet_sides T) (g_vet_sides T) sc_vet_sides (fun _ _ _ _ _ _ us hl => match us, hl with | [_], _ => rfl) (fun vs H Q E h => ?_) (fun cdv A outer s H vs Q E hr h => ?_)
  · obtain ⟨a, ls, rfl, _⟩ := h; rfl
  · obtain ⟨a, ls, rfl, hs, hl, q⟩ := h
    refine ⟨_, (pss_cons (ps_if (pt_not (pt_val (pe_callB (call_isiK' (K := K) rfl) (by rfl) (z_isinstance T) (by decide +kernel) (pa_cons (pv 0) (pa_cons (pe_bltn (v := .ty "tuple") (by rfl) (z_tuple T) (by decide +kernel) rfl) pa_nil))))) (pss_one ps_never) pss_nil)
    (pss_cons (ps_for PassesOwn.never rfl (pi_enumK (K := K) rfl (by rfl) (z_enumerate T) (pa_cons (pv 0) pa_nil)) (pg_tupK (K := K) (n := 2) rfl rfl (pgs_cons (pg_name (i := 1) sc_vet_sides.nd rfl (Or.inl rfl)) (pgs_cons (pg_name (i := 2) sc_vet_sides.nd rfl (Or.inl rfl)) pgs_nil)))
    (pss_one (ps_if (PW.pt (pw_or (pt_not (pt_val (pe_fK (K := K) (P := P) (w := w) (mg := mg) (base := base) ((ok_is_whole T).mono (by omega)) rfl rfl rfl rfl rfl hr (by rfl) (pa_cons (pv 2) pa_nil)))) (pw_or1 (pt_not (pt_chain op_le op_le pe_int (pv 2) (pe_glob (v := .int 600) (by rfl) h_MOST_PLACES ⟨_, rfl⟩)))))) (pss_one ps_never) pss_nil)))
    (pss_one (ps_expr (pe_fK (K := K) (P := P) (w := w) (mg := mg) (base := base) ((ok_vet_size T).mono (by omega)) rfl rfl rfl rfl rfl hr (by rfl) (pa_cons (pv 0) pa_nil)))))), ?_⟩
    refine ⟨_, rfl, _, _, _, _, true, rfl, .ty "tuple", .base (.tup hs), kit_ty (by decide +kernel), _, rfl, iteF ?_⟩
    refine ⟨_, rfl, a, _, rfl, SqT.of hs, for_it (walk_enumT (xs := tn ls)) (fun i σ H2 => Same H H2 ∧ ∃ v u, σ = [some (.ref a), v, u]) ⟨Same.refl H, none, none, rfl⟩ (fun i σ H2 _ h => SqT.of (h.1 _ _ hs)) ?_ ?_⟩
    · rintro i x σ H2 H3 hi ⟨s2, v, u, rfl⟩ ⟨T1, x1, y1, rfl, hT, rfl, e1, e2⟩
      cases e1
      obtain ⟨n, hn, rfl⟩ := tn_at e2
      have hm := hl.each n (List.mem_of_getElem? hn)
      refine ⟨T1, _, rfl, SqT.of upd_same, rfl, _, _, rfl, _, _, rfl, rfl, ?_⟩
      refine ⟨_, rfl, _, rfl, _, rfl, iteF ?_⟩
      refine ⟨_, rfl, _, _, rfl, rfl, true, ?_, ?_⟩
      · exact congrArg V.bl (decide_eq_true (by omega))
      · refine iteT ⟨_, _, rfl, rfl, _, rfl, ?_⟩
        refine notB (show (n : Int) ≤ 600 by omega) ⟨s2.trans (Same.new hT), _, _, rfl⟩
    · rintro σ H2 ⟨s2, v, u, rfl⟩
      exact ⟨_, rfl, a, ls, rfl, SqT.of (s2 _ _ hs), hl, q H2 s2⟩
def spPlaces (K : PySem.W.Frag) : Sp := fun vs H Q _ => ∃ (a : Addr) (ls : List Nat), vs = [.ref a] ∧ SqT K H a (tn ls) ∧ ls.length ≤ 5 ∧ (∀ l ∈ ls, l ≤ 600) ∧ sz ls ≤ 90000 ∧ ∀ p H', Same H H' → H p = none → LstP H' p (places ls) → Q (.ref p) H'
theorem ok_places_of (T : Tx K mg) : Def P w K mg base 2 "places_of" ["sides"] [] (spPlaces K) := by
  refine Def.mk0 (f_places_of T) (g_places_of T) sc_places_of (fun _ _ _ _ _ _ us hl => match us, hl with | [_], _ => rfl) (fun vs H Q E h => ?_) (fun cdv A outer s H vs Q E hr h => ?_)
  · obtain ⟨a, ls, rfl, _⟩ := h; rfl
  · obtain ⟨a, ls, rfl, hs, h5, hl, hz, q⟩ := h
    refine ⟨_, (pss_cons (ps_if (pt_cmpR op_eq (pe_fK (K := K) (P := P) (w := w) (mg := mg) (base := base) ((ok_size_of T).mono (by omega)) rfl rfl rfl rfl rfl hr (by rfl) (pa_cons (pv 0) pa_nil)) pe_int (nomark _)) (pss_one (ps_ret (pe_lst pa_nil))) pss_nil)
    (pss_cons (ps_set (i := 1) sc_places_of.nd rfl (Or.inl rfl) (pe_lst (pa_cons (pe_tup pa_nil) pa_nil)))
    (pss_cons (ps_for PassesOwn.never rfl (pi_tupK (K := K) rfl (pv 0)) (pg_name (i := 2) sc_places_of.nd rfl (Or.inr rfl))
    (pss_one (ps_setLc2 (i := 1) (own := [("place", 3), ("k", 4)]) (vs1 := [4]) (tt := tYes) (tt1 := tYes) rfl sc_places_of.nd rfl rfl (sw_true rfl rfl rfl (by decide +kernel)) (pi_listK (K := K) rfl (pv 1)) (blkOk_by (own := [("place", 3), ("k", 4)]) (sc := defScope s_places_of) (N := n_places_of) (by decide +kernel)) (by decide) (fun _ _ _ _ _ => (pg_name (i := 3) sc_places_of.nd rfl (by first | exact Or.inl rfl | exact Or.inr rfl))) (fun _ _ _ _ _ => pts_nil) (fun _ _ _ _ _ => (pi_range1 (by rfl) (z_range T) (pa_cons (pv 2) pa_nil))) (fun _ _ _ _ _ => (pg_name (i := 4) sc_places_of.nd rfl (by first | exact Or.inl rfl | exact Or.inr rfl))) (fun _ _ _ _ _ => pts_nil) (fun _ _ _ _ _ => (pe_op (op_catK (K := K) rfl) (pv 3) (pe_tup (pa_cons (pv 4) pa_nil)))))))
    (pss_one (ps_ret (pv 1)))))), ?_⟩
    refine ⟨_, rfl, a, ls, rfl, hs, hl, rfl, _, rfl, ite2 (fun z => ?_) fun z => ?_⟩
    · have e : sz ls = 0 := by have q := V.int.inj (of_decide_eq_true z); omega
      refine ⟨sz_ok (Nat.zero_le _), fun p hp => q p _ (Same.new hp) hp ⟨[], upd_same, ?_⟩⟩
      rw [places_zero e]
      exact .nil
    · have e : sz ls ≠ 0 := fun z' => z (by rw [z']; rfl)
      refine ⟨sz_ok (Nat.zero_le _), fun t ht => ⟨sz_ok (by show 1 ≤ 100000; decide), fun f hf => ?_⟩⟩
      have s1 : Same H (upd (upd H t (.tup [])) f (.lst [.ref t])) := (Same.new ht).trans (Same.new hf)
      refine ⟨_, rfl, a, rfl, ⟨_, Same.sqt s1 hs⟩, for_tup (xs := tn ls) (fun i σ H2 => Same H H2 ∧ ∃ l v, H l = none ∧ σ = [some (.ref a), some (.ref l), v, none, none] ∧ LstP H2 l (places (ls.take i)))
        ⟨s1, f, none, (Same.new ht).free hf, rfl, [t], upd_same, .cons (by rw [upd_ne (ne_of_none upd_same hf), upd_same]; rfl) .nil⟩ (fun i σ H2 _ h => Same.sqt h.1 hs) ?_ ?_⟩
      · rintro i x σ H2 hx ⟨s2, l, v, hl0, rfl, as, hl2, tp⟩
        obtain ⟨n, hn, rfl⟩ := tn_at hx
        have hm := hl n (List.mem_of_getElem? hn)
        refine ⟨_, rfl, l, rfl, ⟨_, SqL.of hl2⟩, fun D hD => ?_⟩
        have hfl : ((places (ls.take i)).flatMap fun p => (List.range n).map fun k => p ++ [k]).length ≤ 90000 := by
          rw [← places_take hn, places_len]
          exact Nat.le_trans (sz_take_le e _) hz
        refine lc2_new (places (ls.take i)) (fun p => (List.range n).map fun k => p ++ [k]) (walk_refs tp.len) (i0 := 3) (i1 := 4) hfl hD (fun y p H => ∃ q, y = V.ref q ∧ H q = some (.tup (tn p)) ∧ q ≠ D)
          (fun H s => SqL.of (s _ _ hl2)) (fun y p H H' b ⟨q, e, h, n⟩ => ⟨q, e, b _ _ n h, n⟩) (fun x => rfl) ?_ ?_
        · rintro j p x H3 H4 Kw hp s3 ⟨acc, hacc⟩ ⟨rfl, b, hb, rfl⟩ kw
          obtain ⟨p', hp', hbt⟩ := tp.get hb
          rw [hp] at hp'
          cases hp'
          refine ⟨_, rfl, (n : Int), rfl, by omega, by omega, kw _ H4 _ _ (Same.refl H4) (walk_rng (by rw [List.length_map, List.length_range])) (fun _ _ => trivial) ?_⟩
          rintro k q x1 H5 H6 Kt hq b5 ⟨acc5, hacc5⟩ ⟨rfl, rfl⟩ kt
          have hk : q = p ++ [k] := by
            rw [List.getElem?_map] at hq
            cases z : (List.range n)[k]? with
            | none => rw [z] at hq; cases hq
            | some k' =>
              rw [z] at hq
              have := (List.getElem?_eq_some_iff.mp z).2
              rw [List.getElem_range] at this
              subst this
              exact (Option.some.inj hq).symm
          subst hk
          have hbD : b ≠ D := ne_of (s3 _ _ hbt) hacc (by intro z; cases z)
          have hb5 := b5 _ _ hbD (s3 _ _ hbt)
          refine ⟨rfl, _, rfl, _, rfl, sz_ok (by show 1 ≤ 100000; decide), fun t ht => ?_⟩
          have ht5 : Same H6 (upd H6 t (.tup [.int (k : Int)])) := Same.new ht
          refine q_cat (xs := tn p) (ht5 _ _ hb5) upd_same ?_ fun r H7 s7 hr => kt _ H7 (ht5.trans s7) ⟨r, rfl, ?_, ne_of hr ((ht5.trans s7) _ _ hacc5) (by intro z; cases z)⟩
          · have h1 := (mem_places.mp (List.mem_of_getElem? hp)).len
            have h2 : (ls.take i).length ≤ 5 := by rw [List.length_take]; omega
            rw [tn_len]
            show p.length + 1 ≤ 100000
            omega
          · rw [hr]
            simp [tn]
        · intro ys H3 s3 hD3 al
          obtain ⟨bs, rfl, tb⟩ := all2_tups (al.imp fun y p ⟨q, e, h, _⟩ => ⟨q, e, h⟩)
          refine ⟨s2.trans s3, D, some (.int (n : Int)), s2.free hD, rfl, bs, hD3, ?_⟩
          rw [places_take hn]
          exact tb
      · rintro σ H2 ⟨s2, l, v, hl0, rfl, h⟩
        rw [tn_len, List.take_length] at h
        exact ⟨_, rfl, q l H2 s2 hl0 h⟩
end
end VG
-- VgSides2
set_option Elab.async false
set_option linter.all false
set_option maxRecDepth 100000
set_option maxHeartbeats 4000000
namespace VG
open PySem PySem.Spec PyProof.Rows L2
theorem ys_tn {ys : List V} {p : List Nat} (hl : ys.length = p.length) (h : ∀ (i : Nat) y, ys[i]? = some y → ∃ k : Nat, p[i]? = some k ∧ y = .int (k : Int)) : ys = tn p :=
  all2_nat (All2.of_get hl fun i y k h1 h2 => by obtain ⟨k', e1, e2⟩ := h i y h1; rw [h2] at e1; cases e1; exact e2)
theorem ys_ti {ys : List V} {p : List Int} (hl : ys.length = p.length) (h : ∀ (i : Nat) y, ys[i]? = some y → ∃ k : Int, p[i]? = some k ∧ y = .int k) : ys = ti p :=
  all2_int (All2.of_get hl fun i y k h1 h2 => by obtain ⟨k', e1, e2⟩ := h i y h1; rw [h2] at e1; cases e1; exact e2)
section
variable {P : Program} {w : World} {K : PySem.W.Frag} {mg : Str → Option Value} {base : Heap}
def spWholeP : Sp := fun vs H Q _ => ∃ (a b : Addr) (ls p : List Nat), vs = [.ref a, .ref b] ∧ H a = some (.tup (tn ls)) ∧ H b = some (.tup (tn p)) ∧ Inb p ls ∧ ls.length ≤ 5 ∧
  ∀ q H', Same H H' → H q = none → H' q = some (.tup (tn p)) → Q (.ref q) H'
theorem ok_whole_place (T : Tx K mg) : Def P w K mg base 2 "whole_place" ["lengths", "place"] [] spWholeP := by
  refine Def.mk0 (f_whole_place T) (g_whole_place T) sc_whole_place (fun _ _ _ _ _ _ us hl => match us, hl with | [_, _], _ => rfl) (fun vs H Q E h => ?_) (fun cdv A outer s H vs Q E hr h => ?_)
  · obtain ⟨a, b, ls, p, rfl, _⟩ := h; rfl
  · obtain ⟨a, b, ls, p, rfl, ha, hb, hp, h5, q⟩ := h
    have hl := hp.len
    refine ⟨_, (pss_cons (ps_if (PW.pt (pw_or (pt_not (pt_val (pe_callB (call_isiK' (K := K) rfl) (by rfl) (z_isinstance T) (by decide +kernel) (pa_cons (pv 1) (pa_cons (pe_bltn (v := .ty "tuple") (by rfl) (z_tuple T) (by decide +kernel) rfl) pa_nil))))) (pw_or1 (pt_cmpR op_ne (pe_callB (call_lenK (K := K) rfl) (by rfl) (z_len T) (by decide +kernel) (pa_cons (pv 1) pa_nil)) (pe_callB (call_lenK (K := K) rfl) (by rfl) (z_len T) (by decide +kernel) (pa_cons (pv 0) pa_nil)) (nomark _))))) (pss_one ps_never) pss_nil)
    (pss_cons (ps_for PassesOwn.never rfl (pi_zipK (K := K) rfl (by rfl) (z_zip T) (pa_cons (pv 1) (pa_cons (pv 0) pa_nil))) (pg_tupK (K := K) (n := 2) rfl rfl (pgs_cons (pg_name (i := 2) sc_whole_place.nd rfl (Or.inl rfl)) (pgs_cons (pg_name (i := 3) sc_whole_place.nd rfl (Or.inl rfl)) pgs_nil)))
    (pss_one (ps_if (PW.pt (pw_or (pt_not (pt_val (pe_fK (K := K) (P := P) (w := w) (mg := mg) (base := base) ((ok_is_whole T).mono (by omega)) rfl rfl rfl rfl rfl hr (by rfl) (pa_cons (pv 2) pa_nil)))) (pw_or1 (pt_not (pt_chain op_le op_lt (pe_un un_neg (pv 3)) (pv 2) (pv 3)))))) (pss_one ps_never) pss_nil)))
    (pss_one (ps_ret (pe_callTy (call_tupK (K := K) rfl) (by rfl) (z_tuple T) (by decide +kernel) (pa_cons (pe_lc (own := [("k", 2), ("length", 3)]) (tt := tYes) rfl sc_whole_place.nd (pi_zipK (K := K) rfl (by rfl) (z_zip T) (pa_cons (pv 1) (pa_cons (pv 0) pa_nil))) (blkOk_by (own := [("k", 2), ("length", 3)]) (sc := defScope s_whole_place) (N := n_whole_place) (by decide +kernel)) (fun _ _ _ _ _ => (pg_tupK (K := K) (n := 2) rfl rfl (pgs_cons (pg_name (i := 2) sc_whole_place.nd rfl (by first | exact Or.inl rfl | exact Or.inr rfl)) (pgs_cons (pg_name (i := 3) sc_whole_place.nd rfl (by first | exact Or.inl rfl | exact Or.inr rfl)) pgs_nil)))) (fun _ _ _ _ _ => pts_nil) (fun _ _ _ _ _ => (pe_op op_mod (pv 2) (pv 3)))) pa_nil)))))), ?_⟩
    refine ⟨_, rfl, _, _, _, _, true, rfl, .ty "tuple", .base (.tup hb), kit_ty (by decide +kernel), _, rfl, iteF ?_⟩
    refine ⟨_, rfl, b, _, rfl, .inr (SqT.of hb), _, rfl, a, _, rfl, .inr (SqT.of ha), rfl, _, rfl, ?_⟩
    rw [tn_len, tn_len, hl]
    refine iteNS rfl ?_
    refine ⟨_, rfl, _, rfl, b, a, tn p, tn ls, rfl, .inr ⟨SqT.of hb, SqT.of ha, for_it (walk_zipT (n := ls.length) (by rw [tn_len, hl]) (tn_len _)) (fun i σ H2 => Same H H2 ∧ ∃ v u, σ = [some (.ref a), some (.ref b), v, u]) ⟨Same.refl H, none, none, rfl⟩ (fun i σ H2 _ h => ⟨SqT.of (h.1 _ _ hb), SqT.of (h.1 _ _ ha)⟩) ?_ ?_⟩⟩
    · rintro i x σ H2 H3 hi ⟨s2, v, u, rfl⟩ ⟨T1, x1, y1, rfl, hT, rfl, e1, e2⟩
      obtain ⟨k, hk, rfl⟩ := tn_at e1
      obtain ⟨n, hn, rfl⟩ := tn_at e2
      have lt := hp.get hk hn
      refine ⟨T1, _, rfl, SqT.of upd_same, rfl, _, _, rfl, _, _, rfl, rfl, ?_⟩
      refine ⟨_, rfl, _, rfl, _, rfl, iteF ?_⟩
      refine ⟨_, rfl, _, rfl, _, rfl, _, _, rfl, rfl, true, congrArg V.bl (decide_eq_true (by omega)), iteT ⟨_, rfl, _, _, rfl, rfl, _, rfl, ?_⟩⟩
      exact notB (show (k : Int) < n by omega) ⟨s2.trans (Same.new hT), _, _, rfl⟩
    · rintro σ H2 ⟨s2, v, u, rfl⟩
      have ha2 := s2 _ _ ha
      have hb2 := s2 _ _ hb
      refine ⟨_, rfl, _, rfl, b, a, tn p, tn ls, rfl, .inr ⟨SqT.of hb2, SqT.of ha2, fun D hD => ?_⟩⟩
      refine lc_new (walk_zipT (n := ls.length) (by rw [tn_len, hl]) (tn_len _)) (by omega) hD (fun i y _ => ∃ k : Nat, p[i]? = some k ∧ y = .int (k : Int)) (fun H3 s3 => ⟨SqT.of (s3 _ _ hb2), SqT.of (s3 _ _ ha2)⟩) (fun _ _ _ _ _ h => h) ?_ ?_
      · rintro i x H3 H4 Kt hi s3 hacc ⟨T1, x1, y1, rfl, hT, rfl, e1, e2⟩ kt
        obtain ⟨k, hk, rfl⟩ := tn_at e1
        obtain ⟨n, hn, rfl⟩ := tn_at e2
        have lt := hp.get hk hn
        refine ⟨T1, _, rfl, SqT.of upd_same, rfl, _, _, rfl, _, _, rfl, rfl, rfl, _, rfl, _, rfl, _, _, rfl, rfl, by omega, kt _ _ (Same.new hT) ⟨k, hk, ?_⟩⟩
        exact congrArg V.int (Int.emod_eq_of_lt (by omega) (by omega))
      · intro ys H3 s3 hD3 hy hR
        refine ⟨D, ys, rfl, .inl ⟨SqL.of hD3, fun t ht => ?_⟩⟩
        have e := ys_tn (by rw [hy, hl]) hR
        subst e
        exact q t _ ((s2.trans s3).trans (Same.new ht)) ((s2.trans s3).free ht) upd_same
def spNumber : Sp := fun vs H Q _ => ∃ (a b : Addr) (ls p : List Nat), vs = [.ref a, .ref b] ∧ H a = some (.tup (tn ls)) ∧ H b = some (.tup (tn p)) ∧ Inb p ls ∧ ls.length ≤ 5 ∧ (∀ l ∈ ls, l ≤ 600) ∧ ∀ H', Same H H' → Q (.int (idx ls p : Int)) H'
theorem ok_number_of (T : Tx K mg) : Def P w K mg base 3 "number_of" ["sides", "place"] [] spNumber := by
  refine Def.mk0 (f_number_of T) (g_number_of T) sc_number_of (fun _ _ _ _ _ _ us hl => match us, hl with | [_, _], _ => rfl) (fun vs H Q E h => ?_) (fun cdv A outer s H vs Q E hr h => ?_)
  · obtain ⟨a, b, ls, p, rfl, _⟩ := h; rfl
  · obtain ⟨a, b, ls, p, rfl, ha, hb, hp, h5, h6, q⟩ := h
    have hl := hp.len
    refine ⟨_, (pss_cons (ps_set (i := 2) sc_number_of.nd rfl (Or.inl rfl) pe_int)
    (pss_cons (ps_for PassesOwn.never rfl (pi_zipK (K := K) rfl (by rfl) (z_zip T) (pa_cons (pe_fK (K := K) (P := P) (w := w) (mg := mg) (base := base) ((ok_whole_place T).mono (by omega)) rfl rfl rfl rfl rfl hr (by rfl) (pa_cons (pv 0) (pa_cons (pv 1) pa_nil))) (pa_cons (pv 0) pa_nil))) (pg_tupK (K := K) (n := 2) rfl rfl (pgs_cons (pg_name (i := 3) sc_number_of.nd rfl (Or.inl rfl)) (pgs_cons (pg_name (i := 4) sc_number_of.nd rfl (Or.inl rfl)) pgs_nil)))
    (pss_one (ps_set (i := 2) sc_number_of.nd rfl (Or.inl rfl) (pe_op op_add (pe_op op_mul (pv 2) (pv 4)) (pv 3)))))
    (pss_one (ps_ret (pv 2))))), ?_⟩
    refine ⟨_, rfl, _, rfl, a, b, ls, p, rfl, ha, hb, hp, h5, fun t H1 s1 ht ht1 => ?_⟩
    have ha1 := s1 _ _ ha
    refine ⟨_, rfl, t, a, tn p, tn ls, rfl, .inr ⟨SqT.of ht1, SqT.of ha1, for_it (walk_zipT (n := ls.length) (by rw [tn_len, hl]) (tn_len _))
      (fun i σ H2 => Same H1 H2 ∧ ∃ v u, σ = [some (.ref a), some (.ref b), some (.int ((((p.zip ls).take i).foldl (fun a q => a * q.2 + q.1) 0 : Nat) : Int)), v, u]) ⟨Same.refl H1, none, none, rfl⟩ (fun i σ H2 _ h => ⟨SqT.of (h.1 _ _ ht1), SqT.of (h.1 _ _ ha1)⟩) ?_ ?_⟩⟩
    · rintro i x σ H2 H3 hi ⟨s2, v, u, rfl⟩ ⟨T1, x1, y1, rfl, hT, rfl, e1, e2⟩
      obtain ⟨k, hk, rfl⟩ := tn_at e1
      obtain ⟨n, hn, rfl⟩ := tn_at e2
      have hm := h6 n (List.mem_of_getElem? hn)
      refine ⟨T1, _, rfl, SqT.of upd_same, rfl, _, _, rfl, _, _, rfl, rfl, ?_⟩
      refine ⟨_, rfl, _, rfl, _, _, rfl, rfl, .inr (by constructor <;> omega), _, rfl, _, _, rfl, rfl, s2.trans (Same.new hT), some (.int (k : Int)), some (.int (n : Int)), ?_⟩
      have ez : (p.zip ls)[i]? = some (k, n) := by rw [List.getElem?_zip_eq_some]; exact ⟨hk, hn⟩
      rw [take_one ez, List.foldl_append]
      simp only [List.foldl_cons, List.foldl_nil, Int.natCast_add, Int.natCast_mul]
      rfl
    · rintro σ H2 ⟨s2, v, u, rfl⟩
      have e := idx_fold ls p 0 hl
      rw [Nat.zero_mul, Nat.zero_add] at e
      rw [List.take_of_length_le (by rw [List.length_zip]; omega), e]
      exact ⟨_, rfl, q H2 (s1.trans s2)⟩
def spSideOf : Sp := fun vs H Q _ => ∃ (at_ many : Nat), vs = [.int (at_ : Int), .int (many : Int)] ∧ at_ < many ∧ Q (.int (at_ : Int)) H
theorem ok_side_of (T : Tx K mg) : Def P w K mg base 2 "side_of" ["side", "many"] [] spSideOf := by
  refine Def.mk0 (f_side_of T) (g_side_of T) sc_side_of (fun _ _ _ _ _ _ us hl => match us, hl with | [_, _], _ => rfl) (fun vs H Q E h => ?_) (fun cdv A outer s H vs Q E hr h => ?_)
  · obtain ⟨a, m, rfl, _⟩ := h; rfl
  · obtain ⟨a, m, rfl, lt, q⟩ := h
    refine ⟨_, (pss_cons (ps_if (PW.pt (pw_or (pt_not (pt_val (pe_fK (K := K) (P := P) (w := w) (mg := mg) (base := base) ((ok_is_whole T).mono (by omega)) rfl rfl rfl rfl rfl hr (by rfl) (pa_cons (pv 0) pa_nil)))) (pw_or1 (pt_not (pt_chain op_le op_lt (pe_un un_neg (pv 1)) (pv 0) (pv 1)))))) (pss_one ps_never) pss_nil)
    (pss_one (ps_ret (pe_op op_mod (pv 0) (pv 1))))), ?_⟩
    refine ⟨_, rfl, _, rfl, _, rfl, iteF ?_⟩
    refine ⟨_, rfl, _, rfl, _, rfl, _, _, rfl, rfl, true, congrArg V.bl (decide_eq_true (by omega)), iteT ⟨_, rfl, _, _, rfl, rfl, _, rfl, notB (show (a : Int) < m by omega) ?_⟩⟩
    refine ⟨_, rfl, _, rfl, _, _, rfl, rfl, by omega, ?_⟩
    have e : (a : Int) % (m : Int) = a := Int.emod_eq_of_lt (by omega) (by omega)
    show Q (.int ((a : Int) % (m : Int))) H
    rw [e]
    exact q
end
end VG
-- VgSides3
set_option Elab.async false
set_option linter.all false
set_option maxRecDepth 100000
set_option maxHeartbeats 4000000
namespace VG
open PySem PySem.Spec PyProof.Rows L2
/-- dense strides -/
def dense : List Nat → List Nat
  | [] => []
  | _ :: r => sz r :: dense r
theorem dense_len : ∀ l : List Nat, (dense l).length = l.length
  | [] => rfl
  | _ :: r => congrArg Nat.succ (dense_len r)
theorem rgV_tn (n : Nat) : rgV 0 (n : Int) = tn (List.range n) := by
  unfold rgV tn
  have e : ((n : Int) - 0).toNat = n := by omega
  rw [e]
  exact List.map_congr_left fun i _ => congrArg V.int (Int.zero_add _)
section
variable {P : Program} {w : World} {K : PySem.W.Frag} {mg : Str → Option Value} {base : Heap}
def spUnlike : Sp := fun vs H Q _ => ∃ (x : V) (many : Nat) (gone : List Nat), vs = [x, .int (many : Int)] ∧ many ≤ 5 ∧ ((x = .non ∧ gone = List.range many) ∨ ∃ (a : Addr) (at_ : Nat), x = .ref a ∧ H a = some (.tup (tn [at_])) ∧ at_ < many ∧ gone = [at_]) ∧
  ∀ l H', Same H H' → H l = none → H' l = some (.lst (tn gone)) → Q (.ref l) H'
theorem ok_unlike_sides (T : Tx K mg) : Def P w K mg base 3 "unlike_sides" ["some", "many"] [] spUnlike := by
  refine Def.mk0 (f_unlike_sides T) (g_unlike_sides T) sc_unlike_sides (fun _ _ _ _ _ _ us hl => match us, hl with | [_, _], _ => rfl) (fun vs H Q E h => ?_) (fun cdv A outer s H vs Q E hr h => ?_)
  · obtain ⟨a, m, g, rfl, _⟩ := h; rfl
  · obtain ⟨x, many, gone, rfl, h5, hx, q⟩ := h
    refine ⟨_, (pss_cons (ps_if (pt_cmpR op_isN (pv 0) pe_non (nomark _)) (pss_one (ps_ret (pe_listRg rfl (by rfl) (z_list T) (prg_1 (by rfl) (z_range T) (pv 1))))) pss_nil)
    (pss_cons (ps_setLc (i := 2) (own := [("side", 3)]) (tt := tYes) rfl sc_unlike_sides.nd rfl rfl (sw_true rfl rfl rfl (by decide +kernel)) (pi_tupK (K := K) rfl (pv 0)) (blkOk_by (own := [("side", 3)]) (sc := defScope s_unlike_sides) (N := n_unlike_sides) (by decide +kernel)) (fun _ _ _ _ _ => (pg_name (i := 3) sc_unlike_sides.nd rfl (by first | exact Or.inl rfl | exact Or.inr rfl))) (fun _ _ _ _ _ => pts_nil) (fun _ _ _ _ _ => (pe_fK (K := K) (P := P) (w := w) (mg := mg) (base := base) ((ok_side_of T).mono (by omega)) rfl rfl rfl rfl rfl hr (by rfl) (pa_cons (pv 3) (pa_cons (pv 1) pa_nil)))))
    (pss_cons (ps_for PassesOwn.never rfl (pi_enumLK (K := K) rfl (by rfl) (z_enumerate T) (pa_cons (pv 2) pa_nil)) (pg_tupK (K := K) (n := 2) rfl rfl (pgs_cons (pg_name (i := 4) sc_unlike_sides.nd rfl (Or.inl rfl)) (pgs_cons (pg_name (i := 3) sc_unlike_sides.nd rfl (Or.inl rfl)) pgs_nil)))
    (pss_one (ps_if (pt_cmpR (op_inK (K := K) rfl) (pv 3) (pe_slice (sl_LK (K := K) rfl) (pv 2) po_none (po_some (pv 4))) (by rfl)) (pss_one ps_never) pss_nil)))
    (pss_one (ps_ret (pv 2)))))), ?_⟩
    rcases hx with ⟨rfl, rfl⟩ | ⟨a, at_, rfl, ha, lt, rfl⟩
    · refine ⟨_, rfl, rfl, _, rfl, iteT ⟨_, rfl, _, rfl, RgOk.of_le (by omega) (by omega) (by omega) (by omega), fun l hl => ?_⟩⟩
      rw [rgV_tn]
      exact q l _ (Same.new hl) hl upd_same
    · refine ⟨_, rfl, rfl, _, rfl, iteF ?_⟩
      refine ⟨_, rfl, a, rfl, ⟨_, SqT.of ha⟩, fun D hD => ?_⟩
      refine lc_new (walk_tn (ns := [at_])) (by show 1 ≤ 90000; decide) hD (fun i y _ => y = .int (at_ : Int)) (fun H3 s3 => SqT.of (s3 _ _ ha)) (fun _ _ _ _ _ h => h) ?_ ?_
      · rintro i x H3 H4 Kt hi s3 hacc ⟨rfl, n, hn, rfl⟩ kt
        have e : n = at_ := by
          have q := List.mem_of_getElem? hn
          exact List.mem_singleton.mp q
        subst e
        exact ⟨rfl, _, rfl, _, rfl, n, many, rfl, lt, kt _ _ (Same.refl _) rfl⟩
      · intro ys H3 s3 hD3 hy hR
        have e : ys = tn [at_] := ys_tn hy fun i y e => ⟨at_, by
          have := (List.getElem?_eq_some_iff.mp e).1
          have : i = 0 := by rw [hy] at this; simp at this; exact this
          rw [this]; rfl, hR i y e⟩
        subst e
        refine ⟨_, rfl, D, _, rfl, SqL.of hD3, for_it walk_enum (fun i σ H2 => Same H3 H2 ∧ ∃ v u, σ = [some (.ref a), some (.int (many : Int)), some (.ref D), u, v]) ⟨Same.refl H3, none, none, rfl⟩ (fun i σ H2 _ h => SqL.of (h.1 _ _ hD3)) ?_ ?_⟩
        · rintro i x σ H4 H5 hi ⟨s4, v, u, rfl⟩ ⟨T1, x1, y1, rfl, hT, rfl, e1, e2⟩
          cases e1
          have hi0 : i = 0 := by rw [tn_len] at hi; simp at hi; exact hi
          subst hi0
          have ey : V.int (at_ : Int) = y1 := Option.some.inj e2
          subst ey
          refine ⟨T1, _, rfl, SqT.of upd_same, rfl, _, _, rfl, _, _, rfl, rfl, ?_⟩
          have hD5 : upd H4 T1 (.tup [.int ((0 : Nat) : Int), .int (at_ : Int)]) D = some (.lst (tn [at_])) := (Same.new hT) _ _ (s4 _ _ hD3)
          refine ⟨_, rfl, _, rfl, _, rfl, _, rfl, D, _, rfl, SqL.of hD5, fun t ht => ?_⟩
          refine ⟨t, _, rfl, .inl (SqL.of upd_same), rfl, rfl, _, rfl, iteF ?_⟩
          exact ⟨(s4.trans (Same.new hT)).trans (Same.new ht), _, _, rfl⟩
        · rintro σ H4 ⟨s4, v, u, rfl⟩
          exact ⟨_, rfl, q D H4 (s3.trans s4) hD (s4 _ _ hD3)⟩
def spDense : Sp := fun vs H Q _ => ∃ (a : Addr) (ls : List Nat), vs = [.ref a] ∧ H a = some (.tup (tn ls)) ∧ ls.length ≤ 5 ∧ (∀ l ∈ ls, l ≤ 600) ∧ ∀ q H', Same H H' → H q = none → H' q = some (.tup (tn (dense ls))) → Q (.ref q) H'
theorem drop_at {ls : List Nat} {i n : Nat} (hi : i < ls.length) (h : ls[ls.length - 1 - i]? = some n) : ls.drop (ls.length - (i + 1)) = n :: ls.drop (ls.length - i) := by
  have e : ls.length - (i + 1) = ls.length - 1 - i := by omega
  have e2 : ls.length - i = ls.length - 1 - i + 1 := by omega
  rw [e, e2]
  obtain ⟨h1, h2⟩ := List.getElem?_eq_some_iff.mp h
  rw [List.drop_eq_getElem_cons h1, h2]
theorem ok_dense_strides (T : Tx K mg) : Def P w K mg base 1 "dense_strides" ["lengths"] [] spDense := by
  refine Def.mk0 (f_dense_strides T) (g_dense_strides T) sc_dense_strides (fun _ _ _ _ _ _ us hl => match us, hl with | [_], _ => rfl) (fun vs H Q E h => ?_) (fun cdv A outer s H vs Q E hr h => ?_)
  · obtain ⟨a, ls, rfl, _⟩ := h; rfl
  · obtain ⟨a, ls, rfl, ha, h5, h6, q⟩ := h
    refine ⟨_, (pss_cons (ps_set (i := 1) sc_dense_strides.nd rfl (Or.inl rfl) (pe_lst pa_nil))
    (pss_cons (ps_set (i := 2) sc_dense_strides.nd rfl (Or.inl rfl) pe_int)
    (pss_cons (ps_for PassesOwn.never rfl (pi_revK (K := K) rfl (by rfl) (z_reversed T) (pv 0)) (pg_name (i := 3) sc_dense_strides.nd rfl (Or.inl rfl))
    (pss_cons (ps_expr (pe_bmK (K := K) rfl PySem.F.plainAttrs_list PySem.F.slot_list_append PySem.F.type_list_append mt_append (pv 1) (pa_cons (pv 2) pa_nil)))
    (pss_one (ps_aug (i := 2) sc_dense_strides.nd rfl (Or.inl rfl) (pv 3) iop_mul))))
    (pss_one (ps_ret (pe_callTy (call_tupK (K := K) rfl) (by rfl) (z_tuple T) (by decide +kernel) (pa_cons (pe_revLK (K := K) rfl (pv 1)) pa_nil))))))), ?_⟩
    refine ⟨sz_ok (Nat.zero_le _), fun f hf => ?_⟩
    have s1 : Same H (upd H f (.lst [])) := Same.new hf
    have naf : a ≠ f := ne_of_none ha hf
    refine ⟨_, rfl, a, _, rfl, .inr ⟨SqT.of (s1 _ _ ha), for_it walk_revT (fun i σ H2 => But f H H2 ∧ H2 f = some (.lst (tn (dense (ls.drop (ls.length - i))).reverse)) ∧ ∃ v, σ = [some (.ref a), some (.ref f), some (.int (sz (ls.drop (ls.length - i)) : Int)), v]) ⟨Same.but f s1, ?_, none, ?_⟩ (fun i σ H2 _ h => SqT.of (h.1 _ _ naf ha)) ?_ ?_⟩⟩
    · rw [Nat.sub_zero, List.drop_length]; exact upd_same
    · rw [Nat.sub_zero, List.drop_length]; rfl
    · rintro i x σ H2 H3 hi ⟨b2, hf2, v, rfl⟩ ⟨rfl, hx⟩
      rw [tn_len] at hi hx
      obtain ⟨n, hn, rfl⟩ := tn_at hx
      have hm := h6 n (List.mem_of_getElem? hn)
      have hd := drop_at hi hn
      have l1 : (tn (dense (ls.drop (ls.length - i))).reverse).length ≤ 5 := by rw [tn_len, List.length_reverse, dense_len, List.length_drop]; omega
      refine ⟨_, rfl, .inl ⟨rfl, _, SqL.of hf2⟩, _, rfl, f, _, _, rfl, rfl, hf2, sz_lt (by omega), ?_⟩
      refine ⟨_, rfl, _, rfl, _, _, rfl, rfl, .inr (by constructor <;> omega), b2.trans But.put, ?_, some (.int (n : Int)), ?_⟩
      · rw [upd_same, hd, dense, List.reverse_cons]
        simp [tn]
      · rw [hd, sz, Nat.mul_comm, Int.natCast_mul]
        rfl
    · rintro σ H2 ⟨b2, hf2, v, rfl⟩
      rw [tn_len, Nat.sub_self, List.drop_zero] at hf2
      refine ⟨_, rfl, f, _, rfl, SqL.of hf2, fun p hp => ⟨p, _, rfl, .inl ⟨SqL.of upd_same, fun t ht => ?_⟩⟩⟩
      have s2 : Same H (upd (upd H2 p (.lst (tn (dense ls).reverse).reverse)) t (.tup (tn (dense ls).reverse).reverse)) := ((But.same hf b2).trans (Same.new hp)).trans (Same.new ht)
      refine q t _ s2 (((But.same hf b2).trans (Same.new hp)).free ht) ?_
      rw [upd_same]
      simp [tn]
end
end VG
-- VgSides4
set_option Elab.async false
set_option linter.all false
set_option maxRecDepth 100000
set_option maxHeartbeats 4000000
namespace VG
open PySem PySem.Spec PyProof.Rows L2
/-- the one length of a column -/
def clen : List Nat → Nat
  | [] => 1
  | x :: r => if x = 1 then clen r else x
theorem clen_head {col : List Nat} {x : Nat} {r : List Nat} (h : col.filterMap (fun x => if x = 1 then none else some x) = x :: r) : clen col = x := by
  induction col with
  | nil => simp at h
  | cons a col ih =>
    by_cases e : a = 1
    · rw [List.filterMap_cons, if_pos e] at h
      rw [clen, if_pos e]
      exact ih h
    · rw [List.filterMap_cons, if_neg e] at h
      rw [clen, if_neg e]
      simp at h
      exact h.1
theorem clen_nil {col : List Nat} (h : col.filterMap (fun x => if x = 1 then none else some x) = []) : clen col = 1 := by
  induction col with
  | nil => rfl
  | cons a col ih =>
    by_cases e : a = 1
    · rw [List.filterMap_cons, if_pos e] at h
      rw [clen, if_pos e]
      exact ih h
    · rw [List.filterMap_cons, if_neg e] at h
      simp at h
theorem clen_of {col : List Nat} {l : Nat} (hm : l ∈ col) (h : ∀ x ∈ col, x = l ∨ x = 1) : clen col = l := by
  induction col with
  | nil => cases hm
  | cons a col ih =>
    by_cases e : a = 1
    · rw [clen, if_pos e]
      rcases List.mem_cons.mp hm with q | q
      · subst q
        subst e
        clear ih hm
        induction col with
        | nil => rfl
        | cons b col ih =>
          have hb : b = 1 := by
            have := h b (by simp)
            rcases this with q | q <;> exact q
          rw [clen, if_pos hb]
          exact ih fun x hx => h x (by simp at hx ⊢; rcases hx with q | q <;> simp [q])
      · exact ih q fun x hx => h x (List.mem_cons_of_mem _ hx)
    · rw [clen, if_neg e]
      rcases h a (List.mem_cons_self ..) with q | q
      · exact q
      · exact absurd q e
/-- X may be widened to L -/
def Fit (X L : List Nat) : Prop := X.length ≤ L.length ∧ ∀ (i : Nat) x l, X.reverse[i]? = some x → L.reverse[i]? = some l → x = l ∨ x = 1
theorem Fit.refl (L : List Nat) : Fit L L := ⟨Nat.le_refl _, fun i x l a b => by rw [a] at b; exact .inl (Option.some.inj b)⟩
theorem atI_back {α : Type} {xs : List α} {i : Nat} {x : α} (h : xs.reverse[i]? = some x) : atI xs (-(1 + (i : Int))) = some x := by
  have hi : i < xs.length := by have := (List.getElem?_eq_some_iff.mp h).1; rw [List.length_reverse] at this; exact this
  rw [List.getElem?_reverse hi] at h
  unfold atI ixN
  rw [if_neg (by omega), if_pos (by omega)]
  have e : (-(1 + (i : Int)) + (xs.length : Int)).toNat = xs.length - 1 - i := by omega
  show xs[(-(1 + (i : Int)) + (xs.length : Int)).toNat]? = some x
  rw [e]
  exact h
section
variable {P : Program} {w : World} {K : PySem.W.Frag} {mg : Str → Option Value} {base : Heap}
def spClen : Sp := fun vs H Q _ => ∃ (c : Addr) (x : V) (col : List Nat), vs = [.ref c, x] ∧ H c = some (.lst (tn col)) ∧ col.length ≤ 90000 ∧ (∀ x ∈ col, x = clen col ∨ x = 1) ∧ ∀ H', Same H H' → Q (.int (clen col : Int)) H'
theorem ok_common_length (T : Tx K mg) : Def P w K mg base 1 "common_length" ["column", "side"] [] spClen := by
  refine Def.mk0 (f_common_length T) (g_common_length T) sc_common_length (fun _ _ _ _ _ _ us hl => match us, hl with | [_, _], _ => rfl) (fun vs H Q E h => ?_) (fun cdv A outer s H vs Q E hr h => ?_)
  · obtain ⟨a, x, col, rfl, _⟩ := h; rfl
  · obtain ⟨c, x, col, rfl, hc, hlen, hcol, q⟩ := h
    refine ⟨_, (pss_cons (ps_setLc (i := 2) (own := [("length", 3)]) rfl sc_common_length.nd rfl rfl (sw_true rfl rfl rfl (by decide +kernel)) (pi_listK (K := K) rfl (pv 0)) (blkOk_by (own := [("length", 3)]) (sc := defScope s_common_length) (N := n_common_length) (by decide +kernel)) (fun _ _ _ _ _ => (pg_name (i := 3) sc_common_length.nd rfl (by first | exact Or.inl rfl | exact Or.inr rfl))) (fun _ _ _ _ _ => pts_one (pt_cmpR op_ne (pv 3) pe_int (nomark _))) (fun _ _ _ _ _ => (pv 3)))
    (pss_cons (ps_for PassesOwn.never rfl (pi_listK (K := K) rfl (pv 2)) (pg_name (i := 3) sc_common_length.nd rfl (Or.inl rfl))
    (pss_one (ps_if (pt_cmpR op_ne (pv 3) (pe_ix (ix_K (K := K) rfl) (pv 2) pe_int (fun _ _ => rfl)) (nomark _)) (pss_one ps_never) pss_nil)))
    (pss_one (ps_ret (pe_ifExp (pt_truthK (K := K) rfl (pv 2) (by intro _; rfl)) (pe_ix (ix_K (K := K) rfl) (pv 2) pe_int (fun _ _ => rfl)) pe_int))))), ?_⟩
    refine ⟨_, rfl, c, rfl, ⟨_, SqL.of hc⟩, fun D hD => ?_⟩
    have w1 : Walk (Itl K c) col.length (fun H => SqL K H c (tn col)) (fun i H x H' => H' = H ∧ ∃ n, col[i]? = some n ∧ x = .int (n : Int)) := by
      have w := walk_list (K := K) (a := c) (xs := tn col)
      rw [tn_len] at w
      exact w.mono (fun _ q => q) fun i H x H' _ _ y => ⟨y.1, tn_at y.2⟩
    refine lc_flt col (fun x => if x = 1 then none else some x) w1 hlen hD (fun y b _ => y = .int (b : Int)) (fun H3 s3 => SqL.of (s3 _ _ hc)) (fun _ _ _ _ _ h => h) ?_ ?_
    · rintro i n x H3 H4 Kt Kn hn s3 hacc ⟨rfl, n', hn', rfl⟩ kt kn
      rw [hn] at hn'
      cases hn'
      refine ⟨rfl, _, rfl, rfl, _, rfl, ?_⟩
      refine ite2 (fun z => ?_) fun z => ?_
      · have e : ¬ n = 1 := fun e => by rw [e] at z; simp at z
        exact ⟨_, rfl, kt _ _ (Same.refl _) ⟨n, if_neg e, rfl⟩⟩
      · have e : n = 1 := by
          refine Decidable.byContradiction fun e => z ?_
          have q : ¬ (V.int (n : Int) = V.int 1) := fun q => e (by have := V.int.inj q; omega)
          rw [decide_eq_false q]
          rfl
        exact kn _ (Same.refl _) (if_pos e)
    · intro ys H3 s3 hD3 al
      have e := all2_nat al
      subst e
      cases hcs : col.filterMap (fun x => if x = 1 then none else some x) with
      | nil =>
        rw [hcs] at hD3
        refine ⟨_, rfl, D, rfl, ⟨_, SqL.of hD3⟩, for_list (xs := tn []) (fun i σ H2 => H2 = H3 ∧ σ = [some (.ref c), some x, some (.ref D), none]) ⟨rfl, rfl⟩ (fun i σ H2 _ h => by rw [h.1]; exact SqL.of hD3) ?_ ?_⟩
        · rintro i x σ H2 hx ⟨rfl, rfl⟩
          simp [tn] at hx
        · rintro σ H2 ⟨rfl, rfl⟩
          refine ⟨_, rfl, false, .inl ⟨tn [], SqL.of hD3, rfl⟩, iteF ?_⟩
          have e := q _ s3
          rw [clen_nil hcs] at e
          exact e
      | cons b r =>
        rw [hcs] at hD3
        have hb := clen_head hcs
        have hall : ∀ y ∈ b :: r, y = b := fun y hy => by
          rw [← hcs] at hy
          obtain ⟨z, hz, e⟩ := List.mem_filterMap.mp hy
          by_cases h1 : z = 1
          · rw [if_pos h1] at e; cases e
          · rw [if_neg h1] at e
            have e2 : z = y := Option.some.inj e
            subst e2
            rcases hcol z hz with q | q
            · rw [q, hb]
            · exact absurd q h1
        refine ⟨_, rfl, D, rfl, ⟨_, SqL.of hD3⟩, for_list (xs := tn (b :: r)) (fun i σ H2 => H2 = H3 ∧ ∃ v, σ = [some (.ref c), some x, some (.ref D), v]) ⟨rfl, none, rfl⟩ (fun i σ H2 _ h => by rw [h.1]; exact SqL.of hD3) ?_ ?_⟩
        · rintro i x σ H2 hx ⟨rfl, v, rfl⟩
          obtain ⟨n, hn, rfl⟩ := tn_at hx
          have e := hall n (List.mem_of_getElem? hn)
          subst e
          refine ⟨_, rfl, _, rfl, q_ixL (i := 0) (v := .int (n : Int)) (SqL.of hD3) rfl ?_⟩
          exact ⟨rfl, _, rfl, iteNS rfl ⟨rfl, _, rfl⟩⟩
        · rintro σ H2 ⟨rfl, v, rfl⟩
          refine ⟨_, rfl, true, .inl ⟨tn (b :: r), SqL.of hD3, rfl⟩, iteT ?_⟩
          refine ⟨_, rfl, q_ixL (i := 0) (v := .int (b : Int)) (SqL.of hD3) rfl ?_⟩
          have e := q _ s3
          rw [hb] at e
          exact e
/-- some sides, of which L is one to which all can be widened -/
def spCommon : Sp := fun vs H Q _ => ∃ (s : Addr) (as : List Addr) (Ls : List (List Nat)) (L : List Nat), vs = [.ref s] ∧ H s = some (.lst (as.map V.ref)) ∧ Tups H as Ls ∧ Ls.length ≤ 90000 ∧ L ∈ Ls ∧ (∀ X ∈ Ls, Fit X L) ∧ Okl L ∧
  ∀ q H', Same H H' → H q = none → H' q = some (.tup (tn L)) → Q (.ref q) H'
theorem ok_common_sides (T : Tx K mg) : Def P w K mg base 3 "common_sides" ["some"] [] spCommon := by
  refine Def.mk0 (f_common_sides T) (g_common_sides T) sc_common_sides (fun _ _ _ _ _ _ us hl => match us, hl with | [_], _ => rfl) (fun vs H Q E h => ?_) (fun cdv A outer s H vs Q E hr h => ?_)
  · obtain ⟨a, as, Ls, L, rfl, _⟩ := h; rfl
  · obtain ⟨a, as, Ls, L, rfl, ha, tp, hn, hL, hfit, hok, q⟩ := h
    refine ⟨_, (pss_cons (ps_set (i := 1) sc_common_sides.nd rfl (Or.inl rfl) (pe_lst pa_nil))
    (pss_cons (ps_for PassesOwn.never rfl (pi_range2 (by rfl) (z_range T) (pa_cons pe_int (pa_cons (pe_op op_add pe_int (pe_callB (cr_maxK (K := K) rfl rfl) (by rfl) (z_max T) (by decide +kernel) (pa_cons (pe_lc (own := [("lengths", 3)]) (tt := tYes) rfl sc_common_sides.nd (pi_listK (K := K) rfl (pv 0)) (blkOk_by (own := [("lengths", 3)]) (sc := defScope s_common_sides) (N := n_common_sides) (by decide +kernel)) (fun _ _ _ _ _ => (pg_name (i := 3) sc_common_sides.nd rfl (by first | exact Or.inl rfl | exact Or.inr rfl))) (fun _ _ _ _ _ => pts_nil) (fun _ _ _ _ _ => (pe_callB (call_lenK (K := K) rfl) (by rfl) (z_len T) (by decide +kernel) (pa_cons (pv 3) pa_nil)))) pa_nil))) pa_nil))) (pg_name (i := 2) sc_common_sides.nd rfl (Or.inr rfl))
    (pss_cons (ps_setLc (i := 4) (own := [("lengths", 3)]) rfl sc_common_sides.nd rfl rfl (sw_true rfl rfl rfl (by decide +kernel)) (pi_listK (K := K) rfl (pv 0)) (blkOk_by (own := [("lengths", 3)]) (sc := defScope s_common_sides) (N := n_common_sides) (by decide +kernel)) (fun _ _ _ _ _ => (pg_name (i := 3) sc_common_sides.nd rfl (by first | exact Or.inl rfl | exact Or.inr rfl))) (fun _ _ _ _ _ => pts_one (pt_cmpR op_ge (pe_callB (call_lenK (K := K) rfl) (by rfl) (z_len T) (by decide +kernel) (pa_cons (pv 3) pa_nil)) (pv 2) (nomark _))) (fun _ _ _ _ _ => (pe_ix (ix_K (K := K) rfl) (pv 3) (pe_un un_neg (pv 2)) (fun _ _ => rfl))))
    (pss_one (ps_expr (pe_bmK (K := K) rfl PySem.F.plainAttrs_list PySem.F.slot_list_append PySem.F.type_list_append mt_append (pv 1) (pa_cons (pe_fK (K := K) (P := P) (w := w) (mg := mg) (base := base) ((ok_common_length T).mono (by omega)) rfl rfl rfl rfl rfl hr (by rfl) (pa_cons (pv 4) (pa_cons (pe_un un_neg (pv 2)) pa_nil))) pa_nil))))))
    (pss_cons (ps_set (i := 5) sc_common_sides.nd rfl (Or.inl rfl) (pe_callTy (call_tupK (K := K) rfl) (by rfl) (z_tuple T) (by decide +kernel) (pa_cons (pe_revLK (K := K) rfl (pv 1)) pa_nil)))
    (pss_cons (ps_expr (pe_fK (K := K) (P := P) (w := w) (mg := mg) (base := base) ((ok_vet_size T).mono (by omega)) rfl rfl rfl rfl rfl hr (by rfl) (pa_cons (pv 5) pa_nil)))
    (pss_one (ps_ret (pv 5))))))), ?_⟩
    refine ⟨sz_ok (Nat.zero_le _), fun f hf => ?_⟩
    have s1 : Same H (upd H f (.lst [])) := Same.new hf
    have naf : a ≠ f := ne_of_none ha hf
    have tl := tp.len
    refine ⟨_, rfl, a, rfl, ⟨_, SqL.of (s1 _ _ ha)⟩, fun D hD => ?_⟩
    refine lc_new (walk_refs tl) hn hD (fun i y _ => ∃ X, Ls[i]? = some X ∧ y = .int (X.length : Int)) (fun H3 s3 => SqL.of ((s1.trans s3) _ _ ha)) (fun _ _ _ _ _ h => h) ?_ ?_
    · rintro i x H3 H4 Kt hi s3 hacc ⟨rfl, b, hb, rfl⟩ kt
      obtain ⟨X, hX, hbX⟩ := tp.get hb
      refine ⟨rfl, _, rfl, q_len (.inr (SqT.of ((s1.trans s3) _ _ hbX))) (tn_len X) (kt _ _ (Same.refl _) ⟨X, hX, rfl⟩)⟩
    · intro ys H3 s3 hD3 hy hR
      have e : ys = ti (Ls.map fun X => (X.length : Int)) := ys_ti (by rw [hy, List.length_map]) fun i y e => by
        obtain ⟨X, h1, h2⟩ := hR i y e
        exact ⟨_, by rw [List.getElem?_map, h1]; rfl, h2⟩
      subst e
      refine ⟨D, _, rfl, SqL.of hD3, by rw [List.length_map]; exact List.length_pos_of_mem hL, fun m hm hle => ?_⟩
      have em : m = (L.length : Int) := by
        obtain ⟨X, hX, rfl⟩ := List.mem_map.mp hm
        have h1 := hle _ (List.mem_map.mpr ⟨L, hL, rfl⟩)
        have h2 := (hfit X hX).1
        omega
      subst em
      have h5 := hok.len
      refine ⟨_, _, rfl, rfl, _, _, rfl, ⟨by omega, by omega, by omega, by omega⟩, ?_⟩
      have en : (1 + (L.length : Int) - 1).toNat = L.length := by omega
      rw [en]
      refine for_it (walk_range (lo := 1) (n := L.length)) (fun i σ H4 => But f H H4 ∧ H4 f = some (.lst (tn (L.reverse.take i))) ∧ ∃ u v x, σ = [some (.ref a), some (.ref f), u, none, v, x]) ⟨Same.but f (s1.trans s3), (by rw [List.take_zero]; exact s3 _ _ upd_same), none, none, none, rfl⟩ (fun _ _ _ _ _ => trivial) ?_ ?_
      · rintro i x σ H4 H5 hi ⟨b4, hf4, u, v, x', rfl⟩ ⟨rfl, rfl⟩
        have s4 : Same H H5 := But.same hf b4
        refine ⟨_, rfl, a, rfl, ⟨_, SqL.of (s4 _ _ ha)⟩, fun C hC => ?_⟩
        have hl : L.reverse[i]? = some (L.reverse[i]'(by rw [List.length_reverse]; exact hi)) := List.getElem?_eq_getElem _
        generalize L.reverse[i]'(by rw [List.length_reverse]; exact hi) = l at hl
        have w1 : Walk (Itl K a) Ls.length (fun H => SqL K H a (as.map V.ref)) (fun i H x H' => H' = H ∧ ∃ a, as[i]? = some a ∧ x = .ref a) := walk_refs tl
        refine lc_flt Ls (fun X => X.reverse[i]?) w1 hn hC (fun y b _ => y = .int (b : Int)) (fun H3 s3 => SqL.of ((s4.trans s3) _ _ ha)) (fun _ _ _ _ _ h => h) ?_ ?_
        · rintro j X x H6 H7 Kt Kn hX s6 hacc ⟨rfl, b, hb, rfl⟩ kt kn
          obtain ⟨X', hX', hbX⟩ := tp.get hb
          rw [hX] at hX'
          cases hX'
          have hb7 := (s4.trans s6) _ _ hbX
          refine ⟨rfl, _, rfl, b, _, rfl, .inr (SqT.of hb7), _, rfl, _, _, rfl, rfl, _, rfl, ?_⟩
          rw [tn_len]
          refine ite2 (fun z => ?_) fun z => ?_
          · have lt : i < X.length := by have q := of_decide_eq_true z; omega
            have hx : X.reverse[i]? = some (X.reverse[i]'(by rw [List.length_reverse]; exact lt)) := List.getElem?_eq_getElem _
            generalize X.reverse[i]'(by rw [List.length_reverse]; exact lt) = xx at hx
            refine ⟨_, rfl, _, rfl, _, rfl, .inr (.inl ⟨b, tn X, _, .int (xx : Int), rfl, rfl, SqT.of hb7, ?_, kt _ _ (Same.refl _) ⟨xx, hx, rfl⟩⟩)⟩
            refine atI_back ?_
            have e : (tn X).reverse = tn X.reverse := by simp [tn]
            rw [e]
            exact tn_get hx
          · refine kn _ (Same.refl _) (List.getElem?_eq_none ?_)
            rw [List.length_reverse]
            have q : ¬ (1 + (i : Int) ≤ (X.length : Int)) := fun q => z (decide_eq_true q)
            omega
        · intro ys H6 s6 hC6 al
          have e := all2_nat al
          subst e
          have hmem : l ∈ Ls.filterMap (fun X => X.reverse[i]?) := List.mem_filterMap.mpr ⟨L, hL, hl⟩
          have hall : ∀ x ∈ Ls.filterMap (fun X => X.reverse[i]?), x = l ∨ x = 1 := fun x hx => by
            obtain ⟨X, hX, e⟩ := List.mem_filterMap.mp hx
            exact (hfit X hX).2 i x l e hl
          have hc := clen_of hmem hall
          have nfC : f ≠ C := ne_of_none hf4 hC
          refine ⟨_, rfl, .inl ⟨rfl, _, SqL.of (s6 _ _ hf4)⟩, _, rfl, _, rfl, _, rfl, C, _, _, rfl, hC6, Nat.le_trans (List.length_filterMap_le _ _) hn, by rw [hc]; exact hall, fun H8 s8 => ?_⟩
          rw [hc]
          have hf8 := s8 _ _ (s6 _ _ hf4)
          refine ⟨f, _, _, rfl, rfl, hf8, sz_lt (by rw [tn_len, List.length_take, List.length_reverse]; omega), ?_, ?_, _, _, _, rfl⟩
          · exact (b4.trans (Same.but f (s6.trans s8))).trans But.put
          · rw [upd_same, take_one hl]
            simp [tn]
      · rintro σ H4 ⟨b4, hf4, u, v, x', rfl⟩
        have s4 : Same H H4 := But.same hf b4
        rw [List.take_of_length_le (by rw [List.length_reverse]; exact Nat.le_refl _)] at hf4
        refine ⟨_, rfl, f, _, rfl, SqL.of hf4, fun p hp => ⟨p, _, rfl, .inl ⟨SqL.of upd_same, fun t ht => ?_⟩⟩⟩
        have e : (tn L.reverse).reverse = tn L := by simp [tn]
        rw [e]
        have s5 : Same H (upd (upd H4 p (.lst (tn L))) t (.tup (tn L))) := (s4.trans (Same.new hp)).trans (Same.new (by rw [e] at ht; exact ht))
        refine ⟨_, rfl, t, L, rfl, SqT.of upd_same, hok, _, rfl, q t _ s5 ((s4.trans (Same.new hp)).free ht) upd_same⟩
end
end VG
-- VgLam
set_option Elab.async false
set_option linter.all false
set_option maxRecDepth 100000
set_option maxHeartbeats 4000000
namespace VG
open PySem PySem.Spec PyProof.Rows L2 LamX NdefX
/-- a thing of which nothing is told -/
def anyO : HO := .ext fun _ => True
/-- the lambda object at f: F its words (its suite unused), b its body -/
def LamO (f : Addr) (F : NF) (b : Expr) : HO := .ext fun h => ∃ (pm ctv : Value), h.get? f = some (PySem.W.kla_obj "<lambda>" F.qual F.params b F.scope F.cl pm F.c ctv)
theorem lamO_at {P : Program} {w : World} {H : Hp} {h : Heap} {f : Addr} {F : NF} {b : Expr} (hok : HOk P w H h) (e : H f = some (LamO f F b)) : ∃ (pm ctv : Value), h.get? f = some (PySem.W.kla_obj "<lambda>" F.qual F.params b F.scope F.cl pm F.c ctv) := by
  obtain ⟨z, _, _⟩ := hok f _ e
  exact z
/-- more, less tracked -/
def over (cs H : Hp) : Hp := fun b => match cs b with | some o => some o | none => H b
def less (cs H : Hp) : Hp := fun b => match cs b with | some _ => none | none => H b
section
variable {cs H H' : Hp} {b : Addr} {o : HO}
theorem over_in (e : cs b = some o) : over cs H b = some o := by unfold over; rw [e]
theorem over_out (e : cs b = none) : over cs H b = H b := by unfold over; rw [e]
theorem less_in (e : cs b = some o) : less cs H b = none := by unfold less; rw [e]
theorem less_out (e : cs b = none) : less cs H b = H b := by unfold less; rw [e]
theorem less_get (e : less cs H b = some o) : cs b = none ∧ H b = some o := by
  cases q : cs b with
  | some u => rw [less_in q] at e; cases e
  | none => rw [less_out q] at e; exact ⟨rfl, e⟩
end
section
variable {P : Program} {w : World} {K : PySem.W.Frag} {mg : Str → Option Value} {base : Heap} {A : Around} {outer : List Env} {s : Shared} {H cs : Hp} {Q : VK}
/-- what is tracked besides: known objects of which nothing is told -/
def AddOk (cs : Hp) (h : Heap) : Prop := ∀ b o, cs b = some o → ∃ ob, o = .frz ob anyO ∧ h.get? b = some ob
theorem anyO_ok {h : Heap} {b : Addr} {ob : Obj} (e : h.get? b = some ob) : ObjOk P w H h b (.frz ob anyO) := ⟨e, trivial, ⟨ob, e⟩, fun _ _ _ _ => trivial⟩
theorem env0_over (e0 : Env0 P w K mg base A outer s H) (hc : AddOk cs s.heap) (hn : ∀ b o, cs b = some o → H b = none) (hf : ∀ b ∈ frs outer, cs b = none) (hb : ∀ b o, base.get? b = some o → cs b = none) : Env0 P w K mg base A outer s (over cs H) := by
  refine ⟨e0.frames, e0.mod, fun b o e => ⟨(e0.bs b o e).1, ?_⟩, e0.bsz, e0.funs, fun b hb' => ?_, fun a o e => ?_, e0.bare⟩
  · rw [over_out (hb b o e)]; exact (e0.bs b o e).2
  · rw [over_out (hf b hb')]; exact e0.frf b hb'
  · cases q : cs a with
    | some u =>
      rw [over_in q] at e
      cases e
      obtain ⟨ob, rfl, h⟩ := hc a o q
      exact anyO_ok h
    | none =>
      rw [over_out q] at e
      refine (e0.hok a o e).stay (fun _ _ _ z => z) (fun b z => ?_) fun b xs z => ?_
      · cases q2 : cs b with
        | some u => have := hn b u q2; rw [this] at z; cases z
        | none => rw [over_out q2]; exact z
      · cases q2 : cs b with
        | some u => have := hn b u q2; rw [this] at z; cases z
        | none => rw [over_out q2]; exact z
theorem ce_over {u : Value} {s' : Shared} (hk : HOk P w H s.heap) (hc : AddOk cs s.heap) (hn : ∀ b o, cs b = some o → H b = none)
    (h : CE outer P w (over cs H) s (fun v H' => (∀ b o, cs b = some o → H' b = some o) → Q v (less cs H')) u s') : CE outer P w H s Q u s' := by
  obtain ⟨v, H', os, bare, un, hok, r, q⟩ := h
  have fr : ∀ b o, cs b = some o → H' b = some o := fun b o e => by
    obtain ⟨ob, rfl, _⟩ := hc b o e
    exact un.frzs b ob anyO (over_in e)
  have kp : ∀ b o ob, cs b = some o → s.heap.get? b = some ob → s'.heap.get? b = some ob := fun b o ob e h => by
    obtain ⟨ob', rfl, h2⟩ := hc b o e
    rw [h2] at h; cases h
    obtain ⟨z, _⟩ := hok b _ (fr b _ e)
    exact z
  have no : ∀ b o, H b = some o → cs b = none := fun b o e => by
    cases z : cs b with
    | none => rfl
    | some u => rw [hn b u z] at e; cases e
  refine ⟨v, less cs H', os, bare, ⟨fun b ob g n hf hx => ?_, fun b ob g n hf hx => ?_, fun b ob g n hx => ?_, fun b ob g hx => un.there b ob g hx, fun b xs g => ?_, fun b ob u g => ?_, fun b ps g => ?_⟩, fun a o e => ?_, r, q fr⟩
  · cases z : cs b with
    | some u => exact kp b u ob z g
    | none => exact un.keep b ob g (by rw [over_out z]; exact n) hf hx
  · cases z : cs b with
    | some u => exact ⟨ob.slots, kp b u ob z g⟩
    | none => exact un.slot b ob g (by rw [over_out z]; exact n) hf hx
  · cases z : cs b with
    | some u => exact less_in z
    | none => rw [less_out z]; exact un.free b ob g (by rw [over_out z]; exact n) hx
  · have z := no b _ g
    rw [less_out z]; exact un.tups b xs (by rw [over_out z]; exact g)
  · have z := no b _ g
    rw [less_out z]; exact un.frzs b ob u (by rw [over_out z]; exact g)
  · have z := no b _ g
    rw [less_out z]; exact un.tbls b ps (by rw [over_out z]; exact g)
  · obtain ⟨z, e'⟩ := less_get e
    refine (hok a o e').stay (fun _ _ _ z => z) (fun b y => ?_) fun b xs y => ?_
    · cases q2 : cs b with
      | some u =>
        obtain ⟨ob, rfl, _⟩ := hc b u q2
        rw [fr b _ q2] at y; cases y
      | none => rw [less_out q2]; exact y
    · cases q2 : cs b with
      | some u =>
        obtain ⟨ob, rfl, _⟩ := hc b u q2
        rw [fr b _ q2] at y; cases y
      | none => rw [less_out q2]; exact y
theorem env0_less (e0 : Env0 P w K mg base A outer s H) (hs : ∀ b o, cs b = some o → H b = some o ∧ ∃ ob, o = .frz ob anyO) : Env0 P w K mg base A outer s (less cs H) := by
  have nn : ∀ b, H b = none → less cs H b = none := fun b e => by
    cases z : cs b with
    | none => rw [less_out z]; exact e
    | some u => exact less_in z
  refine ⟨e0.frames, e0.mod, fun b o e => ⟨(e0.bs b o e).1, nn b (e0.bs b o e).2⟩, e0.bsz, e0.funs, fun b hb' => nn b (e0.frf b hb'), fun a o e => ?_, e0.bare⟩
  obtain ⟨z, e'⟩ := less_get e
  refine (e0.hok a o e').stay (fun _ _ _ z => z) (fun b y => ?_) fun b xs y => ?_
  · cases q2 : cs b with
    | some u =>
      obtain ⟨h1, ob, rfl⟩ := hs b u q2
      rw [h1] at y; cases y
    | none => rw [less_out q2]; exact y
  · cases q2 : cs b with
    | some u =>
      obtain ⟨h1, ob, rfl⟩ := hs b u q2
      rw [h1] at y; cases y
    | none => rw [less_out q2]; exact y
theorem ce_less {u : Value} {s' : Shared} (e0 : Env0 P w K mg base A outer s H) (hs : ∀ b o, cs b = some o → H b = some o ∧ ∃ ob, o = .frz ob anyO)
    (h : CE outer P w (less cs H) s (fun v H' => (∀ b o, cs b = some o → H' b = none) → Q v (over cs H')) u s') : CE outer P w H s Q u s' := by
  obtain ⟨v, H', os, bare, un, hok, r, q⟩ := h
  have at_ : ∀ b o, cs b = some o → ∃ ob, o = .frz ob anyO ∧ s.heap.get? b = some ob ∧ s'.heap.get? b = some ob ∧ H' b = none := fun b o e => by
    obtain ⟨h1, ob, rfl⟩ := hs b o e
    obtain ⟨g, _⟩ := e0.hok b _ h1
    have nf : b ∉ frs outer := fun z => by rw [e0.frf b z] at h1; cases h1
    exact ⟨ob, rfl, g, un.keep b ob g (less_in e) nf (by simp), un.free b ob g (less_in e) (by simp)⟩
  have no : ∀ b, H b = none → cs b = none := fun b e => by
    cases z : cs b with
    | none => rfl
    | some u => rw [(hs b u z).1] at e; cases e
  refine ⟨v, over cs H', os, bare, ⟨fun b ob g n hf hx => ?_, fun b ob g n hf hx => ?_, fun b ob g n hx => ?_, fun b ob g hx => un.there b ob g hx, fun b xs g => ?_, fun b ob u g => ?_, fun b ps g => ?_⟩, fun a o e => ?_, r, q fun b o e => ?_⟩
  · exact un.keep b ob g (by rw [less_out (no b n)]; exact n) hf hx
  · exact un.slot b ob g (by rw [less_out (no b n)]; exact n) hf hx
  · rw [over_out (no b n)]; exact un.free b ob g (by rw [less_out (no b n)]; exact n) hx
  · cases z : cs b with
    | some u => obtain ⟨h1, ob', rfl⟩ := hs b u z; rw [h1] at g; cases g
    | none => rw [over_out z]; exact un.tups b xs (by rw [less_out z]; exact g)
  · cases z : cs b with
    | some o' => rw [over_in z, ← g, (hs b o' z).1]
    | none => rw [over_out z]; exact un.frzs b ob u (by rw [less_out z]; exact g)
  · cases z : cs b with
    | some u => obtain ⟨h1, ob', rfl⟩ := hs b u z; rw [h1] at g; cases g
    | none => rw [over_out z]; exact un.tbls b ps (by rw [less_out z]; exact g)
  · cases z : cs a with
    | some u =>
      rw [over_in z] at e
      cases e
      obtain ⟨ob, rfl, _, g, _⟩ := at_ a o z
      exact anyO_ok g
    | none =>
      rw [over_out z] at e
      refine (hok a o e).stay (fun _ _ _ z => z) (fun b y => ?_) fun b xs y => ?_
      · cases q2 : cs b with
        | some u => rw [(at_ b u q2).choose_spec.2.2.2] at y; cases y
        | none => rw [over_out q2]; exact y
      · cases q2 : cs b with
        | some u => rw [(at_ b u q2).choose_spec.2.2.2] at y; cases y
        | none => rw [over_out q2]; exact y
  · exact (at_ b o e).choose_spec.2.2.2
/-- a def, lambda or the like at d, called where G is tracked: its promise -/
structure Act (P : Program) (w : World) (K : PySem.W.Frag) (mg : Str → Option Value) (base : Heap) (k : Nat) (d : Addr) (G : Hp → Prop) (sp : Sp) : Prop where
  fn : ∀ (H : Hp) (h : Heap), HOk P w H h → G H → PySem.W.FnAt d h
  run : ∀ (A : Around) (outer : List Env) (s : Shared) (H : Hp) (us : List Value) (vs : List V) (Q : VK), L2.Room k A → Env0 P w K mg base A outer s H → G H → Vals vs us → sp vs H Q E0 →
    codeAny (model P w) A (.call (.ref d) ⟨us, []⟩) (CR CX0 outer P w H s Q E0) s
theorem Act.mono {k j : Nat} {d : Addr} {G : Hp → Prop} {sp : Sp} (a : Act P w K mg base j d G sp) (h : j ≤ k) : Act P w K mg base k d G sp := ⟨a.fn, fun A outer s H us vs Q hr => a.run A outer s H us vs Q (hr.mono h)⟩
theorem Act.imp {k : Nat} {d : Addr} {G G' : Hp → Prop} {sp sp' : Sp} (a : Act P w K mg base k d G sp) (hg : ∀ H, G' H → G H) (h : ∀ vs H Q E, G' H → sp' vs H Q E → sp vs H Q E) : Act P w K mg base k d G' sp' :=
  ⟨fun H hh x g => a.fn H hh x (hg H g), fun A outer s H us vs Q hr e0 g r q => a.run A outer s H us vs Q hr e0 (hg H g) r (h vs H Q _ g q)⟩
/-- what captured cells hold, told of the tracked heap -/
structure CapH (cl : List (Str × Addr)) (fr : List Str) (ws : List V) (H : Hp) : Prop where
  len : ws.length = fr.length
  inj : ∀ x y c, cl.lookup x = some c → cl.lookup y = some c → x = y
  all : ∀ y c, cl.lookup y = some c → ∃ ob v, H c = some (.frz ob anyO) ∧ ob.data = .cell v
  has : ∀ (i : Nat) (y : Str), fr[i]? = some y → ∃ c, cl.lookup y = some c ∧ ∀ v, ws[i]? = some v → ∃ ob u, H c = some (.frz ob anyO) ∧ L2.RelV v u ∧ ob.data = .cell (some u)
theorem CapH.keep {cl : List (Str × Addr)} {fr : List Str} {ws : List V} {H H' : Hp} (c : CapH cl fr ws H) (k : ∀ b ob, H b = some (.frz ob anyO) → H' b = some (.frz ob anyO)) : CapH cl fr ws H' :=
  ⟨c.len, c.inj, fun y a e => let ⟨ob, v, h, d⟩ := c.all y a e; ⟨ob, v, k _ _ h, d⟩, fun i y e => let ⟨a, h, q⟩ := c.has i y e; ⟨a, h, fun v ev => let ⟨ob, u, h1, h2, h3⟩ := q v ev; ⟨ob, u, k _ _ h1, h2, h3⟩⟩⟩
/-- the cells' part of the tracked heap -/
noncomputable def cellsOf (cl : List (Str × Addr)) (H : Hp) : Hp := fun b => open Classical in if ∃ y, cl.lookup y = some b then H b else none
theorem cellsOf_some {cl : List (Str × Addr)} {b : Addr} {o : HO} (e : cellsOf cl H b = some o) : (∃ y, cl.lookup y = some b) ∧ H b = some o := by
  unfold cellsOf at e
  split at e
  · rename_i h; exact ⟨h, e⟩
  · cases e
theorem cellsOf_in {cl : List (Str × Addr)} {b : Addr} {y : Str} (h : cl.lookup y = some b) : cellsOf cl H b = H b := by
  unfold cellsOf
  rw [if_pos ⟨y, h⟩]
/-- G of a lambda that captures -/
structure LamG (f : Addr) (F : NF) (b : Expr) (fr : List Str) (ws : List V) (H : Hp) : Prop where
  fn : H f = some (LamO f F b)
  code : H F.c = some (CodeO F.c F.qual)
  cap : CapH F.cl fr ws H
theorem LamG.keep {f : Addr} {F : NF} {b : Expr} {fr : List Str} {ws : List V} {H H' : Hp} (g : LamG f F b fr ws H) (k : ∀ a φ, H a = some (.ext φ) → H' a = some (.ext φ)) (k2 : ∀ b ob, H b = some (.frz ob anyO) → H' b = some (.frz ob anyO)) : LamG f F b fr ws H' :=
  ⟨k _ _ g.fn, k _ _ g.code, g.cap.keep k2⟩
/-- a lambda by its body -/
theorem act_lam {k : Nat} {N ps fr : List Str} {F : NF} {b : Expr} {f : Addr} {ws : List V} {sp : Sp} (S : NScope N ps fr F.scope)
    (hb : ∀ (pm ctv : Value) (us : List Value), us.length = ps.length → bindArgs (PySem.W.kla_fn "<lambda>" F.qual F.params b F.scope F.cl pm (.ref F.c) ctv) ⟨us, []⟩ = pure (ps.zip us)) (len : ∀ vs H Q E, sp vs H Q E → vs.length = ps.length)
    (hbody : ∀ (A : Around) (outer : List Env) (s : Shared) (H cs : Hp) (vs : List V) (Q : VK), L2.Room k (A.deeper (envF F f s.heap.objs.size)) → LamG f F b fr ws H → (∀ b o, cs b = some o → H b = some o ∧ ∃ ob, o = .frz ob anyO) → sp vs H Q E0 →
      ∃ t, PE (ncx CX0 P w K mg base N F f A outer s (less cs H) E0) b t ∧ t (startF N vs (ws.map some)) (less cs H) (fun v H' => (∀ b o, cs b = some o → H' b = none) → Q v (over cs H'))) :
    Act P w K mg base (k + 1) f (LamG f F b fr ws) sp := by
  refine ⟨fun H h x g => ?_, fun A outer s H us vs Q hr e0 g r hsp => ?_⟩
  · obtain ⟨pm, ctv, ho⟩ := lamO_at x g.fn
    exact ⟨_, _, _, _, ho⟩
  have hl := len _ _ _ _ hsp
  have lim : s.heap.NoLimit := e0.mod.nolimit.keeps fun b o e => (e0.bs b o e).1
  obtain ⟨pm, ctv, ho⟩ := lamO_at e0.hok g.fn
  obtain ⟨⟨oc, cvs, t, hoc, hdc, hvc⟩, _, _⟩ := e0.hok F.c _ g.code
  have hs : ∀ b o, cellsOf F.cl H b = some o → H b = some o ∧ ∃ ob, o = .frz ob anyO := fun b o e => by
    obtain ⟨⟨y, hy⟩, e2⟩ := cellsOf_some e
    obtain ⟨ob, v, h1, _⟩ := g.cap.all y b hy
    rw [e2] at h1
    exact ⟨e2, ob, Option.some.inj h1⟩
  have e1 := env0_less e0 hs
  have C : CellsAt F.cl fr (ws.map some) s.heap (less (cellsOf F.cl H) H) := by
    refine ⟨by rw [List.length_map]; exact g.cap.len, fun y c e => ?_, g.cap.inj, fun i y e => ?_⟩
    · obtain ⟨ob, v, h1, d⟩ := g.cap.all y c e
      have hin : cellsOf F.cl H c = some (.frz ob anyO) := by rw [cellsOf_in e]; exact h1
      obtain ⟨hg, _⟩ := e0.hok c _ h1
      exact ⟨less_in hin, v, ob, hg, d⟩
    · obtain ⟨c, hc, q⟩ := g.cap.has i y e
      refine ⟨c, hc, fun v ev => ?_⟩
      rw [List.getElem?_map] at ev
      cases z : ws[i]? with
      | none => rw [z] at ev; cases ev
      | some v' =>
        rw [z] at ev
        cases ev
        obtain ⟨ob, u, h1, h2, h3⟩ := q v z
        obtain ⟨hg, _⟩ := e0.hok c _ h1
        exact ⟨u, h2, ob, hg, h3⟩
  refine codeAny_mono (R := CR CX0 outer P w (less (cellsOf F.cl H) H) s (fun v H' => (∀ b o, cellsOf F.cl H b = some o → H' b = none) → Q v (over (cellsOf F.cl H) H')) E0) ?_ fun r s' hq => ?_
  · refine PySem.W.kla_callFunE hr.depth ho rfl S.co S.gen rfl ⟨F.c, oc, cvs, t, rfl, hoc, hdc, hvc⟩ ?_
    rw [hb pm ctv us (by rw [← r.length]; exact hl)]
    refine wpAny_pure (wpAny_newFunctionEnv S.nocell (fun ⟨n, _⟩ hy => S.par n (List.of_mem_zip hy).1) (fun h₁ hns hsb => ⟨lim.fresh _ hsb, ?_⟩) S.kind)
    show codeAny _ _ (.expr b (envF F f s.heap.objs.size)) _ _
    have kp : ∀ b o, s.heap.get? b = some o → h₁.get? b = some o := fun b o e => hsb.extBut b o (Nat.ne_of_lt (Heap.lt_size e)) (Heap.get?_push_of_some _ e)
    obtain ⟨t, ht, hq⟩ := hbody A outer s H (cellsOf F.cl H) vs Q (hr.deeper _) g hs hsp
    have I : Inv (ncx CX0 P w K mg base N F f A outer s (less (cellsOf F.cl H) H) E0) [] (startF N vs (ws.map some)) (less (cellsOf F.cl H) H) { s with heap := h₁, toks := s.toks + (ps.zip us).length } := inv_startN S hr.hd e1 hl r C hns kp
    refine PySem.W.kla_codeExpr (wpAny_mono (ht.run [] _ (startF N vs (ws.map some)) _ _ I hq) (fun v s' hs => ?_) fun e s' hs => hs)
    obtain ⟨v', H', J, rv, q⟩ := hs
    exact ⟨v', H', J.os, J.bare, J.base, J.hok, rv, q⟩
  · cases r with
    | error e => exact hq
    | ok fl =>
      cases fl with
      | ret u => exact ce_less e0 hs hq
      | next => exact False.elim hq
      | brk => exact False.elim hq
      | cont => exact False.elim hq
end
theorem lamO_ne {f : Addr} {F : NF} {b : Expr} (ps : Array Value) : LamO f F b ≠ .tbl ps := fun z => by
  unfold LamO at z
  cases z
/-- the words of a lambda made in X -/
abbrev lamF (X : Cx) (params : Arguments) (scope : Scope) (c : Addr) : NF := ⟨"<lambda>", X.env.qual ++ "<lambda>", params, [], scope, cloFrom X.env.cells scope.names [], c⟩
section
variable {X : Cx} {pins : List (Addr × Obj)} {σ : L2.St} {H : Hp} {s : Shared}
theorem inv_lam {F : NF} {b : Expr} {o : Obj} {t' : Nat} {pm ctv : Value} (I : Inv X pins σ H s) (ho : o = PySem.W.kla_obj "<lambda>" F.qual F.params b F.scope F.cl pm F.c ctv) :
    Inv X pins σ (upd H s.heap.objs.size (LamO s.heap.objs.size F b)) { s with heap := s.heap.push o, toks := t' } := by
  subst ho
  refine I.laid (a := s.heap.objs.size) (fun b u e => Heap.get?_push_of_some _ e) (Nat.le_refl _) ?_
  have e : (s.heap.push (PySem.W.kla_obj "<lambda>" F.qual F.params b F.scope F.cl pm F.c ctv)).get? s.heap.objs.size = some (PySem.W.kla_obj "<lambda>" F.qual F.params b F.scope F.cl pm F.c ctv) := Heap.get?_push_size _ rfl
  exact ⟨⟨pm, ctv, e⟩, ⟨_, e⟩, fun h1 h2 ⟨p, t, z⟩ st => ⟨p, t, st _ z⟩⟩
/-- the tables at Ps: each tells of code objects by the names of their places -/
def Tbl (Ps : List Addr) (nm : Nat → Nat → Str) (H : Hp) : Prop := ∀ P ∈ Ps, TabN H P nm
theorem Tbl.ext {Ps : List Addr} {nm : Nat → Nat → Str} {H H' : Hp} (t : Tbl Ps nm H) (e : ∀ b o, H b = some o → H' b = some o) : Tbl Ps nm H' := fun P hP => (t P hP).ext e
theorem lam_make {Ps : List Addr} {nm : Nat → Nat → Str} {c P : Addr} {params : Arguments} {body : Expr} {scope : Scope} {pos : Pos} {E : Value → Shared → Prop} {Q : Value → Shared → Prop} (I : Inv X pins σ H s) (TB : TabB X.base X.mg c P) (hcode : X.env.code = .ref c)
    (hm : P ∈ Ps) (hn : nm pos.line pos.col = X.env.qual ++ "<lambda>") (hT : Tbl Ps nm H) (hdef : defaultsOf params X.env = ([], [])) (hfree : ∀ y ∈ scope.names, y.2 = .free → ∃ c, X.env.cells.lookup y.1 = some c)
    (h : ∀ (f c' : Addr) (H1 : Hp) (s' : Shared), Inv X pins σ H1 s' → ExtN H H1 → (∀ b, H1 b = Option.none → H b = Option.none) → Tbl Ps nm H1 → H f = none → H1 f = some (LamO f (lamF X params scope c') body) → H1 c' = some (CodeO c' (X.env.qual ++ "<lambda>")) → Q (.ref f) s') :
    wpAny (model X.prog X.w) X.A (eval (.Lambda params body scope pos) X.env) Q E s := by
  obtain ⟨ps, hP, ht, ha⟩ := hT P hm
  refine PySem.W.kla_eval hdef ?_
  have bP : s.heap.BuiltinsAt X.mg P := TB.bm.keeps I.bk
  have hP' : s.heap.get? P = some { cls := .none, data := .fields ps } := I.hok P _ hP
  cases hc : codeAmong pos ps.toList with
  | none =>
    refine PySem.W.kla_makeFunction (mg := X.mg) (c := c) (P := P) (ps := ps) (closure_ok hfree) I.ok.glob (I.mod.glob.keeps I.bk) hcode (TB.code.keeps I.bk) hP' ht hc TB.gP bP fun c' ctv h' tk hx hge hlt hrec htb => ?_
    obtain ⟨c2, oc, vs, t, e2, hoc, hd, hv⟩ := hrec
    cases e2
    have nC : H c' = none := I.hok.fresh hge
    have I1 := inv_table (t' := tk) (more := #[rawInt pos.line, rawInt pos.col, .ref c']) (h' := h') I hP (fun b o hb e => hx b o hb e) htb hge ⟨oc, vs, t, hoc, hd, hv⟩
    have hE : ExtN H (upd (upd H P (.tbl (ps ++ #[rawInt pos.line, rawInt pos.col, .ref c']))) c' (CodeO c' (X.env.qual ++ "<lambda>"))) := fun b o e n => by
      rw [upd_ne (ne_of_none e nC), upd_ne (fun z => n ps (Option.some.inj (e.symm.trans (by rw [z]; exact hP))))]
      exact e
    have eL : (ps ++ #[rawInt pos.line, rawInt pos.col, .ref c']).toList = ps.toList ++ [rawInt pos.line, rawInt pos.col, .ref c'] := by simp
    have T1 : Tbl Ps nm (upd (upd H P (.tbl (ps ++ #[rawInt pos.line, rawInt pos.col, .ref c']))) c' (CodeO c' (X.env.qual ++ "<lambda>"))) := fun p hp => by
      by_cases hb : p = P
      · rw [hb]
        refine ⟨_, by rw [upd_ne (ne_of_none hP nC), upd_same], by rw [eL]; exact PySem.TriplesOk_snoc _ _ _ _ ht, fun p' cv hcv => ?_⟩
        rw [eL] at hcv
        rcases among_app2 _ ht hcv with z | ⟨z, z1, z2⟩
        · obtain ⟨c0, e1, e2⟩ := ha p' cv z
          exact ⟨c0, e1, hE _ _ e2 codeO_ne⟩
        · refine ⟨c', z, ?_⟩
          rw [← z1, ← z2, hn]
          exact upd_same
      · obtain ⟨ps', a1, a2, a3⟩ := hT p hp
        refine ⟨ps', by rw [upd_ne (ne_of_none a1 nC), upd_ne hb]; exact a1, a2, fun p' cv hcv => ?_⟩
        obtain ⟨c0, e1, e2⟩ := a3 p' cv hcv
        exact ⟨c0, e1, hE _ _ e2 codeO_ne⟩
    have nF := I1.hok.fresh (Nat.le_refl _)
    have I2 := inv_lam (F := lamF X params scope c') (b := body) (t' := tk) (pm := (X.mg "__name__").getD .none) (ctv := ctv) I1 rfl
    refine h h'.objs.size c' _ _ I2 (fun b o e n => ?_) (fun b e => upd_none (upd_none (upd_none e))) (T1.ext fun b o e => ?_) (I.hok.fresh (Nat.le_trans hge (Nat.le_of_lt hlt))) upd_same ?_
    · have e1 := hE b o e n
      exact (upd_ne (ne_of_none e1 nF)).trans e1
    · exact (upd_ne (ne_of_none e nF)).trans e
    · exact (upd_ne (Nat.ne_of_lt hlt)).trans upd_same
  | some cv =>
    obtain ⟨c', e, hco⟩ := ha pos cv hc
    subst e
    rw [hn] at hco
    refine PySem.W.kla_makeFunctionHit (mg := X.mg) (c := c) (P := P) (ps := ps) (closure_ok hfree) I.ok.glob (I.mod.glob.keeps I.bk) hcode (TB.code.keeps I.bk) hP' ht hc bP fun ctv h' tk hx hsz => ?_
    have I1 : Inv X pins σ H { s with heap := h', toks := tk } := I.kept hx
    have nF : H h'.objs.size = none := I1.hok.fresh (Nat.le_refl _)
    have I2 := inv_lam (F := lamF X params scope c') (b := body) (t' := tk) (pm := (X.mg "__name__").getD .none) (ctv := ctv) I1 rfl
    refine h h'.objs.size c' _ _ I2 (fun b o e n => ?_) (fun b e => upd_none e) (hT.ext fun b o e => ?_) nF upd_same ?_
    · exact (upd_ne (ne_of_none e nF)).trans e
    · exact (upd_ne (ne_of_none e nF)).trans e
    · exact (upd_ne (ne_of_none hco nF)).trans hco
end
/-- the reading of a lambda: the new thing is tracked -/
def tLamMk (Ps : List Addr) (nm : Nat → Nat → Str) (mk : Addr → NF) (b : Expr) : TE := fun σ H Q => Tbl Ps nm H ∧ ∀ (f c' : Addr) (H1 : Hp), ExtN H H1 → (∀ b, H1 b = Option.none → H b = Option.none) → Tbl Ps nm H1 → H f = none → H1 f = some (LamO f (mk c') b) → H1 c' = some (CodeO c' (mk c').qual) → Q (.ref f) H1
section
variable {X : Cx}
theorem pe_lam {Ps : List Addr} {nm : Nat → Nat → Str} {c P : Addr} {params : Arguments} {body : Expr} {scope : Scope} {pos : Pos} (TB : TabB X.base X.mg c P) (hcode : X.env.code = .ref c) (hm : P ∈ Ps) (hn : nm pos.line pos.col = X.env.qual ++ "<lambda>")
    (hfree : ∀ y ∈ scope.names, y.2 = .free → X.env.scope.names.lookup y.1 = some .cell ∨ X.env.scope.names.lookup y.1 = some .free) (hdef : defaultsOf params X.env = ([], []) := by rfl) : PE X (.Lambda params body scope pos) (tLamMk Ps nm (lamF X params scope) body) := by
  refine ⟨fun pins s σ H Q I h => ?_⟩
  obtain ⟨hT, h⟩ := h
  exact lam_make I TB hcode hm hn hT hdef (fun y hy e => (hfree y hy e).elim (fun z => I.ok.has _ (.inl z)) fun z => I.ok.has _ (.inr z)) fun f c' H1 s' I1 eN nn T1 f0 f1 c1 => ⟨.ref f, H1, I1, rfl, h f c' H1 eN nn T1 f0 f1 c1⟩
/-- x(..), x a name that holds a thing that may be called -/
def tAct (P : Program) (w : World) (K : PySem.W.Frag) (mg : Str → Option Value) (base : Heap) (k i : Nat) (t : TA) : TE := fun σ H Q => ∃ (d : Addr) (G : Hp → Prop) (sp : Sp), σ[i]? = some (some (.ref d)) ∧ Act P w K mg base k d G sp ∧ G H ∧ t σ H fun vs H1 => G H1 ∧ sp vs H1 Q E0
theorem run_act {pins : List (Addr × Obj)} {σ : L2.St} {H : Hp} {s : Shared} {k : Nat} {d : Addr} {G : Hp → Prop} {sp : Sp} {Q : VK} {us : List Value} {vs : List V} (a : Act X.prog X.w X.K X.mg X.base k d G sp) (hr : L2.Room k X.A) (I : Inv X pins σ H s) (g : G H) (r : Vals vs us) (q : sp vs H Q E0) :
    wpAny (model X.prog X.w) X.A (call (.ref d) us) (EP X pins σ Q) X.xe s := by
  refine wpAny_call (codeAny_mono (a.run X.A X.stack s H us vs Q hr I.env0 g r q) fun r s' hq => ?_)
  cases r with
  | error e => exact pass0 pins σ H s e s' I hq
  | ok fl =>
    cases fl with
    | ret u => exact I.after hq
    | next => exact False.elim hq
    | brk => exact False.elim hq
    | cont => exact False.elim hq
theorem pe_act {P : Program} {w : World} {K : PySem.W.Frag} {mg : Str → Option Value} {base : Heap} {k i : Nat} {x : Str} {p pos : Pos} {e : Expr} {es : List Expr} {t : TA} (h1 : X.prog = P) (h2 : X.w = w) (h3 : X.K = K) (h4 : X.mg = mg) (h5 : X.base = base) (hr : L2.Room k X.A) (hN : X.N[i]? = some x) (hv : Vis X.env.scope x) (ha : PA X (e :: es) t)
    (hd : (x == ("__debug__" : Str)) = false := by decide) (hcd : (x == ("__classdict__" : Str)) = false := by decide)
    (he : starEach (e :: es) X.env = (false, eval e X.env) :: starEach es X.env := by rfl) (hpl : (backTo pos (starEach es X.env)).any (·.1) = false := by rfl) :
    PE X (.Call (.Name x p) (e :: es) [] pos) (tAct P w K mg base k i t) := by
  subst h1 h2 h3 h4 h5
  refine ⟨fun pins s σ H Q I h => ?_⟩
  obtain ⟨d, G, sp, hs, a, g, ht⟩ := h
  refine wpAny_Call_Name_kw (thn ((pe_var (pos := p) hN hv hd hcd).run pins s σ H (fun v H1 => v = .ref d ∧ H1 = H) I ⟨.ref d, hs, rfl, rfl⟩) fun u s1 ⟨v, H1, I1, r1, q1⟩ => ?_)
  obtain ⟨ev, eH⟩ := q1
  subst ev
  rw [eH] at I1
  obtain rfl : u = Value.ref d := r1
  refine PySem.W.callWith_F (first := []) (a.fn H _ I1.hok g) (thn (ha.run pos pins s1 σ H _ I1 ht) fun us s2 ⟨vs, H2, I2, r, g2, q⟩ => ⟨a.fn H2 _ I2.hok g2, ?_⟩) he hpl
  show wpAny _ _ (call (.ref d) us) _ _ _
  exact run_act a hr I2 g2 r q
theorem pe_act0 {P : Program} {w : World} {K : PySem.W.Frag} {mg : Str → Option Value} {base : Heap} {k i : Nat} {x : Str} {p pos : Pos} (h1 : X.prog = P) (h2 : X.w = w) (h3 : X.K = K) (h4 : X.mg = mg) (h5 : X.base = base) (hr : L2.Room k X.A) (hN : X.N[i]? = some x) (hv : Vis X.env.scope x)
    (hd : (x == ("__debug__" : Str)) = false := by decide) (hcd : (x == ("__classdict__" : Str)) = false := by decide) : PE X (.Call (.Name x p) [] [] pos) (tAct P w K mg base k i tNil) := by
  subst h1 h2 h3 h4 h5
  refine ⟨fun pins s σ H Q I h => ?_⟩
  obtain ⟨d, G, sp, hs, a, g, g2, q⟩ := h
  refine wpAny_Call_Name_kw (thn ((pe_var (pos := p) hN hv hd hcd).run pins s σ H (fun v H1 => v = .ref d ∧ H1 = H) I ⟨.ref d, hs, rfl, rfl⟩) fun u s1 ⟨v, H1, I1, r1, q1⟩ => ?_)
  obtain ⟨ev, eH⟩ := q1
  subst ev
  rw [eH] at I1
  obtain rfl : u = Value.ref d := r1
  refine PySem.W.callWith_F0 (first := []) (a.fn H _ I1.hok g) ?_
  show wpAny _ _ (call (.ref d) []) _ _ _
  exact run_act a hr I1 g2 .nil q
noncomputable def cellsAdd (cl : List (Str × Addr)) (h : Heap) : Hp := fun b => open Classical in if ∃ y, cl.lookup y = some b then (h.get? b).map fun ob => .frz ob anyO else none
theorem cellsAdd_some {cl : List (Str × Addr)} {h : Heap} {b : Addr} {o : HO} (e : cellsAdd cl h b = some o) : (∃ y, cl.lookup y = some b) ∧ ∃ ob, o = .frz ob anyO ∧ h.get? b = some ob := by
  unfold cellsAdd at e
  split at e
  · rename_i q
    refine ⟨q, ?_⟩
    cases z : h.get? b with
    | none => rw [z] at e; cases e
    | some ob => rw [z] at e; exact ⟨ob, (Option.some.inj e).symm, rfl⟩
  · cases e
theorem cellsAdd_in {cl : List (Str × Addr)} {h : Heap} {b : Addr} {y : Str} {ob : Obj} (e : cl.lookup y = some b) (g : h.get? b = some ob) : cellsAdd cl h b = some (.frz ob anyO) := by
  unfold cellsAdd
  rw [if_pos ⟨y, e⟩, g]
  rfl
def tCap (sp : Sp) (dvs : List V) (cl : List (Str × Addr)) (fr : List Str) (js : List Nat) (t : TA) : TE := fun σ H Q => t σ H fun vs H1 => ∃ ws : List V, js.map (slotAt σ) = ws.map some ∧ ∀ cs : Hp, (∀ b o, cs b = some o → H1 b = none ∧ ∃ ob, o = .frz ob anyO) → CapH cl fr ws (over cs H1) →
  sp (vs ++ dvs) (over cs H1) (fun v H' => (∀ b o, cs b = some o → H' b = some o) → Q v (less cs H')) E0
theorem pe_cap {k : Nat} {x : Str} {ps fr : List Str} {dvs : List V} {sp : Sp} {js : List Nat} {cl : List (Str × Addr)} {p pos : Pos} {e : Expr} {es : List Expr} {t : TA} (D : Def X.prog X.w X.K X.mg X.base k x ps dvs sp) (hr : L2.Room k X.A) (hg : Gl X x) (cp : X.Ok → Caps X cl fr js) (hfn : ∀ y, X.fn y = true) (ha : PA X (e :: es) t)
    (hdb : (x == ("__debug__" : Str)) = false := by decide) (he : starEach (e :: es) X.env = (false, eval e X.env) :: starEach es X.env := by rfl) (hpl : (backTo pos (starEach es X.env)).any (·.1) = false := by rfl) :
    PE X (.Call (.Name x p) (e :: es) [] pos) (tCap sp dvs cl fr js t) := by
  obtain ⟨f, fd, ds, F, hm, hk, hb, hd⟩ := D.ex
  refine ⟨fun pins s σ H Q I h => ?_⟩
  refine wpAny_Call_Name_kw (ld_glob I hg hm ?_ hdb)
  refine PySem.W.callWith_K (h₀ := X.base) I.ok.mod.kin hk (thn (ha.run pos pins s σ H _ I h) fun us s1 ⟨vs, H1, I1, r, q⟩ => ⟨I1.kIn, ?_⟩) he hpl
  obtain ⟨ws, hws, q⟩ := q
  have C := cells_of I1 (cp I1.ok)
  rw [hws] at C
  have hc : AddOk (cellsAdd cl s1.heap) s1.heap := fun b o e => (cellsAdd_some e).2
  have hn : ∀ b o, cellsAdd cl s1.heap b = some o → H1 b = none := fun b o e => by
    obtain ⟨⟨y, hy⟩, _⟩ := cellsAdd_some e
    exact (C.all y b hy).1
  have hge : ∀ b o, cellsAdd cl s1.heap b = some o → X.s_0.heap.objs.size ≤ b ∧ b ≠ X.env.locals := fun b o e => by
    obtain ⟨⟨y, hy⟩, _⟩ := cellsAdd_some e
    have h2 := (cp I1.ok).sub y b hy
    exact ⟨I1.ok.cab y b (hfn y) h2, I1.cne y b h2⟩
  have hf : ∀ b ∈ frs X.stack, cellsAdd cl s1.heap b = none := fun b hb => by
    cases z : cellsAdd cl s1.heap b with
    | none => rfl
    | some o =>
      obtain ⟨h1, h2⟩ := hge b o z
      rcases List.mem_cons.mp (I1.stkSub b hb) with e | hb2
      · exact absurd e h2
      · obtain ⟨_, o', ho', _⟩ := I1.ok.funs.mem hb2
        exact absurd (Nat.lt_of_lt_of_le (Heap.lt_size ho') h1) (Nat.lt_irrefl _)
  have hbs : ∀ b o, X.base.get? b = some o → cellsAdd cl s1.heap b = none := fun b o e => by
    cases z : cellsAdd cl s1.heap b with
    | none => rfl
    | some o' =>
      obtain ⟨h1, _⟩ := hge b o' z
      have l1 := Heap.lt_size e
      have l2 := I1.ok.bsz
      exact absurd (Nat.lt_of_lt_of_le l1 (Nat.le_trans l2 h1)) (Nat.lt_irrefl _)
  have e1 := env0_over I1.env0 hc hn hf hbs
  have cap : CapH cl fr ws (over (cellsAdd cl s1.heap) H1) := by
    refine ⟨by have := C.len; rw [List.length_map] at this; exact this, C.inj, fun y c e => ?_, fun i y e => ?_⟩
    · obtain ⟨_, v, ob, h1, h2⟩ := C.all y c e
      exact ⟨ob, v, over_in (cellsAdd_in e h1), h2⟩
    · obtain ⟨c, h1, h2⟩ := C.has i y e
      refine ⟨c, h1, fun v ev => ?_⟩
      obtain ⟨u, ru, ob, h3, h4⟩ := h2 v (by rw [List.getElem?_map, ev]; rfl)
      exact ⟨ob, u, over_in (cellsAdd_in h1 h3), ru, h4⟩
  have hsp := q (cellsAdd cl s1.heap) (fun b o e => ⟨hn b o e, let ⟨ob, a, _⟩ := (cellsAdd_some e).2; ⟨ob, a⟩⟩) cap
  have r2 : Vals (vs ++ dvs) (us ++ ds) := r.append hd
  have hl : (us ++ ds).length = ps.length := by rw [← r2.length]; exact F.len _ _ _ _ hsp
  refine wpAny_call (codeAny_mono (F.run X.A X.stack s1 _ ⟨us, []⟩ (us ++ ds) (vs ++ dvs) _ E0 hr e1 (hb s1 us I1.kIn hl) r2 hsp) fun r s' hq => ?_)
  cases r with
  | error e => exact pass0 pins σ H1 s1 e s' I1 hq
  | ok fl =>
    cases fl with
    | ret u => exact I1.after (ce_over I1.hok hc hn hq)
    | next => exact False.elim hq
    | brk => exact False.elim hq
    | cont => exact False.elim hq
end
end VG
-- VgBind
set_option Elab.async false
set_option linter.all false
set_option maxRecDepth 100000
set_option maxHeartbeats 4000000
namespace VG
open PySem PySem.Spec PyProof.Rows L2
section
variable {K : PySem.W.Frag} {mg : Str → Option Value} {fd : FuncData}
abbrev FunR (K : PySem.W.Frag) (d : He.DefD) (fd : FuncData) : Prop := FunD K d.name d.qual d.params d.body d.scope (d.dvs K) (d.kws K) (He.fAd K d.at_) fd
/-- Room(numbers) -/
theorem b_Room1 (F : FunR K d_Room_init fd) : ∃ ds, Vals [V.int 8] ds ∧ Binds K fd ["self", "numbers", "page"] ds := by
  refine F.binds 2 1 (by intro z; cases z) rfl (fun T D doc pm an cdv ct us its ks h1 h2 h3 => ?_) (by intro z; cases z)
  match us, h1, its, h2, ks, h3 with
  | [u, u2], _, [i], _, [q], _ => exact ⟨_, rfl, _, _, _, _, _, _, rfl, rfl, rfl⟩
/-- Room(numbers, page=w) -/
theorem b_Room2 (F : FunR K d_Room_init fd) : ∃ g, KBn K fd ["self", "numbers", "page"] 2 ["page"] g (fun vs zs => vs ++ zs) := by
  obtain ⟨its, mv, h⟩ := F.kbinds 2 ["page"] [] (fun us ds mz zs => us ++ zs) (by intro z; cases z) (by intro z; cases z) (by intro q hq; cases hq) (fun a b c d => a.append d) (ps := ["self", "numbers", "page"]) (fun T D doc pm an cdv ct us its mv ws h1 h2 h3 h4 => by
    match us, h1, its, h2, mv, h3, ws, h4 with
    | [u, u2], _, [i], _, [], _, [q], _ => exact ⟨_, rfl, rfl⟩)
  exact ⟨_, h⟩
/-- View(room, sides) -/
theorem b_View1 (F : FunR K d_View_init fd) : ∃ ds, Vals [V.int 0, V.non] ds ∧ Binds K fd ["self", "room", "sides", "first", "strides"] ds := by
  refine F.binds 3 1 (by intro z; cases z) rfl (fun T D doc pm an cdv ct us its ks h1 h2 h3 => ?_) (by intro z; cases z)
  match us, h1, its, h2, ks, h3 with
  | [u, u2, u3], _, [i], _, [q, q2], _ => exact ⟨_, rfl, _, _, _, _, _, _, rfl, rfl, _, _, _, _, _, _, rfl, rfl, rfl⟩
/-- View(room, sides, first=.., strides=..) -/
theorem b_View2 (F : FunR K d_View_init fd) : ∃ g, KBn K fd ["self", "room", "sides", "first", "strides"] 3 ["first", "strides"] g (fun vs zs => vs ++ zs) := by
  obtain ⟨its, mv, h⟩ := F.kbinds 3 ["first", "strides"] [] (fun us ds mz zs => us ++ zs) (by intro z; cases z) (by intro z; cases z) (by intro q hq; cases hq) (fun a b c d => a.append d) (ps := ["self", "room", "sides", "first", "strides"]) (fun T D doc pm an cdv ct us its mv ws h1 h2 h3 h4 => by
    match us, h1, its, h2, mv, h3, ws, h4 with
    | [u, u2, u3], _, [i], _, [], _, [q, q2], _ => exact ⟨_, rfl, rfl⟩)
  exact ⟨_, h⟩
/-- together(deed, views) -/
theorem b_together1 (F : FunR K d_together fd) : ∃ ds, Vals [V.non] ds ∧ Binds K fd ["deed", "views", "into"] ds :=
  F.binds0 2 (by intro z; cases z) rfl fun D doc pm an cdv ct us ks h1 h2 => by
    match us, h1, ks, h2 with
    | [u, u2], _, [q], _ => exact ⟨_, _, _, _, _, _, rfl, rfl, rfl⟩
/-- together(deed, views, into=..) -/
theorem b_together2 (F : FunR K d_together fd) : ∃ g, KBn K fd ["deed", "views", "into"] 2 ["into"] g (fun vs zs => vs ++ zs) := by
  obtain ⟨mv, h⟩ := F.kbinds0 2 ["into"] [] (fun us mz zs => us ++ zs) (by intro z; cases z) (by intro q hq; cases hq) (fun a b c => a.append c) (ps := ["deed", "views", "into"]) (fun D doc pm an cdv ct us mv ws h1 h2 h3 => by
    match us, h1, mv, h2, ws, h3 with
    | [u, u2], _, [], _, [q], _ => exact rfl)
  exact ⟨_, h⟩
/-- running(view, deed, side) -/
theorem b_running (F : FunR K d_running fd) : ∃ ds, Vals [] ds ∧ Binds K fd ["view", "deed", "side"] ds :=
  F.binds1 3 1 (by intro z; cases z) rfl fun T kV doc pm an cdv ct us its h1 h2 => by
    match us, h1, its, h2 with
    | [u, u2, u3], _, [i], _ => exact ⟨_, rfl, rfl⟩
/-- sums(view) -/
theorem b_sums1 (F : FunR K d_sums fd) : ∃ ds, Vals [V.non, V.int 0, V.bl false] ds ∧ Binds K fd ["view", "some", "start", "keep"] ds := by
  refine F.binds 1 0 (by intro z; cases z) rfl (fun T D doc pm an cdv ct us its ks h1 h2 h3 => ?_) (by intro z; cases z)
  match us, h1, its, h2, ks, h3 with
  | [u], _, [i], _, [q, q2], _ => exact ⟨_, rfl, _, _, _, _, _, _, rfl, rfl, _, _, _, _, _, _, rfl, rfl, rfl⟩
/-- sums(view, some, keep=..) -/
theorem b_sums2 (F : FunR K d_sums fd) : ∃ g, KBn K fd ["view", "some", "start", "keep"] 2 ["keep"] g (fun vs zs => vs ++ ([V.int 0] ++ zs)) := by
  obtain ⟨its, mv, h⟩ := F.kbinds 2 ["keep"] [("start", .int 0)] (fun us ds mz zs => us ++ (mz ++ zs)) (by intro z; cases z) (by intro z; cases z) (by intro q hq; cases hq with | head => exact List.mem_cons_self .. | tail _ h => cases h) (fun a b c d => a.append (c.append d)) (ps := ["view", "some", "start", "keep"]) (fun T D doc pm an cdv ct us its mv ws h1 h2 h3 h4 => by
    match us, h1, its, h2, mv, h3, ws, h4 with
    | [u, u2], _, [i], _, [m], _, [q], _ => exact ⟨_, rfl, _, _, _, _, _, _, rfl, rfl, rfl⟩)
  exact ⟨_, h⟩
/-- least(view, side, default=..) -/
theorem b_least (F : FunR K d_least fd) : ∃ g, KBn K fd ["view", "side", "default"] 2 ["default"] g (fun vs zs => vs ++ zs) := by
  obtain ⟨its, mv, h⟩ := F.kbinds 2 ["default"] [] (fun us ds mz zs => us ++ zs) (by intro z; cases z) (by intro z; cases z) (by intro q hq; cases hq) (fun a b c d => a.append d) (ps := ["view", "side", "default"]) (fun T D doc pm an cdv ct us its mv ws h1 h2 h3 h4 => by
    match us, h1, its, h2, mv, h3, ws, h4 with
    | [u, u2], _, [i], _, [], _, [q], _ => exact ⟨_, rfl, rfl⟩)
  exact ⟨_, h⟩
end
end VG
-- VgRules
set_option Elab.async false
set_option linter.all false
set_option maxRecDepth 100000
set_option maxHeartbeats 4000000
namespace VG
open PySem PySem.Spec PyProof.Rows L2
section
variable {X : Cx} {K : PySem.W.Frag}
/-- range(n) as a value -/
def rRng1 : List V → Hp → VK → Prop := fun vs H Q => ∃ j : Int, vs = [V.int j] ∧ ∀ p, H p = none → Q (.ref p) (upd H p (.rng 0 j))
theorem cr_range1 : CallR X (.type "range") rRng1 := by
  intro pins s σ H vs us Q I r h
  obtain ⟨j, rfl, q⟩ := h
  obtain ⟨u1, rfl, rj⟩ := vals1 r
  obtain ⟨t, rfl⟩ := rj
  refine call_range_1 ⟨.ref s.heap.objs.size, upd H s.heap.objs.size (.rng 0 j), I.laid (t' := s.toks + 1 + 1) (fun b o e => Heap.get?_push_of_some _ e) (Nat.le_refl _) ?_, rfl, q _ (I.hok.fresh (Nat.le_refl _))⟩
  exact ⟨s.toks, t, s.toks + 1, Heap.get?_push_size _ rfl⟩
/-- len of a range -/
def rLenRng : List V → Hp → VK → Prop := fun vs H Q => ∃ (p : Addr) (n : Nat), vs = [.ref p] ∧ H p = some (.rng 0 (n : Int)) ∧ n ≤ 2 ^ 62 ∧ Q (.int (n : Int)) H
theorem cr_len_rng : CallR X (.builtin "len") rLenRng := by
  intro pins s σ H vs us Q I r h
  obtain ⟨p, n, rfl, hp, hn, q⟩ := h
  obtain ⟨u1, rfl, ru⟩ := vals1 r
  obtain rfl : u1 = Value.ref p := ru
  obtain ⟨t, u, v, ho⟩ := I.hok _ _ hp
  refine call_len_range (n := n) (show IsRange s.heap p 0 (n : Int) 1 t u v from ho) (by rw [rangeSize_one]; split <;> omega) (by omega) ⟨.int (n : Int), H, I.tok _, ⟨_, rfl⟩, q⟩
/-- len(x), x an instance of the class C that has its own __len__ -/
def rLenOwn (C : Addr) (sp : Sp) : List V → Hp → VK → Prop := fun vs H Q => ∃ a dx fs, vs = [.ref a] ∧ H a = some (.ins C dx fs) ∧ sp [.ref a] H (fun z H' => ∃ n : Nat, z = .int (n : Int) ∧ n ≤ 2 ^ 62 ∧ Q z H') E0
theorem cr_lenOwn {C f : Addr} {fd : FuncData} {k : Nat} {ps : List Str} {sp : Sp} (hm : Meth X.K C "__len__" f) (F : FnOk X.prog X.w X.K X.mg X.base CX0 k f fd ps sp) (hb : L2.Binds X.K fd ps []) (hr : L2.Room (k + 1) X.A) : CallR X (.builtin "len") (rLenOwn C sp) := by
  intro pins s σ H vs us Q I r h
  obtain ⟨a, dx, fs, rfl, ha, hsp⟩ := h
  obtain ⟨u1, rfl, ru⟩ := vals1 r
  obtain rfl : u1 = Value.ref a := ru
  obtain ⟨mA, O, _⟩ := ins_get I.hok ha
  obtain ⟨od, J, _⟩ := O.look
  have hl : ([Value.ref a] ++ []).length = ps.length := (F.len _ _ _ _ hsp)
  refine Calls.call_function_entry kind_len plain_len entry_len (args_len1 _) ?_
  unfold Builtin.«len»
  refine wpAny_bind (m := oneArg "len" _) (wpAny_pure ?_)
  refine wpAny_bind (m := callSpecial? (.ref a) (Str.ofString "__len__")) (PySem.W.special_fn I.kIn J hm.at_ (beq_iff_eq.mp hm.fn) (wpAny_call (codeAny_mono (F.run X.A.in1 X.stack s H ⟨[.ref a], []⟩ ([.ref a] ++ []) [.ref a] _ E0 hr.in1 I.env0.in1 (hb s [.ref a] I.kIn hl) (show Vals [V.ref a] [Value.ref a] from .cons rfl .nil) hsp) fun r s' hq => ?_)))
  cases r with
  | error e => exact pass0 pins σ H s e s' I hq
  | ok fl =>
    cases fl with
    | ret u =>
      obtain ⟨v, H', I', rv, n, rfl, hn, q⟩ := I.after hq
      obtain ⟨t, rfl⟩ := rv
      refine wpAny_bind (wpAny_holding (wpAny_pure ?_))
      refine wpAny_bind (wpAny_letGo ?_)
      show wpAny _ _ (if (n : Int) < 0 then _ else _) _ _ _
      rw [if_neg (by omega)]
      show wpAny _ _ (if (n : Int) ≥ 2 ^ 63 then _ else _) _ _ _
      rw [if_neg (by omega)]
      exact wpAny_bind (wpAny_mkInt (wpAny_pure ⟨_, rfl, .int (n : Int), H', I'.tok _, ⟨_, rfl⟩, q⟩))
    | next => exact False.elim hq
    | brk => exact False.elim hq
    | cont => exact False.elim hq
theorem tuple_mul1 (l : Addr) (items : Array Value) (n : Nat) (dd : Option Addr) (sl : Array (Option Value)) (u : Tok) :
    Meets (Builtin.«tuple.__mul__» ⟨[.ref l, .int 1 u], []⟩) (fun _ R s => s.heap.get? l = some { cls := .type "tuple", dict := dd, data := .seq items n, slots := sl } ∧ R (.ok (.ret (Value.ref l))) s) :=
  .of_wp fun prog w A R s h => by
    obtain ⟨hp, g, d, tk, os⟩ := s
    obtain ⟨hl, h⟩ := h
    have f1 := AutoSeq1.idx_int
    wp_walk using wpAny_loadPart' hl
    exact ⟨_, rfl, h⟩
/-- t * k, 1 ≤ k -/
def rMulT (K : PySem.W.Frag) : R2 := fun x y H Q => ∃ (l : Addr) (k : Nat) (xs : List V), x = .ref l ∧ y = .int (k : Int) ∧ SqT K H l xs ∧ xs ≠ [] ∧ 1 ≤ k ∧ k ≤ 1000 ∧ xs.length ≤ 1000 ∧ (k = 1 → Q (.ref l) H) ∧ (2 ≤ k → ∀ p, H p = none → Q (.ref p) (upd H p (.tup (List.replicate k xs).flatten)))
theorem op_mulT (hK : X.K = K) : OpR X (binaryOp .Mult) (rMulT K) := by
  subst hK
  intro pins s σ H x y v u Q I rx ry h
  obtain ⟨l, k, xs, rfl, rfl, hT, hne, h1, h2, hz, q1, q2⟩ := h
  by_cases hk : 2 ≤ k
  · exact op_repT pins s σ H (.ref l) (.int (k : Int)) v u Q I rx ry ⟨l, k, xs, rfl, rfl, hT, hne, by omega, by omega, hz, q2 hk⟩
  · have e : k = 1 := by omega
    subst e
    cases rx
    obtain ⟨t, rfl⟩ := ry
    obtain ⟨its, r, ⟨⟨cls, dd, data, sl⟩, ho, hc, n, hd⟩, hs⟩ := I.tuple hT
    simp only at hc hd
    subst hc hd
    exact wpAny_binaryOp_repeat_ref (T := "tuple") (U := "int") (by decide) ⟨_, ho, rfl⟩ (fun s' => typeIs_int s' _ t) noFill_tuple_mul F.fills_int_mul F.slot_int_rmul repeat_tuple F.slot_int_index.lookup
      (call_meets F.slot_int_rmul (typeIs_int s _ t) F.entry_int_rmul (F.args_int_rmul_2 _ _) (int_rmul_tuple _ t l its.toArray n dd sl)
        ⟨ho, rfl, ⟨_, ho, rfl⟩, call_meets F.slot_tuple_mul ⟨_, ho, rfl⟩ F.entry_tuple_mul (F.args_tuple_mul_2 _ _) (tuple_mul1 l its.toArray n dd sl t) ⟨ho, ⟨.ref l, H, I, rfl, q1 rfl⟩⟩⟩)
end
end VG
-- VgMin
set_option Elab.async false
set_option linter.all false
set_option maxRecDepth 100000
set_option maxHeartbeats 4000000
namespace VG
open PySem PySem.Spec PyProof.Rows L2
section
variable {X : Cx} {pins : List (Addr × Obj)} {σ : L2.St} {H : Hp} {s : Shared} {R : Result → Shared → Prop}
/-- what stands at I and S while a builtin's loop runs is ours -/
structure Mine (X : Cx) (pins : List (Addr × Obj)) (H : Hp) (I S : Addr) : Prop where
  fi : FpOk X pins H I
  fs : FpOk X pins H S
  ne : S ≠ I
theorem mine_turn {I S b : Addr} {h' : Heap} {t' : Nat} (V : Inv X pins σ H s) (M : Mine X pins H I S) (hb : b = I ∨ b = S) (k : ∀ c o, c ≠ b → s.heap.get? c = some o → h'.get? c = some o) : Inv X pins σ H { s with heap := h', toks := t' } := by
  have f : FpOk X pins H b := by rcases hb with rfl | rfl; exact M.fi; exact M.fs
  exact V.turned k f.1 f.2.1 f.2.2.2.1 f.2.2.2.2.1 f.2.2.2.2.2
/-- the key's call: the loop's things stay -/
theorem mine_call {I S d : Addr} {k : Nat} {G : Hp → Prop} {sp : Sp} {n : Int} {t : Tok} {oI oS : Obj} {Q : Value → Shared → Prop} {E : Value → Shared → Prop} (V : Inv X pins σ H s) (M : Mine X pins H I S) (hI : s.heap.get? I = some oI) (hS : s.heap.get? S = some oS) (cI : ∀ v, oI.data ≠ .cell v) (cS : ∀ v, oS.data ≠ .cell v)
    (a : Act X.prog X.w X.K X.mg X.base k d G sp) (hr : L2.Room (k + 1) X.A) (g : G H) (hsp : sp [.int n] H (fun v H' => v = .int n ∧ H' = H) E0)
    (h : ∀ s' t', Inv X pins σ H s' → s'.heap.get? I = some oI → s'.heap.get? S = some oS → Q (.int n t') s') : wpAny (model X.prog X.w) X.A.in1 (call (.ref d) [.int n t]) Q E s := by
  have V2 : Inv X (pins ++ pinsAt [I, S] s.heap) σ H s := V.pinned (fun b hb => by
    rcases List.mem_cons.mp hb with rfl | hb
    · exact M.fi
    · rw [List.mem_singleton.mp hb]; exact M.fs) fun b hb => by
    rcases List.mem_cons.mp hb with rfl | hb
    · exact ⟨oI, hI, cI⟩
    · rw [List.mem_singleton.mp hb]; exact ⟨oS, hS, cS⟩
  refine wpAny_call (codeAny_mono (a.run X.A.in1 X.stack s H [.int n t] [.int n] _ hr.in1 V2.env0.in1 g (.cons ⟨t, rfl⟩ .nil) hsp) fun r s' hq => ?_)
  cases r with
  | error e => exact (show False from hq).elim
  | ok fl =>
    cases fl with
    | ret u =>
      obtain ⟨v, H', V3, rv, rfl, rfl⟩ := V2.after hq
      obtain ⟨t', rfl⟩ := rv
      have pI := (V3.pin (I, oI) (List.mem_append_right _ (List.mem_append_right _ (mem_pinsAt (by simp) hI)))).1
      have pS := (V3.pin (S, oS) (List.mem_append_right _ (List.mem_append_right _ (mem_pinsAt (by simp) hS)))).1
      exact h s' t' V3.unpinned pI pS
    | next => exact False.elim hq
    | brk => exact False.elim hq
    | cont => exact False.elim hq
/-- the list as it stands -/
theorem list_now {l : Addr} {ns : List Int} (V : Inv X pins σ H s) (h : SqL X.K H l (ti ns)) : ∃ its : List Value, IntsAre its ns ∧ its.length = ns.length ∧ s.heap.IsList l its.toArray := by
  obtain ⟨its, rv, ⟨o, n, h1, h2, h3, h4⟩, _⟩ := V.list h
  exact ⟨its, ints_of rv, by have := rv.length; rw [ti_len] at this; exact this.symm, ⟨o, h1, h2, n, h4⟩⟩
theorem ints_at : ∀ {vs : List Value} {ns : List Int} {i : Nat} {v : Value}, IntsAre vs ns → vs[i]? = some v → ∃ n t, v = .int n t ∧ ns[i]? = some n
  | _, _, _, _, .nil, h => by simp at h
  | _, _, 0, _, .cons _ _ _, h => by
    have e := Option.some.inj h
    exact ⟨_, _, e.symm, rfl⟩
  | _, _, i + 1, _, .cons _ _ r, h => ints_at (i := i) r h
theorem mn_turns {I S d l : Addr} {k : Nat} {G : Hp → Prop} {sp : Sp} {ns : List Int} (M : Mine X pins H I S) (hl : SqL X.K H l (ti ns)) (hlI : l ≠ I) (hd : X.A.handled = none) (a : Act X.prog X.w X.K X.mg X.base k d G sp) (hr : L2.Room (k + 1) X.A) (g : G H)
    (hsp : ∀ n ∈ ns, sp [.int n] H (fun v H' => v = .int n ∧ H' = H) E0) (fin : ∀ m t s', m ∈ ns → (∀ y ∈ ns, m ≤ y) → Inv X pins σ H s' → R (.ok (.ret (.int m t))) s') :
    ∀ (q j : Nat) (s : Shared) (b : Int) (t t' : Tok) (c : Nat), ns.length - j = q → j ≤ ns.length → Inv X pins σ H s → s.heap.IsListIter I l j → s.heap.get? S = some (seqObj "list" #[.int b t, .int b t'] c) → b ∈ ns → (∀ i y, i < j → ns[i]? = some y → b ≤ y) →
      codeAny (model X.prog X.w) X.A (.builtin "min.loop" ⟨[.ref I, .ref d, .ref S], []⟩) R s := by
  have nm : (toString "min" ++ toString ".loop" : String) = "min.loop" := by decide
  intro q
  induction q with
  | zero =>
    intro j s b t t' c hq hj V it hS hb hbest
    have e : j = ns.length := by omega
    obtain ⟨its, ia, il, hL⟩ := list_now V hl
    have W := Walks.list (prog := X.prog) (w := X.w) (A := X.A.in1) hd I l hlI its.toArray
    refine codeAny_builtin PySem.F.entry_min_loop ?_
    rw [Around.under_plainId PySem.F.plain_min_loop _]
    show wpAny _ X.A.in1 (seqItems? (.ref S) >>= _) _ _ _
    refine wpAny_bind (wpAny_seqItems hS rfl ?_)
    show wpAny _ X.A.in1 (tryCatch (pyNext (.ref I)) _ >>= _) _ _ _
    refine wpAny_bind (wpAny_tryCatch (W.done _ _ _ ⟨by rw [List.size_toArray, il, ← e]; exact it, hL⟩ fun h1 tk k1 => ?_))
    have V1 := mine_turn (t' := tk) V M (.inl rfl) fun c o hc q => k1 c o (by simpa using hc) q
    have hS1 := k1 S _ (by simpa using M.ne) hS
    show wpAny _ X.A.in1 (updateSeq S (fun _ => #[]) >>= _) _ _ _
    refine wpAny_bind (wpAny_updateSeq hS1 rfl (wpAny_bind (wpAny_letGo (wpAny_pure ?_))))
    refine fin b t _ hb (fun y hy => ?_) (mine_turn V1 M (.inr rfl) fun c o hc q => (Heap.get?_update_other _ _ (Ne.symm hc)).trans q)
    obtain ⟨i, hi⟩ := List.mem_iff_getElem?.mp hy
    exact hbest i y (by have := (List.getElem?_eq_some_iff.mp hi).1; omega) hi
  | succ q ih =>
    intro j s b t t' c hq hj V it hS hb hbest
    have lt : j < ns.length := by omega
    obtain ⟨its, ia, il, hL⟩ := list_now V hl
    have W := Walks.list (prog := X.prog) (w := X.w) (A := X.A.in1) hd I l hlI its.toArray
    refine codeAny_builtin PySem.F.entry_min_loop ?_
    rw [Around.under_plainId PySem.F.plain_min_loop _]
    show wpAny _ X.A.in1 (seqItems? (.ref S) >>= _) _ _ _
    refine wpAny_bind (wpAny_seqItems hS rfl ?_)
    show wpAny _ X.A.in1 (tryCatch (pyNext (.ref I)) _ >>= _) _ _ _
    refine wpAny_bind (wpAny_tryCatch (W.item j _ _ _ (by rw [List.size_toArray, il]; exact lt) ⟨it, hL⟩ fun v h1 tk hv st1 k1 => ?_))
    obtain ⟨n, tn', rfl, hn⟩ := ints_at ia (show its[j]? = some v by simpa using hv)
    have hmem := List.mem_of_getElem? hn
    obtain ⟨oI, hoI, hoc, hod⟩ := id st1.1
    have V1 := mine_turn (t' := tk) V M (.inl rfl) fun c o hc q => k1 c o (by simpa using hc) q
    have hS1 := k1 S _ (by simpa using M.ne) hS
    show wpAny _ X.A.in1 (tryCatch (holding [.int n tn'] (call (.ref d) [.int n tn'])) _ >>= _) _ _ _
    refine wpAny_bind (wpAny_tryCatch (wpAny_holding (mine_call V1 M hoI hS1 (fun v z => by rw [hod] at z; cases z) (fun v z => by cases z) a hr g (hsp n hmem) fun s2 t2 V2 hI2 hS2 => ?_)))
    have it2 : s2.heap.IsListIter I l (j + 1) := ⟨oI, hI2, hoc, hod⟩
    show wpAny _ X.A.in1 (tryCatch (holding [.int n tn', .int n t2] (richCompare .Lt (.int n t2) (.int b t') >>= _)) _ >>= _) _ _ _
    refine wpAny_bind (wpAny_tryCatch (wpAny_holding (wpAny_bind (CmpOf.ints_lt (prog := X.prog) (w := X.w) (A := X.A.in1) (P := fun i v => ∃ t, v = .int (if i = 0 then n else b) t) (fun i => if i = 0 then n else b) (fun i v h => h) 0 1 _ _ _ _ _ ⟨t2, rfl⟩ ⟨t', rfl⟩ ?_))))
    refine wpAny_bind (wpAny_holding (wpAny_truthy_bool ?_))
    refine wpAny_bind (wpAny_letGo (wpAny_pure ?_))
    by_cases hlt : n < b
    · have e0 : (if (1 : Nat) = 0 then n else b) = b := if_neg (by decide)
      simp only [e0, hlt, decide_true, if_true]
      refine wpAny_bind ?_
      refine wpAny_updateSeq hS2 rfl (wpAny_bind (wpAny_letGo ?_))
      rw [nm]
      refine wpAny_pure ⟨plainId_quiet PySem.F.plain_min_loop _, ih (j + 1) _ n tn' t2 _ (by omega) lt (mine_turn V2 M (.inr rfl) fun c o hc q => (Heap.get?_update_other _ _ (Ne.symm hc)).trans q) ⟨oI, (Heap.get?_update_other _ _ M.ne).trans hI2, hoc, hod⟩ (get?_update_seq hS2 fun _ => #[.int n tn', .int n t2]) hmem fun i y hi hy => ?_⟩
      by_cases e : i = j
      · subst e
        rw [hn] at hy
        cases hy
        exact Int.le_refl _
      · have := hbest i y (by omega) hy
        omega
    · have e0 : (if (1 : Nat) = 0 then n else b) = b := if_neg (by decide)
      simp only [e0, hlt, decide_false, Bool.false_eq_true, if_true, if_false]
      refine wpAny_bind (wpAny_letGo ?_)
      rw [nm]
      refine wpAny_pure ⟨plainId_quiet PySem.F.plain_min_loop _, ih (j + 1) s2 b t t' c (by omega) lt V2 it2 hS2 hb fun i y hi hy => ?_⟩
      by_cases e : i = j
      · subst e
        rw [hn] at hy
        cases hy
        omega
      · exact hbest i y (by omega) hy
/-- min(l, key=f) -/
def rMinKey (P : Program) (w : World) (K : PySem.W.Frag) (mg : Str → Option Value) (base : Heap) (k : Nat) : List V → List V → Hp → VK → Prop := fun vs zs H Q => ∃ (l d : Addr) (ns : List Int) (G : Hp → Prop) (sp : Sp), vs = [.ref l] ∧ zs = [.ref d] ∧ SqL K H l (ti ns) ∧ ns ≠ [] ∧
  Act P w K mg base k d G sp ∧ G H ∧ (∀ n ∈ ns, sp [.int n] H (fun v H' => v = .int n ∧ H' = H) E0) ∧ ∀ m, m ∈ ns → (∀ y ∈ ns, m ≤ y) → Q (.int m) H
theorem cr_minKey {P : Program} {w : World} {K : PySem.W.Frag} {mg : Str → Option Value} {base : Heap} {k : Nat} (h1 : X.prog = P) (h2 : X.w = w) (h3 : X.K = K) (h4 : X.mg = mg) (h5 : X.base = base) (hr : L2.Room (k + 1) X.A) : CallRK X (.builtin "min") ["key"] (rMinKey P w K mg base k) := by
  subst h1 h2 h3 h4 h5
  have nm : (toString "min" ++ toString ".loop" : String) = "min.loop" := by decide
  intro pins s σ H vs zs us ws Q V r rz h
  obtain ⟨l, d, ns, G, sp, rfl, rfl, hl, hne, a, g, hsp, q⟩ := h
  obtain ⟨its, ia, il, hL⟩ := list_now V hl
  cases rz with
  | cons r1 r2 =>
  cases r2
  cases r1
  rw [Vals.ref1 r]
  have hlt : l < s.heap.objs.size := by obtain ⟨o, h, _⟩ := id hL; exact Heap.lt_size h
  refine kmk_tree PySem.F.kind_min PySem.F.plain_min PySem.F.entry_min (kmk_min_key _ _) ?_
  show wpAny _ X.A.in1 (Builtin.Builtins.bindParams "min" ["key", "default"] 0 ⟨[], [(Str.ofString "key", .ref d)]⟩ >>= _) _ _ s
  refine wpAny_bind (wpAny_of_eq (show Builtin.Builtins.bindParams "min" ["key", "default"] 0 ⟨[], [(Str.ofString "key", .ref d)]⟩ = pure [some (.ref d), none] from rfl) ?_)
  refine wpAny_bind (wpAny_pure ?_)
  refine wpAny_bind (wpAny_pyIter_list hL ?_)
  refine wpAny_bind (wpAny_newList ?_ (Nat.zero_le _))
  rw [nm]
  have hsz : (s.heap.push { cls := .type "list_iterator", data := .fields #[.ref l, .int 0 0] }).objs.size = s.heap.objs.size + 1 := size_push' ..
  have lI : l ≠ s.heap.objs.size := Nat.ne_of_lt hlt
  have nI : H s.heap.objs.size = none := V.hok.fresh (Nat.le_refl _)
  have nS : H (s.heap.push { cls := .type "list_iterator", data := .fields #[.ref l, .int 0 0] }).objs.size = none := V.hok.fresh (by rw [hsz]; omega)
  have M : Mine X pins H s.heap.objs.size (s.heap.push { cls := .type "list_iterator", data := .fields #[.ref l, .int 0 0] }).objs.size := ⟨V.fpOk (Nat.le_refl _) nI, V.fpOk (by rw [hsz]; omega) nS, by rw [hsz]; exact Nat.succ_ne_self _⟩
  have V1 : Inv X pins σ H { s with heap := (s.heap.push { cls := .type "list_iterator", data := .fields #[.ref l, .int 0 0] }).push (seqObj "list" #[] 0) } := V.kept (t' := s.toks) fun b o e => Heap.get?_push_of_some _ (Heap.get?_push_of_some _ e)
  have gI : ((s.heap.push { cls := .type "list_iterator", data := .fields #[.ref l, .int 0 0] }).push (seqObj "list" #[] 0)).get? s.heap.objs.size = some { cls := .type "list_iterator", data := .fields #[.ref l, .int 0 0] } := Heap.get?_push_of_some _ (Heap.get?_push_size _ rfl)
  have gS : ((s.heap.push { cls := .type "list_iterator", data := .fields #[.ref l, .int 0 0] }).push (seqObj "list" #[] 0)).get? (s.heap.push { cls := .type "list_iterator", data := .fields #[.ref l, .int 0 0] }).objs.size = some (seqObj "list" #[] 0) := Heap.get?_push_size _ rfl
  refine wpAny_pure ⟨plainId_quiet PySem.F.plain_min_loop _, ?_⟩
  obtain ⟨its1, ia1, il1, hL1⟩ := list_now V1 hl
  have W := Walks.list (prog := X.prog) (w := X.w) (A := X.A.in1) hr.hd s.heap.objs.size l lI its1.toArray
  have hpos : 0 < ns.length := List.length_pos_iff.mpr hne
  refine codeAny_builtin PySem.F.entry_min_loop ?_
  rw [Around.under_plainId PySem.F.plain_min_loop _]
  show wpAny _ X.A.in1 (seqItems? (.ref _) >>= _) _ _ _
  refine wpAny_bind (wpAny_seqItems gS rfl ?_)
  show wpAny _ X.A.in1 (tryCatch (pyNext (.ref s.heap.objs.size)) _ >>= _) _ _ _
  refine wpAny_bind (wpAny_tryCatch (W.item 0 _ _ _ (by rw [List.size_toArray, il1]; exact hpos) ⟨⟨_, gI, rfl, rfl⟩, hL1⟩ fun v h1 tk hv st1 k1 => ?_))
  obtain ⟨n, tn', rfl, hn⟩ := ints_at ia1 (show its1[0]? = some v by simpa using hv)
  have hmem := List.mem_of_getElem? hn
  obtain ⟨oI, hoI, hoc, hod⟩ := id st1.1
  have V2 := mine_turn (t' := tk) V1 M (.inl rfl) fun c o hc q => k1 c o (by simpa using hc) q
  have hS1 := k1 _ _ (by simpa using M.ne) gS
  show wpAny _ X.A.in1 (tryCatch (holding [.int n tn'] (call (.ref d) [.int n tn'])) _ >>= _) _ _ _
  refine wpAny_bind (wpAny_tryCatch (wpAny_holding (mine_call V2 M hoI hS1 (fun v z => by rw [hod] at z; cases z) (fun v z => by cases z) a hr g (hsp n hmem) fun s2 t2 V3 hI2 hS2 => ?_)))
  show wpAny _ X.A.in1 (updateSeq (s.heap.push { cls := .type "list_iterator", data := .fields #[.ref l, .int 0 0] }).objs.size (fun _ => #[.int n tn', .int n t2]) >>= _) _ _ _
  refine wpAny_bind ?_
  refine wpAny_updateSeq hS2 rfl ?_
  rw [nm]
  refine wpAny_pure ⟨plainId_quiet PySem.F.plain_min_loop _, mn_turns M hl lI hr.hd a hr g hsp (fun m t s' hm hle V' => ⟨.int m, H, V', ⟨t, rfl⟩, q m hm hle⟩) _ 1 _ n tn' t2 _ rfl hpos (mine_turn V3 M (.inr rfl) fun c o hc q => (Heap.get?_update_other _ _ (Ne.symm hc)).trans q) ⟨oI, (Heap.get?_update_other _ _ M.ne).trans hI2, hoc, hod⟩ (get?_update_seq hS2 fun _ => #[.int n tn', .int n t2]) hmem fun i y hi hy => ?_⟩
  have e : i = 0 := by omega
  subst e
  rw [hn] at hy
  cases hy
  exact Int.le_refl _
/-- min([], default=d) -/
def rMinD0 (K : PySem.W.Frag) : List V → List V → Hp → VK → Prop := fun vs zs H Q => ∃ (l : Addr) (x : V), vs = [.ref l] ∧ zs = [x] ∧ SqL K H l [] ∧ Q x H
theorem mn_args (a v : Value) : argsOk "min" ⟨[a], [(Str.ofString "default", v)]⟩ := by unfold argsOk; kernel_rfl
theorem cr_minD0 {K : PySem.W.Frag} (h3 : X.K = K) (hd : X.A.handled = none) : CallRK X (.builtin "min") ["default"] (rMinD0 K) := by
  subst h3
  have nm : (toString "min" ++ toString ".loop" : String) = "min.loop" := by decide
  intro pins s σ H vs zs us ws Q V r rz h
  obtain ⟨l, x, rfl, rfl, hl, q⟩ := h
  obtain ⟨its, ia, il, hL⟩ := list_now (ns := []) V hl
  have e0 : its = [] := List.length_eq_zero_iff.mp il
  subst e0
  cases rz with
  | @cons _ u _ _ r1 r2 =>
  cases r2
  rw [Vals.ref1 r]
  have hlt : l < s.heap.objs.size := by obtain ⟨o, h, _⟩ := id hL; exact Heap.lt_size h
  refine kmk_tree PySem.F.kind_min PySem.F.plain_min PySem.F.entry_min (mn_args _ _) ?_
  show wpAny _ X.A.in1 (Builtin.Builtins.bindParams "min" ["key", "default"] 0 ⟨[], [(Str.ofString "default", u)]⟩ >>= _) _ _ s
  refine wpAny_bind (wpAny_of_eq (show Builtin.Builtins.bindParams "min" ["key", "default"] 0 ⟨[], [(Str.ofString "default", u)]⟩ = pure [none, some u] from rfl) ?_)
  refine wpAny_bind (wpAny_pure ?_)
  refine wpAny_bind (wpAny_pyIter_list hL ?_)
  refine wpAny_bind (wpAny_newList ?_ (Nat.zero_le _))
  rw [nm]
  have hsz : (s.heap.push { cls := .type "list_iterator", data := .fields #[.ref l, .int 0 0] }).objs.size = s.heap.objs.size + 1 := size_push' ..
  have lI : l ≠ s.heap.objs.size := Nat.ne_of_lt hlt
  have nI : H s.heap.objs.size = none := V.hok.fresh (Nat.le_refl _)
  have V1 : Inv X pins σ H { s with heap := (s.heap.push { cls := .type "list_iterator", data := .fields #[.ref l, .int 0 0] }).push (seqObj "list" #[] 0) } := V.kept (t' := s.toks) fun b o e => Heap.get?_push_of_some _ (Heap.get?_push_of_some _ e)
  have nS : H (s.heap.push { cls := .type "list_iterator", data := .fields #[.ref l, .int 0 0] }).objs.size = none := V.hok.fresh (by rw [hsz]; omega)
  have M : Mine X pins H s.heap.objs.size (s.heap.push { cls := .type "list_iterator", data := .fields #[.ref l, .int 0 0] }).objs.size := ⟨V.fpOk (Nat.le_refl _) nI, V.fpOk (by rw [hsz]; omega) nS, by rw [hsz]; exact Nat.succ_ne_self _⟩
  have gI : ((s.heap.push { cls := .type "list_iterator", data := .fields #[.ref l, .int 0 0] }).push (seqObj "list" #[] 0)).get? s.heap.objs.size = some { cls := .type "list_iterator", data := .fields #[.ref l, .int 0 0] } := Heap.get?_push_of_some _ (Heap.get?_push_size _ rfl)
  have gS : ((s.heap.push { cls := .type "list_iterator", data := .fields #[.ref l, .int 0 0] }).push (seqObj "list" #[] 0)).get? (s.heap.push { cls := .type "list_iterator", data := .fields #[.ref l, .int 0 0] }).objs.size = some (seqObj "list" #[] 0) := Heap.get?_push_size _ rfl
  refine wpAny_pure ⟨plainId_quiet PySem.F.plain_min_loop _, ?_⟩
  have hL1 : ((s.heap.push { cls := .type "list_iterator", data := .fields #[.ref l, .int 0 0] }).push (seqObj "list" #[] 0)).IsList l [].toArray := (hL.push _).push _
  have W := Walks.list (prog := X.prog) (w := X.w) (A := X.A.in1) hd s.heap.objs.size l lI [].toArray
  refine codeAny_builtin PySem.F.entry_min_loop ?_
  rw [Around.under_plainId PySem.F.plain_min_loop _]
  show wpAny _ X.A.in1 (seqItems? (.ref _) >>= _) _ _ _
  refine wpAny_bind (wpAny_seqItems gS rfl ?_)
  show wpAny _ X.A.in1 (tryCatch (pyNext (.ref s.heap.objs.size)) _ >>= _) _ _ _
  refine wpAny_bind (wpAny_tryCatch (W.done _ _ _ ⟨⟨_, gI, rfl, rfl⟩, hL1⟩ fun h1 tk k1 => ?_))
  show wpAny _ X.A.in1 (rule "min.default" >>= fun _ => ret u) _ _ _
  refine wpAny_bind (wpAny_rule (wpAny_pure ?_))
  exact ⟨x, H, mine_turn (t' := tk) V1 M (.inl rfl) fun c o hc q => k1 c o (by simpa using hc) q, r1, q⟩
end
end VG
-- VgZip
set_option Elab.async false
set_option linter.all false
set_option maxRecDepth 100000
set_option maxHeartbeats 4000000
namespace VG
open PySem PySem.Spec PyProof.Rows L2
abbrev IsZipS (h : Heap) (z TI TO : Addr) (f0 : Value) : Prop :=
  h.get? z = some { cls := .type "zip", dict := none, data := .fields #[f0, .bool false, .bool true, .ref TI, .ref TO], slots := #[] }
section
variable {prog : Program} {w : World} {A : Around} {E : Value → Shared → Prop} {s : Shared}
theorem draw_item {it l : Addr} {i : Nat} {its : Array Value} {x : Value} {Q : Option Value → Shared → Prop} (hit : s.heap.IsListIter it l i) (hl : s.heap.IsList l its) (hx : its[i]? = some x)
    (hQ : ∀ h', h'.IsListIter it l (i + 1) → Heap.SameBut it s.heap h' → Q (some x) { s with heap := h' }) : wpAny (model prog w) A (Builtin.SmallTypes.nextOrEnd (.ref it)) Q E s := by
  unfold Builtin.SmallTypes.nextOrEnd
  exact wpAny_bind (wpAny_attempt (wpAny_nextOf_list_item hit hl hx fun h' a b => wpAny_pure (hQ h' a b)))
theorem draw_end {it l : Addr} {i : Nat} {its : Array Value} {Q : Option Value → Shared → Prop} (hh : A.handled = none) (hit : s.heap.IsListIter it l i) (hl : s.heap.IsList l its) (hx : its[i]? = none)
    (hQ : ∀ h', Heap.ExtBut it s.heap h' → Q none { s with heap := h' }) : wpAny (model prog w) A (Builtin.SmallTypes.nextOrEnd (.ref it)) Q E s := by
  unfold Builtin.SmallTypes.nextOrEnd
  refine wpAny_bind (wpAny_attempt (wpAny_nextOf_list_end hh hit hl hx fun h' e hs he => ?_))
  obtain ⟨o, ho, hc⟩ := he
  refine wpAny_bind (wpAny_isInstance (T := "StopIteration") (b := true) ⟨o, ho, hc⟩ isSubtype_stop ?_)
  exact wpAny_pure (hQ h' hs)
theorem zipS_item {z TI TO i1 i2 l1 l2 : Addr} {k1 k2 : Nat} {xs ys : Array Value} {x y a b : Value} {Q : Value → Shared → Prop} (D : ZipApart z TI TO i1 i2 l1 l2)
    (hz : IsZipS s.heap z TI TO .none) (hTI : IsPair s.heap TI (.ref i1) (.ref i2)) (hTO : IsPair s.heap TO a b)
    (h1 : s.heap.IsListIter i1 l1 k1) (h2 : s.heap.IsListIter i2 l2 k2) (hl1 : s.heap.IsList l1 xs) (hl2 : s.heap.IsList l2 ys) (hx : xs[k1]? = some x) (hy : ys[k2]? = some y)
    (hQ : ∀ h', IsZipS h' z TI TO (rawInt s.heap.objs.size) → IsPair h' TO x y → h'.IsListIter i1 l1 (k1 + 1) → h'.IsListIter i2 l2 (k2 + 1) → IsPair h' s.heap.objs.size x y → h'.objs.size = s.heap.objs.size + 1 →
      (∀ c o, c ≠ z → c ≠ TO → c ≠ i1 → c ≠ i2 → s.heap.get? c = some o → h'.get? c = some o) → Q (.ref s.heap.objs.size) { s with heap := h' }) :
    wpAny (model prog w) A (Builtin.«zip.__next__» ⟨[.ref z], []⟩) (fun fin s' => ∃ v, fin = .done (.ret v) ∧ Q v s') E s := by
  show wpAny _ _ (field (.ref z) 2 >>= _) _ _ _
  refine wpAny_bind (wpAny_field hz rfl (x := .bool true) rfl ?_)
  show wpAny _ _ (field (.ref z) 3 >>= _) _ _ _
  refine wpAny_bind (wpAny_field hz rfl (x := .ref TI) rfl ?_)
  refine wpAny_bind (wpAny_seqItems hTI rfl ?_)
  show wpAny _ _ (Builtin.SmallTypes.ownedTupleIsFree (.ref z) >>= _) _ _ _
  refine wpAny_bind ?_
  unfold Builtin.SmallTypes.ownedTupleIsFree
  refine wpAny_bind (wpAny_field hz rfl (x := .none) rfl (wpAny_pure ?_))
  simp only [if_true]
  refine wpAny_bind (wpAny_rule ?_)
  refine wpAny_bind (wpAny_field hz rfl (x := .ref TO) rfl ?_)
  refine wpAny_bind (wpAny_setField_rec hz (by simp) fun h₁ hz₁ hs₁ => ?_)
  replace hz₁ : IsZipS h₁ z TI TO .ellipsis := hz₁
  refine wpAny_bind ?_
  simp only [List.zipIdx_cons, List.zipIdx_nil, List.forIn_cons, List.forIn_nil]
  refine wpAny_bind (wpAny_bind (wpAny_onRaise ?_))
  show wpAny _ _ (Builtin.SmallTypes.nextOrEnd (.ref i1)) _ _ _
  refine draw_item (h1.extBut hs₁.extBut D.i1z) (hl1.extBut hs₁.extBut D.l1z) hx fun h₂ h1₂ hs₂ => ?_
  have hTO₂ : IsPair h₂ TO a b := hs₂.extBut _ _ D.TOi1 (hs₁.extBut _ _ D.TOz hTO)
  refine wpAny_bind (wpAny_seqItems hTO₂ rfl ?_)
  refine wpAny_bind (wpAny_updateSeq_pair hTO₂ fun h₃ hTO₃ hs₃ => ?_)
  replace hTO₃ : IsPair h₃ TO x b := hTO₃
  refine wpAny_bind (wpAny_letGo (wpAny_pure ?_))
  refine wpAny_bind (wpAny_bind (wpAny_onRaise ?_))
  show wpAny _ _ (Builtin.SmallTypes.nextOrEnd (.ref i2)) _ _ _
  refine draw_item (((h2.extBut hs₁.extBut D.i2z).extBut hs₂.extBut D.i12.symm).extBut hs₃.extBut D.TOi2.symm)
    (((hl2.extBut hs₁.extBut D.l2z).extBut hs₂.extBut D.l2i1).extBut hs₃.extBut D.l2TO) hy fun h₄ h2₄ hs₄ => ?_
  have hTO₄ : IsPair h₄ TO x b := hs₄.extBut _ _ D.TOi2 hTO₃
  refine wpAny_bind (wpAny_seqItems hTO₄ rfl ?_)
  refine wpAny_bind (wpAny_updateSeq_pair hTO₄ fun h₅ hTO₅ hs₅ => ?_)
  replace hTO₅ : IsPair h₅ TO x y := hTO₅
  refine wpAny_bind (wpAny_letGo (wpAny_pure (wpAny_pure ?_)))
  refine wpAny_bind (wpAny_seqItems hTO₅ rfl ?_)
  refine wpAny_bind (wpAny_newTuple ?_)
  have hsz : h₅.objs.size = s.heap.objs.size := by rw [hs₅.1, hs₄.1, hs₃.1, hs₂.1, hs₁.1]
  have hz₅ : IsZipS h₅ z TI TO .ellipsis := hs₅.extBut _ _ D.TOz.symm (hs₄.extBut _ _ D.i2z.symm (hs₃.extBut _ _ D.TOz.symm (hs₂.extBut _ _ D.i1z.symm hz₁)))
  have hk₅ : ∀ c o, c ≠ z → c ≠ TO → c ≠ i1 → c ≠ i2 → s.heap.get? c = some o → h₅.get? c = some o := fun c o c1 c2 c3 c4 e =>
    hs₅.extBut _ _ c2 (hs₄.extBut _ _ c4 (hs₃.extBut _ _ c2 (hs₂.extBut _ _ c3 (hs₁.extBut _ _ c1 e))))
  have h1₅ : h₅.IsListIter i1 l1 (k1 + 1) := ((h1₂.extBut hs₃.extBut D.TOi1.symm).extBut hs₄.extBut D.i12).extBut hs₅.extBut D.TOi1.symm
  have h2₅ : h₅.IsListIter i2 l2 (k2 + 1) := h2₄.extBut hs₅.extBut D.TOi2.symm
  have hzlt : z < h₅.objs.size := Heap.lt_size hz₅
  show wpAny _ _ (Builtin.SmallTypes.ownedTupleHandOut (.ref z) (.ref h₅.objs.size) >>= _) _ _ _
  refine wpAny_bind ?_
  unfold Builtin.SmallTypes.ownedTupleHandOut
  have hz₆ : IsZipS (h₅.push { cls := .type "tuple", data := .seq #[x, y] }) z TI TO .ellipsis := Heap.get?_push_of_some _ hz₅
  refine wpAny_bind (wpAny_setField_rec hz₆ (by simp) fun h₇ hz₇ hs₇ => ?_)
  replace hz₇ : IsZipS h₇ z TI TO (rawInt h₅.objs.size) := hz₇
  refine wpAny_setField_rec hz₇ (by simp) fun h₈ hz₈ hs₈ => ?_
  replace hz₈ : IsZipS h₈ z TI TO (rawInt h₅.objs.size) := hz₈
  have up : ∀ c o, c ≠ z → h₅.get? c = some o → h₈.get? c = some o := fun c o c1 e => hs₈.extBut _ _ c1 (hs₇.extBut _ _ c1 (Heap.get?_push_of_some _ e))
  have hT₈ : IsPair h₈ h₅.objs.size x y := hs₈.extBut _ _ (Nat.ne_of_gt hzlt) (hs₇.extBut _ _ (Nat.ne_of_gt hzlt) (Heap.get?_push_size _ rfl))
  have hz8 : h₈.objs.size = h₅.objs.size + 1 := by rw [hs₈.1, hs₇.1, Heap.size_push]
  rw [hsz] at hz₈ hT₈ hz8
  refine wpAny_pure ⟨_, rfl, ?_⟩
  show Q (.ref h₅.objs.size) _
  rw [hsz]
  exact hQ h₈ hz₈ (up _ _ D.TOz hTO₅) (h1₅.at fun o e => up _ o D.i1z e) (h2₅.at fun o e => up _ o D.i2z e) hT₈ hz8 fun c o c1 c2 c3 c4 e => up c o c1 (hk₅ c o c1 c2 c3 c4 e)
theorem zipS_end {z TI TO i1 i2 l1 l2 : Addr} {k1 k2 : Nat} {xs ys : Array Value} {a b : Value} {Q : Fin → Shared → Prop} (hh : A.handled = none) (D : ZipApart z TI TO i1 i2 l1 l2)
    (hz : IsZipS s.heap z TI TO .none) (hTI : IsPair s.heap TI (.ref i1) (.ref i2)) (hTO : IsPair s.heap TO a b)
    (h1 : s.heap.IsListIter i1 l1 k1) (h2 : s.heap.IsListIter i2 l2 k2) (hl1 : s.heap.IsList l1 xs) (hl2 : s.heap.IsList l2 ys) (e1 : xs[k1]? = none) (e2 : ys[k2]? = none)
    (hE : ∀ h' e, (∀ c o, c ≠ z → c ≠ TO → c ≠ i1 → c ≠ i2 → s.heap.get? c = some o → h'.get? c = some o) → (∃ o, h'.get? e = some o ∧ o.cls = .type "StopIteration") → E (.ref e) { s with heap := h' }) :
    wpAny (model prog w) A (Builtin.«zip.__next__» ⟨[.ref z], []⟩) Q E s := by
  show wpAny _ _ (field (.ref z) 2 >>= _) _ _ _
  refine wpAny_bind (wpAny_field hz rfl (x := .bool true) rfl ?_)
  show wpAny _ _ (field (.ref z) 3 >>= _) _ _ _
  refine wpAny_bind (wpAny_field hz rfl (x := .ref TI) rfl ?_)
  refine wpAny_bind (wpAny_seqItems hTI rfl ?_)
  show wpAny _ _ (Builtin.SmallTypes.ownedTupleIsFree (.ref z) >>= _) _ _ _
  refine wpAny_bind ?_
  unfold Builtin.SmallTypes.ownedTupleIsFree
  refine wpAny_bind (wpAny_field hz rfl (x := .none) rfl (wpAny_pure ?_))
  simp only [if_true]
  refine wpAny_bind (wpAny_rule ?_)
  refine wpAny_bind (wpAny_field hz rfl (x := .ref TO) rfl ?_)
  refine wpAny_bind (wpAny_setField_rec hz (by simp) fun h₁ hz₁ hs₁ => ?_)
  replace hz₁ : IsZipS h₁ z TI TO .ellipsis := hz₁
  refine wpAny_bind ?_
  simp only [List.zipIdx_cons, List.zipIdx_nil, List.forIn_cons, List.forIn_nil]
  refine wpAny_bind (wpAny_bind (wpAny_onRaise ?_))
  show wpAny _ _ (Builtin.SmallTypes.nextOrEnd (.ref i1)) _ _ _
  refine draw_end hh (h1.extBut hs₁.extBut D.i1z) (hl1.extBut hs₁.extBut D.l1z) e1 fun h₂ hs₂ => ?_
  have hz₂ : IsZipS h₂ z TI TO .ellipsis := hs₂ _ _ D.i1z.symm hz₁
  refine wpAny_bind (wpAny_setField_rec hz₂ (by simp) fun h₃ _ hs₃ => ?_)
  refine wpAny_bind ?_
  wp_delta
  refine wpAny_ite_split (fun hab => absurd hab (by decide)) (fun _ => ?_)
  simp only [List.drop_succ_cons, List.drop_zero, List.zipIdx_cons, List.zipIdx_nil, List.forIn_cons, List.forIn_nil]
  have up₃ : ∀ c o, c ≠ z → c ≠ i1 → s.heap.get? c = some o → h₃.get? c = some o := fun c o c1 c3 x => hs₃.extBut _ _ c1 (hs₂ _ _ c3 (hs₁.extBut _ _ c1 x))
  refine wpAny_bind (wpAny_bind (wpAny_bind ?_))
  refine draw_end hh (h2.at fun o e => up₃ _ o D.i2z D.i12.symm e) (hl2.at fun o e => up₃ _ o D.l2z D.l2i1 e) e2 fun h₄ hs₄ => ?_
  refine wpAny_ite_false (by rfl) ?_
  refine wpAny_pure (wpAny_pure ?_)
  refine wpAny_bind (wpAny_rule ?_)
  unfold Builtin.SmallTypes.stopIteration
  show wpAny _ _ (newExc (.type "StopIteration") [] >>= _) _ _ _
  refine wpAny_bind ?_
  simp only [newExc, newTuple]
  refine wpAny_bind (wpAny_newObj_type ?_ (by size_fits))
  refine wpAny_bind (m := firstArgMember _ _) (wpAny_of_eq (a := Value.none) (by first | rfl | (simp only [firstArgMember]; rfl)) ?_)
  refine wpAny_newObj_type ?_ (by size_fits)
  simp only [raiseNew]
  refine wpAny_bind (wpAny_handled ?_)
  first | rw [show A.in1.handled = none from hh] | rw [hh]
  refine wpAny_bind (wpAny_pure (wpAny_throw ?_))
  exact hE _ _ (fun c o c1 c2 c3 c4 x => Heap.get?_push_of_some _ (Heap.get?_push_of_some _ (hs₄ _ _ c4 (up₃ c o c1 c3 x)))) ⟨_, Heap.get?_push_size _ rfl, rfl⟩
theorem nextS_item {z TI TO i1 i2 l1 l2 : Addr} {k1 k2 : Nat} {xs ys : Array Value} {x y a b : Value} {Q : Option Value → Shared → Prop} (D : ZipApart z TI TO i1 i2 l1 l2)
    (hz : IsZipS s.heap z TI TO .none) (hTI : IsPair s.heap TI (.ref i1) (.ref i2)) (hTO : IsPair s.heap TO a b)
    (h1 : s.heap.IsListIter i1 l1 k1) (h2 : s.heap.IsListIter i2 l2 k2) (hl1 : s.heap.IsList l1 xs) (hl2 : s.heap.IsList l2 ys) (hx : xs[k1]? = some x) (hy : ys[k2]? = some y)
    (hQ : ∀ h', IsZipS h' z TI TO (rawInt s.heap.objs.size) → IsPair h' TO x y → h'.IsListIter i1 l1 (k1 + 1) → h'.IsListIter i2 l2 (k2 + 1) → IsPair h' s.heap.objs.size x y → h'.objs.size = s.heap.objs.size + 1 →
      (∀ c o, c ≠ z → c ≠ TO → c ≠ i1 → c ≠ i2 → s.heap.get? c = some o → h'.get? c = some o) → Q (some (.ref s.heap.objs.size)) { s with heap := h' }) :
    wpAny (model prog w) A (pyNext (.ref z)) Q E s := by
  have hT : s.TypeIs (.ref z) "zip" := ⟨_, hz, rfl⟩
  unfold pyNext
  exact wpAny_bind (wpAny_attempt (wpAny_callSpecial?_slot (name := Str.ofString "__next__") hT F.slot_zip_next
    (wpAny_call_entry F.slot_zip_next hT F.entry_zip_next
      (zipS_item D hz hTI hTO h1 h2 hl1 hl2 hx hy fun h' a1 a2 a3 a4 a5 a6 a7 => wpAny_pure (hQ h' a1 a2 a3 a4 a5 a6 a7)) (F.args_zip_next_1 _))))
theorem nextS_end {z TI TO i1 i2 l1 l2 : Addr} {k1 k2 : Nat} {xs ys : Array Value} {a b : Value} {Q : Option Value → Shared → Prop} (hh : A.handled = none) (D : ZipApart z TI TO i1 i2 l1 l2)
    (hz : IsZipS s.heap z TI TO .none) (hTI : IsPair s.heap TI (.ref i1) (.ref i2)) (hTO : IsPair s.heap TO a b)
    (h1 : s.heap.IsListIter i1 l1 k1) (h2 : s.heap.IsListIter i2 l2 k2) (hl1 : s.heap.IsList l1 xs) (hl2 : s.heap.IsList l2 ys) (e1 : xs[k1]? = none) (e2 : ys[k2]? = none)
    (hQ : ∀ h', (∀ c o, c ≠ z → c ≠ TO → c ≠ i1 → c ≠ i2 → s.heap.get? c = some o → h'.get? c = some o) → Q none { s with heap := h' }) : wpAny (model prog w) A (pyNext (.ref z)) Q E s := by
  have hT : s.TypeIs (.ref z) "zip" := ⟨_, hz, rfl⟩
  unfold pyNext
  refine wpAny_bind (wpAny_attempt (wpAny_callSpecial?_slot (name := Str.ofString "__next__") hT F.slot_zip_next
    (wpAny_call_entry F.slot_zip_next hT F.entry_zip_next (zipS_end hh D hz hTI hTO h1 h2 hl1 hl2 e1 e2 fun h' e hk he => ?_) (F.args_zip_next_1 _))))
  obtain ⟨o, ho, hc⟩ := he
  refine wpAny_bind (wpAny_isInstance (T := "StopIteration") (b := true) ⟨o, ho, hc⟩ isSubtype_stop ?_)
  exact wpAny_pure (hQ _ hk)
theorem ownS {elts : List Expr} {x1} {pos : Pos} {z TI TO T : Addr} {Q : Unit → Shared → Prop} (hz : IsZipS s.heap z TI TO (rawInt T))
    (hQ : ∀ h', IsZipS h' z TI TO .none → Heap.SameBut z s.heap h' → Q () { s with heap := h' }) :
    wpAny (model prog w) A (letOwnedTupleGo (.Tuple elts x1 pos) (.ref z) (.ref T)) Q E s := by
  unfold letOwnedTupleGo
  refine wpAny_bind (wpAny_load hz ?_)
  show wpAny _ _ (if (["enumerate", "zip", "dict_itemiterator", "dict_reverseitemiterator", "odict_iterator", "itertools.zip_longest", "itertools.pairwise"].contains "zip" &&
      (#[rawInt T, .bool false, .bool true, .ref TI, .ref TO] : Array Value)[0]? == some (rawInt T)) = true then _ else _) Q E s
  rw [if_pos (by simp)]
  refine wpAny_bind (wpAny_rule ?_)
  show wpAny _ _ (setField (.ref z) 0 .none) Q E s
  exact wpAny_setField_rec hz (by simp) fun h' hz' hs' => hQ h' hz' hs'
theorem iterS {z TI TO : Addr} {f0 : Value} {Q : Value → Shared → Prop} (hz : IsZipS s.heap z TI TO f0) (h : Q (.ref z) s) : wpAny (model prog w) A (pyIter (.ref z)) Q E s := by
  have hT : s.TypeIs (.ref z) "zip" := ⟨_, hz, rfl⟩
  refine wpAny_pyIter_slot hT F.slot_zip_iter (wpAny_call_entry F.slot_zip_iter hT F.entry_zip_iter ?_ (F.args_zip_iter_1 _))
  show wpAny _ _ (ret (.ref z)) _ _ s
  exact wpAny_pure ⟨_, rfl, "zip", _, hT, F.slot_zip_next.lookup, h⟩
end
abbrev zipS5 (h : Heap) (l1 l2 : Addr) : Heap := (zipH4 h l1 l2).push { cls := .type "zip", data := .fields #[.none, .bool false, .bool true, .ref (zipH2 h l1 l2).objs.size, .ref (zipH3 h l1 l2).objs.size] }
theorem zs_type (a b c : Value) : checkTypeCall "zip" ⟨[a, b], [(Str.ofString "strict", c)]⟩ = pure () := by kernel_rfl
theorem zs_new (a b c : Value) : checkBuiltinCall "zip.__new__" ⟨[.type "zip", a, b], [(Str.ofString "strict", c)]⟩ = pure () := by kernel_rfl
theorem zs_init (o a b c : Value) : argsOk "object.__init__" ⟨[o, a, b], [(Str.ofString "strict", c)]⟩ := by unfold argsOk; kernel_rfl
theorem meets_zipS (l1 l2 : Addr) (xs ys : Array Value) :
    Meets (Builtin.«zip.__new__» ⟨[.type "zip", .ref l1, .ref l2], [(Str.ofString "strict", .bool true)]⟩) (fun _ R s => s.heap.IsList l1 xs ∧ s.heap.IsList l2 ys ∧
      R (.ok (.ret (.ref (zipH4 s.heap l1 l2).objs.size))) { s with heap := zipS5 s.heap l1 l2 }) :=
  .of_wp fun prog w A R s h => by
    obtain ⟨hp, g, d, tk, os⟩ := s; obtain ⟨hl1, hl2, h⟩ := h
    have hsub := sub_zip
    have hL1 : Heap.IsList (Shared.heap ⟨hp, g, d, tk, os⟩) l1 xs := hl1
    have hL2 : Heap.IsList (Shared.heap ⟨hp.push { cls := .type "list_iterator", data := .fields #[.ref l1, .int 0 0] }, g, d, tk, os⟩) l2 ys := Heap.IsList.push hl2 _
    have e2 : (Str.ofString "strict" != ("strict" : Str)) = false := by decide +kernel
    wp_walk using wpAny_pyIter_list hL1, wpAny_pyIter_list hL2
    exact ⟨_, rfl, h⟩
section
variable {prog : Program} {w : World} {A : Around} {E : Value → Shared → Prop} {s : Shared}
theorem call_zipS {l1 l2 : Addr} {xs ys : Array Value} {Q : Value → Shared → Prop} (hl1 : s.heap.IsList l1 xs) (hl2 : s.heap.IsList l2 ys)
    (h : ∀ h', IsZipS h' (s.heap.objs.size + 4) (s.heap.objs.size + 2) (s.heap.objs.size + 3) .none → IsPair h' (s.heap.objs.size + 2) (.ref s.heap.objs.size) (.ref (s.heap.objs.size + 1)) →
      IsPair h' (s.heap.objs.size + 3) .none .none → h'.IsListIter s.heap.objs.size l1 0 → h'.IsListIter (s.heap.objs.size + 1) l2 0 → h'.objs.size = s.heap.objs.size + 5 →
      (∀ c o, s.heap.get? c = some o → h'.get? c = some o) → Q (.ref (s.heap.objs.size + 4)) { s with heap := h' }) :
    wpAny (model prog w) A (call (.type "zip") [.ref l1, .ref l2] [(Str.ofString "strict", .bool true)]) Q E s := by
  refine callType_newKw F.called_zip (by decide) (zs_type _ _ _) (zs_new _ _ _) (fun obj => zs_init obj _ _ _) F.entry_zip_new (meets_zipS l1 l2 xs ys) ⟨hl1, hl2, ?_⟩
  have z1 : (zipH1 s.heap l1).objs.size = s.heap.objs.size + 1 := Heap.size_push ..
  have z2 : (zipH2 s.heap l1 l2).objs.size = s.heap.objs.size + 2 := by rw [Heap.size_push, z1]
  have z3 : (zipH3 s.heap l1 l2).objs.size = s.heap.objs.size + 3 := by rw [Heap.size_push, z2]
  have z4 : (zipH4 s.heap l1 l2).objs.size = s.heap.objs.size + 4 := by rw [Heap.size_push, z3]
  have z5 : (zipS5 s.heap l1 l2).objs.size = s.heap.objs.size + 5 := by rw [Heap.size_push, z4]
  have g5 : (zipS5 s.heap l1 l2).get? (zipH4 s.heap l1 l2).objs.size = some _ := Heap.get?_push_size _ rfl
  have g4 : (zipS5 s.heap l1 l2).get? (zipH3 s.heap l1 l2).objs.size = some _ := Heap.get?_push_of_some _ (Heap.get?_push_size _ rfl)
  have g3 : (zipS5 s.heap l1 l2).get? (zipH2 s.heap l1 l2).objs.size = some _ := Heap.get?_push_of_some _ (Heap.get?_push_of_some _ (Heap.get?_push_size _ rfl))
  have g2 : (zipS5 s.heap l1 l2).get? (zipH1 s.heap l1).objs.size = some _ := Heap.get?_push_of_some _ (Heap.get?_push_of_some _ (Heap.get?_push_of_some _ (Heap.get?_push_size _ rfl)))
  have g1 : (zipS5 s.heap l1 l2).get? s.heap.objs.size = some _ := Heap.get?_push_of_some _ (Heap.get?_push_of_some _ (Heap.get?_push_of_some _ (Heap.get?_push_of_some _ (Heap.get?_push_size _ rfl))))
  show _ ∧ _
  rw [z2, z3, z4] at g5
  rw [z1, z2] at g3
  rw [z3] at g4
  rw [z1] at g2
  rw [z4]
  exact ⟨⟨_, g5, rfl⟩, h _ g5 g3 g4 ⟨_, g1, rfl, rfl⟩ ⟨_, g2, rfl, rfl⟩ z5 fun c o x =>
    Heap.get?_push_of_some _ (Heap.get?_push_of_some _ (Heap.get?_push_of_some _ (Heap.get?_push_of_some _ (Heap.get?_push_of_some _ x))))⟩
end
/-- the lists at a and b, item by item; the end of both -/
def ItzS (K : PySem.W.Frag) (a b : Addr) : It := ⟨(Itz K a b).go, (Itz K a b).yld, fun i H => ∃ xs ys : List V, SqL K H a xs ∧ SqL K H b ys ∧ xs.length ≤ i ∧ ys.length ≤ i⟩
theorem turn_zipS {P : Program} {w : World} {K : PySem.W.Frag} {elts : List Expr} {kk : Nat} {tpos : Pos} {a b z TI TO i1 i2 : Addr} (D : ZipApart z TI TO i1 i2 a b) :
    Turn P w K (.Tuple elts kk tpos) (ItzS K a b) [z, TI, TO, i1, i2] z (fun i h => IsZipS h z TI TO .none ∧ IsPair h TI (.ref i1) (.ref i2) ∧ (∃ x y, IsPair h TO x y) ∧ h.IsListIter i1 a i ∧ h.IsListIter i2 b i) where
  mem := by simp
  obj := fun i h st c hc => by
    obtain ⟨hz, hTI, ⟨x, y, hTO⟩, ⟨o1, e1, _, d1⟩, ⟨o2, e2, _, d2⟩⟩ := st
    have e' : c = z ∨ c = TI ∨ c = TO ∨ c = i1 ∨ c = i2 := by simpa using hc
    rcases e' with q | q | q | q | q
    · rw [q]; exact ⟨_, hz, fun v q => nomatch q⟩
    · rw [q]; exact ⟨_, hTI, fun v q => nomatch q⟩
    · rw [q]; exact ⟨_, hTO, fun v q => nomatch q⟩
    · rw [q]; exact ⟨o1, e1, fun v q => by rw [d1] at q; cases q⟩
    · rw [q]; exact ⟨o2, e2, fun v q => by rw [d2] at q; cases q⟩
  keep := fun i h h' st k => by
    obtain ⟨hz, hTI, ⟨x, y, hTO⟩, h1, h2⟩ := st
    exact ⟨k z (by simp) _ hz, k TI (by simp) _ hTI, ⟨x, y, k TO (by simp) _ hTO⟩, h1.at fun o q => k i1 (by simp) o q, h2.at fun o q => k i2 (by simp) o q⟩
  item := by
    intro X hP hw hK hc i pins s σ H E I hf st hg
    subst hP hw hK
    obtain ⟨hz, hTI, ⟨x0, y0, hTO⟩, h1, h2⟩ := st
    obtain ⟨xs, ys, x, y, hqx, hqy, hx, hy⟩ := hg
    obtain ⟨its, rv, p, _⟩ := I.list hqx
    obtain ⟨its2, rv2, p2, _⟩ := I.list hqy
    obtain ⟨u, hu, ru⟩ := rv.get hx
    obtain ⟨u2, hu2, ru2⟩ := rv2.get hy
    have hzl : z < s.heap.objs.size := Heap.lt_size hz
    refine nextS_item D hz hTI hTO h1 h2 p.isList p2.isList (x := u) (y := u2) (by simpa using hu) (by simpa using hu2) fun h' z' TO' h1' h2' hT hsz hk => ?_
    refine ⟨_, rfl, ownS (s := { s with heap := h' }) z' fun h'' z'' sb => ?_⟩
    have hT2 : h''.get? s.heap.objs.size = some { cls := .type "tuple", data := .seq #[u, u2] } := (sb.2 _ (Nat.ne_of_gt hzl)).trans hT
    have new : ObjOk X.prog X.w (upd H s.heap.objs.size (.tup [x, y])) h'' s.heap.objs.size (.tup [x, y]) :=
      ⟨by show 2 ≤ sizeLine; decide, [u, u2], .cons ru (.cons ru2 .nil), ⟨_, hT2, rfl, _, rfl⟩⟩
    have I1 : Inv X pins σ (upd H s.heap.objs.size (.tup [x, y])) { s with heap := h'' } :=
      I.turnedNew (t' := s.toks) (ch := [z, TI, TO, i1, i2]) (fun c o hb q => (sb.2 c (fun q' => hb (by simp [q']))).trans (hk c o (fun q' => hb (by simp [q'])) (fun q' => hb (by simp [q'])) (fun q' => hb (by simp [q'])) (fun q' => hb (by simp [q'])) q)) hf (Nat.le_refl _) new
    refine ⟨.ref s.heap.objs.size, _, I1, rfl, ⟨_, x, y, rfl, I.hok.fresh (Nat.le_refl _), rfl, fun l hl => by rw [I.list_inj hl hqx]; exact hx, fun l hl => by rw [I.list_inj hl hqy]; exact hy⟩, ⟨z'', ?_, ⟨u, u2, ?_⟩, ?_, ?_⟩, fun c hcm => ?_⟩
    · exact (sb.2 _ D.TIz).trans (hk _ _ D.TIz D.TITO D.TIi1 D.TIi2 hTI)
    · exact (sb.2 _ D.TOz).trans TO'
    · exact h1'.at fun o q => (sb.2 _ D.i1z).trans q
    · exact h2'.at fun o q => (sb.2 _ D.i2z).trans q
    · have hlt : c < s.heap.objs.size := by
        have e' : c = z ∨ c = TI ∨ c = TO ∨ c = i1 ∨ c = i2 := by simpa using hcm
        rcases e' with q | q | q | q | q
        · rw [q]; exact hzl
        · rw [q]; exact Heap.lt_size hTI
        · rw [q]; exact Heap.lt_size hTO
        · rw [q]; obtain ⟨_, e1, _⟩ := h1; exact Heap.lt_size e1
        · rw [q]; obtain ⟨_, e2, _⟩ := h2; exact Heap.lt_size e2
      rw [upd_ne (Nat.ne_of_lt hlt)]
      exact (hf c hcm).1
  done := by
    intro X hP hw hK hc i pins s σ H E I hf st hg
    subst hP hw hK
    obtain ⟨hz, hTI, ⟨x0, y0, hTO⟩, h1, h2⟩ := st
    obtain ⟨xs, ys, hqx, hqy, q1, q2⟩ := hg
    obtain ⟨its, rv, p, _⟩ := I.list hqx
    obtain ⟨its2, rv2, p2, _⟩ := I.list hqy
    have l1 := rv.length
    have l2 := rv2.length
    exact nextS_end (I.ok.hd hc) D hz hTI hTO h1 h2 p.isList p2.isList (by simp; omega) (by simp; omega) fun h' hk => ⟨rfl, I.turnedL (t' := s.toks) (ch := [z, TI, TO, i1, i2]) (fun c o hb q =>
      hk c o (fun q' => hb (by simp [q'])) (fun q' => hb (by simp [q'])) (fun q' => hb (by simp [q'])) (fun q' => hb (by simp [q'])) q) hf⟩
  self := fun A i s Q E st h => iterS st.1 h
theorem callWith_tkw {M : Model} {A : Around} {Q : Value → Shared → Prop} {E : Value → Shared → Prop} {s : Shared} {env : Env} {pos : Pos} {T : String} {e : Expr} {rest : List Expr} {kws : List Keyword}
    (h : wpAny M A (spliced (backTo pos (starEach (e :: rest) env))) (fun vs s₁ => wpAny M A (evalAll ((backToKw pos (keywordEach kws env)).map (·.2)))
      (fun kvs s₂ => wpAny M A (call (.type T) vs (((backToKw pos (keywordEach kws env)).filterMap (·.1)).zip kvs)) Q E s₂) E s₁) E s)
    (he : backTo pos (starEach (e :: rest) env) = (false, eval e env) :: backTo pos (starEach rest env) := by rfl)
    (hplain : (backTo pos (starEach (e :: rest) env)).any (·.1) = false := by rfl)
    (hall : (backToKw pos (keywordEach kws env)).all (·.1.isSome) = true := by rfl)
    (hkw : (backToKw pos (keywordEach kws env)).any (·.1.isNone) = false := by rfl) :
    wpAny M A (callWith pos (.type T) [] (backTo pos (starEach (e :: rest) env)) (backToKw pos (keywordEach kws env))) Q E s := by
  have h2 : wpAny M A (evalArgs (.type T) true (backTo pos (starEach (e :: rest) env)) (backToKw pos (keywordEach kws env))) (fun a s₁ => wpAny M A (call (.type T) a.pos a.kw) Q E s₁) E s := by
    rw [he] at h ⊢
    exact evalArgs_kwB hall h
  unfold callWith
  refine wpAny_bind (wpAny_holding (wpAny_mono h2 (fun a s₁ h₁ => wpAny_bind (wpAny_standAt ?_)) fun _ _ x => x))
  simp only [hplain, hkw, Bool.or_false]
  refine wpAny_bind (wpAny_pure ?_)
  exact wpAny_bind (wpAny_mono h₁ (fun r s₂ hr => wpAny_bind (wpAny_holding (wpAny_point (wpAny_pure hr)))) fun _ _ x => x)
def iZipS (K : PySem.W.Frag) (ta tk : TA) : TI := fun σ H R => ta σ H fun vs H1 => tk σ H1 fun zs H2 => ∃ a b xs ys, vs = [.ref a, .ref b] ∧ zs = [.bl true] ∧ SqL K H2 a xs ∧ SqL K H2 b ys ∧ R (ItzS K a b) H2
theorem pi_zipS {X : Cx} {K : PySem.W.Frag} {e e2 : Expr} {ta tk : TA} {p pos tpos : Pos} {elts : List Expr} {kk : Nat} {kws : List Keyword} (hK : X.K = K) (hg : Gl X "zip") (hm : X.mg "zip" = none) (ha : PA X [e, e2] ta) (hk : PK X kws tk)
    (he : backTo pos (starEach [e, e2] X.env) = (false, eval e X.env) :: backTo pos (starEach [e2] X.env) := by rfl) (hpl : (backTo pos (starEach [e, e2] X.env)).any (·.1) = false := by rfl)
    (hall : (backToKw pos (keywordEach kws X.env)).all (·.1.isSome) = true := by rfl) (hnone : (backToKw pos (keywordEach kws X.env)).any (·.1.isNone) = false := by rfl) (hks : (backToKw pos (keywordEach kws X.env)).filterMap (·.1) = [Str.ofString "strict"] := by rfl) :
    PI X (.Tuple elts kk tpos) (.Call (.Name "zip" p) [e, e2] kws pos) (iZipS K ta tk) := by
  subst hK
  refine ⟨fun pins s σ H R I h => ?_⟩
  refine wpAny_Call_Name_kw (ld_blt I hg hm PyProof.Rows.boot_zip ?_)
  refine callWith_tkw (thn (ha.run pos pins s σ H _ I h) fun us s0 ⟨vs, H0, I0, r0, q0⟩ => thn (hk.run pos pins s0 σ H0 _ I0 q0) fun ws s1 ⟨zs, H1, I1, r2, q1⟩ => ?_) he hpl hall hnone
  rw [hks]
  obtain ⟨a, b, xs, ys, ex, ez, hqx, hqy, q⟩ := q1
  subst ex ez
  cases r2 with
  | cons rb rr =>
  cases rr
  cases rb
  cases r0 with
  | cons r rr =>
  cases rr with
  | cons r' rr =>
  cases rr
  cases r
  cases r'
  have fresh5 : ∀ c, c ∈ [s1.heap.objs.size + 4, s1.heap.objs.size + 2, s1.heap.objs.size + 3, s1.heap.objs.size, s1.heap.objs.size + 1] → FpOk X pins H1 c := fun c hcm => by
    have e' : c = s1.heap.objs.size + 4 ∨ c = s1.heap.objs.size + 2 ∨ c = s1.heap.objs.size + 3 ∨ c = s1.heap.objs.size ∨ c = s1.heap.objs.size + 1 := by simpa using hcm
    have hle : s1.heap.objs.size ≤ c := by
      rcases e' with z | z | z | z | z
      · rw [z]; exact Nat.le_add_right _ _
      · rw [z]; exact Nat.le_add_right _ _
      · rw [z]; exact Nat.le_add_right _ _
      · rw [z]; exact Nat.le_refl _
      · rw [z]; exact Nat.le_add_right _ _
    exact I1.fpOk hle (I1.hok.fresh hle)
  obtain ⟨its, rv, p1, _⟩ := I1.list hqx
  obtain ⟨its2, rv2, p2, _⟩ := I1.list hqy
  refine call_zipS p1.isList p2.isList fun h' hz hTI hTO h1 h2 hsz hk => iterS hz ?_
  have I2 : Inv X pins σ H1 { s1 with heap := h' } := I1.kept (t' := s1.toks) hk
  exact ⟨s1.heap.objs.size + 4, [s1.heap.objs.size + 4, s1.heap.objs.size + 2, s1.heap.objs.size + 3, s1.heap.objs.size, s1.heap.objs.size + 1], _, _, H1, rfl, I2, turn_zipS (PySem.W.ktu_apart s1.heap.objs.size a b p1.lt p2.lt), ⟨hz, hTI, ⟨_, _, hTO⟩, h1, h2⟩, fresh5, q⟩
/-- the walk -/
theorem walk_zipS {K : PySem.W.Frag} {a b : Addr} {xs ys : List V} {n : Nat} (h1 : xs.length = n) (h2 : ys.length = n) : Walk (ItzS K a b) n (fun H => SqL K H a xs ∧ SqL K H b ys) (YPair (fun i => xs[i]?) (fun i => ys[i]?)) :=
  let w := walk_zipL (K := K) (a := a) (b := b) h1 h2
  ⟨w.goes, fun H q => ⟨xs, ys, q.1, q.2, by omega, by omega⟩, w.yields⟩
end VG
-- VgStar
set_option Elab.async false
set_option linter.all false
set_option maxRecDepth 100000
set_option maxHeartbeats 4000000
namespace VG
open PySem PySem.Spec PyProof.Rows L2
section
variable {prog : Program} {w : World} {A : Around} {E : Value → Shared → Prop} {s : Shared}
theorem walks_from (hh : A.handled = none) (I l : Addr) (hne : l ≠ I) (items : Array Value) (j : Nat) (hj : j ≤ items.size) :
    WalksS prog w A I [I, l] [I] (fun a b => a = b) (items.size - j) (fun i v => items[i + j]? = some v) (fun i s => s.heap.IsListIter I l (i + j) ∧ s.heap.IsList l items) where
  sub := fun b hb => by simp at hb; simp [hb]
  grefl := fun _ => rfl
  gtrans := fun _ _ _ a b => a.trans b
  frame := fun i s h' tk st _ hk => ⟨st.1.at fun o e => hk I (by simp) o e, st.2.at fun o e => hk l (by simp) o e⟩
  item := fun i s Q E hi st hQ => by
    have lt : i + j < items.size := by omega
    refine wpAny_pyNext_list_item st.1 st.2 (x := items[i + j]) (by simp [lt]) fun h' hit' hs' => ?_
    have e : i + 1 + j = i + j + 1 := by omega
    exact hQ _ { s with heap := h' } (by simp [lt]) ⟨by rw [e]; exact hit', st.2.extBut hs'.extBut hne⟩ ⟨fun b o hb q => hs'.extBut b o (fun h => hb (by simp [h])) q, rfl, rfl, rfl, Nat.le_refl _⟩
  done := fun s Q E st hQ => by
    have e : items.size - j + j = items.size := by omega
    refine wpAny_pyNext_list_end hh (by have := st.1; rw [e] at this; exact this) st.2 (by simp) fun h' hx => ?_
    exact hQ { s with heap := h' } ⟨fun b o hb q => hx b o (fun h => hb (by simp [h])) q, rfl, rfl, rfl, Nat.le_refl _⟩
  self := fun i s Q E st h => wpAny_pyIter_listiter st.1 h
theorem star_items {l : Addr} {items : List Value} {x : Value} {r : List Value} {Q : List Value → Shared → Prop} (hh : A.handled = none) (hl : s.heap.IsList l items.toArray) (e : items = x :: r) (hz : r.length ≤ sizeLine)
    (hQ : ∀ (s' : Shared), (∀ b o, s.heap.get? b = some o → s'.heap.get? b = some o) → s'.gens = s.gens → s'.drawn = s.drawn → s'.os = s.os → Q [x, .ref s'.heap.objs.size] { s' with heap := s'.heap.push { cls := .type "list", data := .seq r.toArray } }) :
    wpAny (model prog w) A (unpackItems (.ref l) 2 (some 1)) Q E s := by
  have hlt : l ≠ s.heap.objs.size := by obtain ⟨o, ho, _⟩ := id hl; exact Nat.ne_of_lt (Heap.lt_size ho)
  have hsz : items.toArray.size = r.length + 1 := by rw [List.size_toArray, e]; rfl
  unfold unpackItems
  refine wpAny_bind ?_
  unfold notIterableAtAll
  refine wpAny_bind (wpAny_specialOf hl.typeIs slot_list_iter.lookup ?_)
  refine wpAny_pure ?_
  simp only [Bool.false_eq_true, if_false]
  refine wpAny_bind (wpAny_holding (wpAny_pyIter_list hl ?_))
  refine wpAny_bind (wpAny_holding (PySem.W.kun_draw hlt 1 0 _ _ ⟨_, Heap.get?_push_size _ rfl, rfl, rfl⟩ (hl.push _) (by omega) fun h₁ hit₁ hs₁ => ?_))
  have hfst : List.take 1 (List.drop 0 items.toArray.toList) = [x] := by rw [List.drop_zero, List.toList_toArray, e]; rfl
  rw [hfst, if_neg (show ¬ ([x] : List Value).length < 1 by simp)]
  have hl₁ : h₁.IsList l items.toArray := (hl.push _).extBut hs₁.extBut hlt
  have hk₁ : ∀ b o, b ≠ s.heap.objs.size → s.heap.get? b = some o → h₁.get? b = some o := fun b o hb q => hs₁.extBut b o hb (Heap.get?_push_of_some _ q)
  have hsz1 : h₁.objs.size = s.heap.objs.size + 1 := by rw [hs₁.1, Heap.size_push]
  have W := walks_from (prog := prog) (w := w) (A := A.in1) hh s.heap.objs.size l hlt items.toArray 1 (by omega)
  refine wpAny_bind (wpAny_holding (wpAny_collect_iter (.inr (.inr (.inl rfl))) W (fun i s st => by obtain ⟨o, h1, h2, _⟩ := st.1; exact ⟨o, h1, h2⟩) ⟨hit₁, hl₁⟩ (fun b hb => ?_) (by simp) (fun s' acc mv io => ?_) (by omega)))
  · rcases List.mem_cons.mp hb with z | z
    · rw [z]
      show s.heap.objs.size < h₁.objs.size
      rw [hsz1]; exact Nat.lt_succ_self _
    · rw [List.mem_singleton.mp z]
      obtain ⟨o, ho, _⟩ := id hl₁
      exact Heap.lt_size ho
  · have eacc : acc.toList = r := by
      apply List.ext_getElem?
      intro j
      have hs : acc.size = r.length := by rw [io.1, hsz]; omega
      by_cases hj : j < r.length
      · have h1 : acc[j]? = some acc[j] := by simp [show j < acc.size by omega]
        have h2 := io.2 j _ h1
        have h3 : acc.toList[j]? = acc[j]? := by simp
        rw [h3, h1, ← h2, e]
        simp
      · rw [List.getElem?_eq_none (by simp; omega), List.getElem?_eq_none (by omega)]
    rw [eacc]
    have e0 : 2 - 1 - 1 = 0 := rfl
    rw [if_neg (show ¬ r.length < 2 - 1 - 1 by omega)]
    simp only [e0, Nat.sub_zero, List.take_length, List.drop_length]
    refine wpAny_bind (wpAny_newList ?_ hz)
    refine wpAny_pure ?_
    refine hQ s' (fun b o q => ?_) mv.gens.symm mv.drawn mv.os
    have hb : b ≠ s.heap.objs.size := Nat.ne_of_lt (Heap.lt_size q)
    exact mv.heap b o (by simpa using hb) (hk₁ b o hb q)
end
section
variable {X : Cx} {K : PySem.W.Frag} {pos : Pos}
/-- the last target starred -/
theorem pgs_star {e : Expr} {es : List Expr} {p : Pos} {t : TG} {u : TGs} (h1 : PG X e t) (h2 : PGs X es u)
    (hs : (assignEach (.Starred e p :: es) X.env).map (·.2) = assign e X.env :: (assignEach es X.env).map (·.2) := by rfl) : PGs X (.Starred e p :: es) (gCons t u) := by
  refine ⟨fun pins s σ H vs us Q I r h => ?_⟩
  obtain ⟨v, vr, e1, h⟩ := h
  subst e1
  cases r with
  | cons r rr =>
    rw [hs]
    refine assignInOrder_cons (thn (h1.run pins s σ H _ _ _ I r h) fun _ s1 ⟨σ1, H1, I1, q1⟩ => ?_)
    exact h2.run pins s1 σ1 H1 _ _ Q I1 rr q1
/-- (a, *b) = a list -/
def gStar (K : PySem.W.Frag) (t : TGs) : TG := fun v σ H Q => ∃ a x xs, v = .ref a ∧ SqL K H a (x :: xs) ∧ xs.length ≤ 100000 ∧ ∀ r, H r = none → t [x, .ref r] σ (upd H r (.lst xs)) Q
theorem pg_star {es : List Expr} {k : Nat} {t : TGs} (hK : X.K = K) (hc : X.calm = true) (h : PGs X es t) (hn : (assignEach es X.env).length = 2 := by rfl) (hst : (assignEach es X.env).findIdx? (·.1) = some 1 := by rfl) : PG X (.Tuple es k pos) (gStar K t) := by
  subst hK
  refine ⟨fun pins s σ H v u Q I r hw => ?_⟩
  obtain ⟨a, x, xs, e1, hq, hl, hw⟩ := hw
  subst e1
  cases r
  obtain ⟨its, rv, pl, hz⟩ := I.list hq
  have hl' : s.heap.IsList a its.toArray := by
    obtain ⟨o, m, e, c, d, q⟩ := pl
    exact ⟨o, e, c, m, q⟩
  cases rv with
  | @cons _ w0 _ ws r1 r2 =>
  rw [PyProof.Rows.assign_Tuple]
  refine wpAny_bind (wpAny_standAt ?_)
  unfold unpack
  rw [hn, hst]
  have hlen : ws.length ≤ sizeLine := by rw [← r2.length]; exact sz_ok hl
  refine wpAny_bind (wpAny_holding (star_items (I.ok.hd hc) hl' rfl hlen fun s' hk hg hd ho => ?_))
  obtain ⟨hh, g, d, tk, os⟩ := s'
  obtain rfl : g = s.gens := hg
  obtain rfl : d = s.drawn := hd
  obtain rfl : os = s.os := ho
  have I1 : Inv X pins σ H { s with heap := hh, toks := tk } := I.kept hk
  have I2 : Inv X pins σ (upd H hh.objs.size (.lst xs)) { s with heap := hh.push { cls := .type "list", data := .seq ws.toArray }, toks := tk } := I1.laid (t' := tk) (fun b o e => Heap.get?_push_of_some _ e) (Nat.le_refl _) ⟨sz_ok hl, ws, 0, r2, Heap.get?_push_size _ rfl⟩
  exact h.run pins _ σ _ [x, .ref hh.objs.size] _ Q I2 (.cons r1 (.cons rfl .nil)) (hw _ (I1.hok.fresh (Nat.le_refl _)))
end
end VG
-- VgMath2
set_option linter.all false
namespace VG
/-- how many pages of w -/
def nCh (w n : Nat) : Nat := (n + w - 1) / w
/-- the i-th page -/
def chunk (w : Nat) (ns : List Int) (i : Nat) : List Int := (ns.drop (i * w)).take w
theorem chunk_at {w : Nat} {ns : List Int} (i j : Nat) (hj : j < w) : (chunk w ns i)[j]? = ns[i * w + j]? := by
  unfold chunk
  rw [List.getElem?_take_of_lt hj, List.getElem?_drop]
theorem chunk_over {w : Nat} {ns : List Int} (i j : Nat) (hj : w ≤ j) : (chunk w ns i)[j]? = none := by
  unfold chunk
  rw [List.getElem?_eq_none]
  rw [List.length_take]; omega
theorem chunk_len (w : Nat) (ns : List Int) (i : Nat) : (chunk w ns i).length ≤ w := by
  unfold chunk
  rw [List.length_take]; omega
theorem chunk_get {w : Nat} {ns : List Int} (hw : 0 < w) (c : Nat) : (chunk w ns (c / w))[c % w]? = ns[c]? := by
  rw [chunk_at _ _ (Nat.mod_lt c hw), Nat.div_add_mod']
theorem chunk_set {w : Nat} {ns : List Int} (hw : 0 < w) (c : Nat) (v : Int) (i : Nat) : chunk w (ns.set c v) i = if i = c / w then (chunk w ns i).set (c % w) v else chunk w ns i := by
  have hm := Nat.mod_lt c hw
  have hc := Nat.div_add_mod' c w
  apply List.ext_getElem?
  intro j
  by_cases hj : j < w
  · rw [chunk_at _ _ hj, List.getElem?_set]
    by_cases hi : i = c / w
    · rw [if_pos hi, List.getElem?_set, chunk_at _ _ hj]
      by_cases e : c % w = j
      · rw [if_pos (by rw [hi, ← e]; exact hc.symm), if_pos e]
        have hl : (c % w < (chunk w ns i).length) ↔ (c < ns.length) := by
          unfold chunk
          rw [List.length_take, List.length_drop, hi]
          omega
        by_cases l : c < ns.length
        · rw [if_pos (hl.mpr l), if_pos l]
        · rw [if_neg (fun z => l (hl.mp z)), if_neg l]
      · rw [if_neg (by rw [hi]; omega), if_neg e]
    · rw [if_neg hi, chunk_at _ _ hj]
      rw [if_neg]
      intro z
      apply hi
      rw [z, Nat.mul_comm, Nat.mul_add_div hw, Nat.div_eq_of_lt hj, Nat.add_zero]
  · rw [chunk_over _ _ (by omega)]
    split
    · rw [List.getElem?_eq_none]
      rw [List.length_set]
      have := chunk_len w ns i
      omega
    · rw [chunk_over _ _ (by omega)]
theorem div_lt_nCh {w n c : Nat} (hw : 0 < w) (h : c < n) : c / w < nCh w n := by
  unfold nCh
  have h1 : (c / w + 1) ≤ (n + w - 1) / w := by
    rw [Nat.le_div_iff_mul_le hw, Nat.succ_mul]
    have := Nat.div_mul_le_self c w
    omega
  exact h1
theorem lt_of_nCh {w n i : Nat} (hw : 0 < w) (h : i < nCh w n) : i * w < n := by
  unfold nCh at h
  have h1 : (i + 1) * w ≤ n + w - 1 := (Nat.le_div_iff_mul_le hw).mp h
  rw [Nat.succ_mul] at h1
  omega
theorem nCh_le {w n : Nat} (hw : 0 < w) : nCh w n ≤ n := by
  unfold nCh
  by_cases h : n = 0
  · subst h
    rw [Nat.div_eq_of_lt (by omega)]
    exact Nat.le_refl _
  · apply Nat.le_of_lt_succ
    rw [Nat.div_lt_iff_lt_mul hw]
    have : n * 1 ≤ n * w := Nat.mul_le_mul_left _ hw
    rw [Nat.succ_mul]
    omega
theorem n_le_nCh {w n : Nat} (hw : 0 < w) : n ≤ nCh w n * w := by
  unfold nCh
  have h1 := Nat.div_add_mod' (n + w - 1) w
  have h2 := Nat.mod_lt (n + w - 1) hw
  omega
theorem chunks_take {w : Nat} {ns : List Int} : ∀ m : Nat, (List.range m).flatMap (chunk w ns) = ns.take (m * w)
  | 0 => by simp
  | m + 1 => by
    rw [List.range_succ, List.flatMap_append, chunks_take m, Nat.succ_mul, List.take_add]
    simp [chunk]
theorem chunks_flat {w : Nat} {ns : List Int} (hw : 0 < w) : (List.range (nCh w ns.length)).flatMap (chunk w ns) = ns := by
  rw [chunks_take, List.take_of_length_le (n_le_nCh hw)]
end VG
-- VgMath3
set_option linter.all false
namespace VG
def toI (ns : List Nat) : List Int := ns.map fun n : Nat => (n : Int)
/-- the begin and the strides as a view tells them -/
def nb (ls : List Nat) (b : Int) : Int := if sz ls = 0 then 0 else b
def nst1 : List Nat → List Int → List Int
  | l :: ls, s :: ss => (if l = 1 then 0 else s) :: nst1 ls ss
  | _, _ => []
def nst (ls : List Nat) (ss : List Int) : List Int := if sz ls = 0 then List.replicate ls.length 0 else nst1 ls ss
theorem nst1_len : ∀ (ls : List Nat) (ss : List Int), ss.length = ls.length → (nst1 ls ss).length = ls.length
  | [], [], _ => rfl
  | l :: ls, s :: ss, h => congrArg Nat.succ (nst1_len ls ss (by simpa using h))
  | [], _ :: _, h => by simp at h
  | _ :: _, [], h => by simp at h
theorem nst_len {ls : List Nat} {ss : List Int} (h : ss.length = ls.length) : (nst ls ss).length = ls.length := by
  unfold nst
  split
  · simp
  · exact nst1_len ls ss h
theorem dot_nst1 : ∀ (ls : List Nat) (ss : List Int) (p : List Nat), Inb p ls → ss.length = ls.length → dot p (nst1 ls ss) = dot p ss
  | [], [], [], _, _ => rfl
  | l :: ls, s :: ss, k :: p, h, e => by
    have ih := dot_nst1 ls ss p h.2 (by simpa using e)
    simp only [nst1, dot, ih]
    by_cases h1 : l = 1
    · have hk : k = 0 := by have := h.1; omega
      subst hk
      simp
    · rw [if_neg h1]
  | [], _ :: _, _, _, h => by simp at h
  | _ :: _, [], _, _, h => by simp at h
  | _ :: _, _ :: _, [], h, _ => h.elim
  | [], [], _ :: _, h, _ => h.elim
theorem cells_zero {ls : List Nat} (h : sz ls = 0) (b : Int) (ss : List Int) : cells ls b ss = [] := by
  unfold cells; rw [places_zero h]; rfl
theorem cells_norm {ls : List Nat} {ss : List Int} (b : Int) (h : ss.length = ls.length) : cells ls (nb ls b) (nst ls ss) = cells ls b ss := by
  by_cases z : sz ls = 0
  · rw [cells_zero z, cells_zero z]
  · unfold cells nb nst
    rw [if_neg z, if_neg z]
    refine List.map_congr_left fun p hp => ?_
    unfold cellAt
    rw [dot_nst1 ls ss p (mem_places.mp hp) h]
theorem cells_len (ls : List Nat) (b : Int) (ss : List Int) : (cells ls b ss).length = sz ls := by
  unfold cells; rw [List.length_map, places_len]
theorem cells_nil (b : Int) : cells [] b [] = [b] := by
  simp [cells, places, cellAt, dot]
theorem cells_take {ls : List Nat} {ss : List Int} {i n : Nat} {s : Int} (b : Int) (h : ss.length = ls.length) (hn : ls[i]? = some n) (hs : ss[i]? = some s) :
    cells (ls.take (i + 1)) b (ss.take (i + 1)) = (cells (ls.take i) b (ss.take i)).flatMap fun c => (List.range n).map fun k : Nat => c + s * (k : Int) := by
  have e1 : ls.take (i + 1) = ls.take i ++ [n] := by rw [List.take_add_one, hn]; rfl
  have e2 : ss.take (i + 1) = ss.take i ++ [s] := by rw [List.take_add_one, hs]; rfl
  rw [e1, e2]
  refine cells_snoc _ _ _ _ _ ?_
  rw [List.length_take, List.length_take, h]
theorem dot_dense : ∀ (ls p : List Nat), Inb p ls → dot p (toI (dense ls)) = (idx ls p : Int)
  | [], [], _ => rfl
  | l :: ls, k :: p, h => by
    have ih := dot_dense ls p h.2
    simp only [toI] at ih
    simp only [dense, toI, List.map_cons, dot, idx, ih]
    simp
  | [], _ :: _, h => h.elim
  | _ :: _, [], h => h.elim
theorem cells_dense (ls : List Nat) : cells ls 0 (toI (dense ls)) = toI (List.range (sz ls)) := by
  apply List.ext_getElem?
  intro i
  unfold cells toI
  rw [List.getElem?_map, List.getElem?_map]
  cases h : (places ls)[i]? with
  | none =>
    have := List.getElem?_eq_none_iff.mp h
    rw [places_len] at this
    rw [List.getElem?_eq_none (by rw [List.length_range]; exact this)]
    rfl
  | some p =>
    have hi := (List.getElem?_eq_some_iff.mp h).1
    rw [places_len] at hi
    rw [List.getElem?_range hi]
    have hp := mem_places.mp (List.mem_of_getElem? h)
    have e := idx_at h
    show some (cellAt 0 (toI (dense ls)) p) = some ((i : Nat) : Int)
    unfold cellAt
    rw [dot_dense ls p hp, e, Int.zero_add]
/-- what stands in the cell c -/
def at0 (ns : List Int) (c : Int) : Int := ns.getD c.toNat 0
theorem at0_of {ns : List Int} {c : Int} (h0 : 0 ≤ c) (h1 : c < ns.length) : ns[c.toNat]? = some (at0 ns c) := by
  unfold at0
  have : c.toNat < ns.length := by omega
  rw [List.getD_eq_getElem?_getD, List.getElem?_eq_getElem this]
  rfl
def pick (ns C : List Int) : List Int := C.map (at0 ns)
theorem pick_range (ns : List Int) : pick ns (toI (List.range ns.length)) = ns := by
  apply List.ext_getElem?
  intro i
  unfold pick toI
  rw [List.map_map, List.getElem?_map]
  by_cases h : i < ns.length
  · rw [List.getElem?_range h]
    have := at0_of (ns := ns) (c := (i : Int)) (by omega) (by omega)
    rw [show ((i : Nat) : Int).toNat = i by omega] at this
    rw [this]
    rfl
  · rw [List.getElem?_eq_none (by rw [List.length_range]; omega), List.getElem?_eq_none (by omega)]
    rfl
/-- all cells within the room -/
def Within (C : List Int) (n : Nat) : Prop := ∀ c ∈ C, 0 ≤ c ∧ c < n
theorem within_range (n : Nat) : Within (toI (List.range n)) n := by
  intro c hc
  obtain ⟨k, hk, rfl⟩ := List.mem_map.mp hc
  have := List.mem_range.mp hk
  omega
end VG
-- VgRooms
set_option Elab.async false
set_option linter.all false
set_option maxRecDepth 100000
set_option maxHeartbeats 4000000
namespace VG
open PySem PySem.Spec PyProof.Rows L2
/-- a room: its fields, its pages ps, their lists ks, hd: by how many rooms each is held -/
structure RmP (K : PySem.W.Frag) (H : Hp) (a : Addr) (w : Nat) (ns : List Int) (pl : Addr) (c s : Int) (ps ks : List Addr) (hd : Nat → Int) : Prop where
  w0 : 0 < w
  w1 : w ≤ 64
  ob : RmO K H a ns.length w pl c s
  pl : H pl = some (.lst (ps.map V.ref))
  lp : ps.length = nCh w ns.length
  lk : ks.length = nCh w ns.length
  pg : ∀ (i : Nat) p k, ps[i]? = some p → ks[i]? = some k → PgO K H p k (hd i) ∧ H k = some (.lst (ti (chunk w ns i)))
theorem pF {f : Str} {v : V} {fs : List (Str × V)} {k : Nat} (h : fs.length ≤ k) : (putF f v fs).length ≤ k + 1 := Nat.le_trans (length_putF f v fs) (Nat.succ_le_succ h)
def foot (a pl : Addr) (ps ks : List Addr) (b : Addr) : Prop := b = a ∨ b = pl ∨ b ∈ ps ∨ b ∈ ks
theorem RmP.keep {K : PySem.W.Frag} {H H' : Hp} {a pl : Addr} {w : Nat} {ns : List Int} {c s : Int} {ps ks : List Addr} {hd : Nat → Int} (r : RmP K H a w ns pl c s ps ks hd) (k : ∀ b o, foot a pl ps ks b → H b = some o → H' b = some o) : RmP K H' a w ns pl c s ps ks hd :=
  ⟨r.w0, r.w1, let ⟨dx, h⟩ := r.ob; ⟨dx, k _ _ (.inl rfl) h⟩, k _ _ (.inr (.inl rfl)) r.pl, r.lp, r.lk, fun i p q e1 e2 =>
    let ⟨⟨dx, h1⟩, h2⟩ := r.pg i p q e1 e2; ⟨⟨dx, k _ _ (.inr (.inr (.inl (List.mem_of_getElem? e1)))) h1⟩, k _ _ (.inr (.inr (.inr (List.mem_of_getElem? e2)))) h2⟩⟩
section
variable {P : Program} {w : World} {K : PySem.W.Frag} {mg : Str → Option Value} {base : Heap}
def spPageInit (K : PySem.W.Frag) : Sp := fun vs H Q _ => ∃ x dx k, vs = [.ref x, .ref k] ∧ H x = some (.ins (He.ga K "Page") dx []) ∧ Q .non (upd H x (.ins (He.ga K "Page") dx (pageF k 1)))
theorem ok_Page_init (T : Tx K mg) : Ini P w K mg base 1 "Page" ["self", "kept"] [] (spPageInit K) := by
  obtain ⟨fd, F⟩ := f_Page_init T
  refine ⟨⟨_, fd, [], mk_Page T, fn_ok F sc_Page_init (fun vs H Q E h => ?_) (fun cdv A outer s H vs Q E hr h => ?_), g_Page T, F.bindsN (fun _ _ _ _ _ _ us hl => match us, hl with | [_, _], _ => rfl), .nil⟩⟩
  · obtain ⟨x, dx, k, rfl, _⟩ := h; rfl
  · obtain ⟨x, dx, k, rfl, hx, q⟩ := h
    refine ⟨_, (pss_cons (ps_fld (pv 0) (pv 1) rfl)
    (pss_one (ps_fld (pv 0) pe_int rfl))), ?_⟩
    refine ⟨_, rfl, _, rfl, x, _, dx, [], rfl, hx, cl_Page T, no_Page_kept T, by decide, ?_⟩
    refine ⟨_, rfl, x, _, dx, _, rfl, upd_same, cl_Page T, no_Page_holders T, Nat.lt_of_le_of_lt (pF (k := 0) (Nat.le_refl _)) (by decide), ?_⟩
    rw [upd_upd]
    exact q
theorem sql_keep {K : PySem.W.Frag} {H H' : Hp} {a : Addr} {xs : List V} (h : SqL K H a xs) (k : ∀ o, H a = some o → H' a = some o) : SqL K H' a xs := by
  rcases h with (h | ⟨o, h⟩) | h
  · exact .inl (.inl (k _ h))
  · exact .inl (.inr ⟨o, k _ h⟩)
  · exact .inr h
theorem sqt_keep {K : PySem.W.Frag} {H H' : Hp} {a : Addr} {xs : List V} (h : SqT K H a xs) (k : ∀ o, H a = some o → H' a = some o) : SqT K H' a xs := by
  rcases h with (h | ⟨o, h⟩) | h
  · exact .inl (.inl (k _ h))
  · exact .inl (.inr ⟨o, k _ h⟩)
  · exact .inr h
/-- chunks of a range -/
theorem rgC {n wd : Nat} (hw : 0 < wd) (hn : n ≤ 20000) (hw2 : wd ≤ 64) : RgC 0 (n : Int) (wd : Int) (nCh wd n) := by
  have e : Builtin.Range.rangeSize 0 (n : Int) (wd : Int) = nCh wd n := by
    unfold Builtin.Range.rangeSize nCh
    rw [if_pos (by omega)]
    by_cases h : n = 0
    · subst h
      rw [if_neg (by omega), Nat.div_eq_of_lt (by omega)]
      rfl
    · rw [if_pos (by omega)]
      have e1 : (n : Int) - 0 - 1 = ((n - 1 : Nat) : Int) := by omega
      have e2 : n + wd - 1 = (n - 1) + wd := by omega
      rw [e1, e2, Nat.add_div_right _ hw]
      simp
  refine ⟨by omega, by omega, ?_, e⟩
  unfold Builtin.Range.small
  rw [e]
  have := nCh_le (n := n) hw
  simp [Builtin.Range.rangeFitsLong]
  refine ⟨⟨⟨by omega, by omega⟩, by omega⟩, .inr ?_⟩
  rw [if_pos hw]
  constructor <;> omega
theorem cut_mid {xs : List V} (a b : Nat) : cutV xs (some (0 + (a : Int))) (some (0 + (a : Int) + (b : Int))) = (xs.drop a).take b := by
  have e1 : (0 : Int) + (a : Int) = ((a : Nat) : Int) := by omega
  have e2 : ((a : Nat) : Int) + (b : Int) = ((a + b : Nat) : Int) := by omega
  unfold cutV
  rw [e1, e2, HT.sIx_nat, HT.sIx_nat]
  by_cases h : a ≤ xs.length
  · rw [Nat.min_eq_left h]
    by_cases h2 : a + b ≤ xs.length
    · rw [Nat.min_eq_left h2]
      congr 1
      omega
    · rw [Nat.min_eq_right (by omega)]
      rw [List.take_of_length_le (by rw [List.length_drop]; omega), List.take_of_length_le (by rw [List.length_drop]; omega)]
  · rw [Nat.min_eq_right (by omega), Nat.min_eq_right (by omega), List.drop_length, List.drop_eq_nil_of_le (by omega)]
    simp
theorem snoc_at {α : Type} {l : List α} {a b : α} {i : Nat} (h : (l ++ [a])[i]? = some b) : (i < l.length ∧ l[i]? = some b) ∨ (i = l.length ∧ a = b) := by
  by_cases hi : i < l.length
  · rw [List.getElem?_append_left hi] at h
    exact .inl ⟨hi, h⟩
  · rw [List.getElem?_append_right (by omega)] at h
    cases q : i - l.length with
    | zero =>
      rw [q] at h
      exact .inr ⟨by omega, by simpa using h⟩
    | succ m => rw [q] at h; simp at h
theorem nodup_snoc {α : Type} {l : List α} {a : α} (h : l.Nodup) (n : a ∉ l) : (l ++ [a]).Nodup := by
  rw [List.nodup_append]
  exact ⟨h, by simp, fun x hx y hy e => n (by rw [List.mem_singleton.mp hy] at e; rw [← e]; exact hx)⟩
/-- the room is made of numbers -/
def spRoomInit (K : PySem.W.Frag) : Sp := fun vs H Q _ => ∃ x dx nl ns wd, vs = [.ref x, .ref nl, .int ((wd : Nat) : Int)] ∧ H x = some (.ins (He.ga K "Room") dx []) ∧ (SqL K H nl (ti ns) ∨ (SqT K H nl (ti ns) ∧ ns = [])) ∧ nl ≠ x ∧ 0 < wd ∧ wd ≤ 64 ∧ ns.length ≤ 20000 ∧
  ∀ H' pl ps ks, (∀ b o, b ≠ x → H b = some o → H' b = some o) → RmP K H' x wd ns pl 0 0 ps ks (fun _ => 1) → ps.Nodup → ks.Nodup → pl ∉ ks → (∀ b, b = pl ∨ b ∈ ps ∨ b ∈ ks → H b = none) → Q .non H'
theorem fn_Room_init (T : Tx K mg) {fd : FuncData} (F : FunR K d_Room_init fd) : FnOk P w K mg base CX0 3 (He.fAd K d_Room_init.at_) fd ["self", "numbers", "page"] (spRoomInit K) := by
  refine fn_ok F sc_Room_init (fun vs H Q E h => ?_) (fun cdv A outer s H vs Q E hr h => ?_)
  · obtain ⟨x, dx, nl, ns, wd, rfl, _⟩ := h; rfl
  · obtain ⟨x, dx, nl, ns, wd, rfl, hx, hnl, hne, h0, h64, hz, q⟩ := h
    refine ⟨_, (pss_cons (ps_fld (pv 0) (pe_callB (call_lenK (K := K) rfl) (by rfl) (z_len T) (by decide +kernel) (pa_cons (pv 1) pa_nil)) rfl)
    (pss_cons (ps_fld (pv 0) (pv 2) rfl)
    (pss_cons (ps_fld (pv 0) (pe_lc (own := [("at", 3)]) (tt := tYes) rfl sc_Room_init.nd (pi_range3 (by rfl) (z_range T) (pa_cons pe_int (pa_cons (pe_callB (call_lenK (K := K) rfl) (by rfl) (z_len T) (by decide +kernel) (pa_cons (pv 1) pa_nil)) (pa_cons (pv 2) pa_nil)))) (blkOk_by (own := [("at", 3)]) (sc := defScope s_Room_init) (N := n_Room_init) (by decide +kernel)) (fun _ _ _ _ _ => (pg_name (i := 3) sc_Room_init.nd rfl (by first | exact Or.inl rfl | exact Or.inr rfl))) (fun _ _ _ _ _ => pts_nil) (fun _ _ _ _ _ => (pe_mkK (K := K) (P := P) (w := w) (mg := mg) (base := base) ((ok_Page_init T).mono (by omega)) rfl rfl rfl rfl rfl hr (by rfl) (pa_cons (pe_callTy (call_listK (K := K) rfl) (by rfl) (z_list T) (by decide +kernel) (pa_cons (pe_slice (sl_LK (K := K) rfl) (pv 1) (po_some (pv 3)) (po_some (pe_op op_add (pv 3) (pv 2)))) pa_nil)) pa_nil)))) rfl)
    (pss_cons (ps_fld (pv 0) pe_int rfl)
    (pss_one (ps_fld (pv 0) pe_int rfl)))))), ?_⟩
    have hq : SqL K H nl (ti ns) ∨ SqT K H nl (ti ns) := hnl.imp id fun h => h.1
    refine ⟨_, rfl, nl, _, rfl, hq, _, rfl, x, _, dx, [], rfl, hx, cl_Room T, no_Room_many T, by decide, ?_⟩
    refine ⟨_, rfl, _, rfl, x, _, dx, _, rfl, upd_same, cl_Room T, no_Room_width T, Nat.lt_of_le_of_lt (pF (k := 0) (Nat.le_refl _)) (by decide), ?_⟩
    rw [upd_upd, ti_len]
    have hk : ∀ o, H nl = some o → (upd H x (.ins (He.ga K "Room") dx (putF "width" (.int (wd : Int)) (putF "many" (.int (ns.length : Int)) [])))) nl = some o := fun o e => by rw [upd_ne hne]; exact e
    have hq2 := hq.imp (fun h => sql_keep h hk) (fun h => sqt_keep h hk)
    refine ⟨_, rfl, nl, _, rfl, hq2, _, rfl, _, _, _, nCh wd ns.length, by rw [ti_len], rgC h0 hz h64, fun D hD => ?_⟩
    generalize hH2 : upd H x (.ins (He.ga K "Room") dx (putF "width" (.int (wd : Int)) (putF "many" (.int (ns.length : Int)) []))) = H2 at hq2 hD hk
    refine lc_it walk_rangeC (fun i H3 => (∀ b o, H2 b = some o → H3 b = some o) ∧ ∃ ps ks : List Addr, H3 D = some (.lst (ps.map V.ref)) ∧ ps.length = i ∧ ks.length = i ∧ ps.Nodup ∧ ks.Nodup ∧ D ∉ ks ∧ (∀ b, b ∈ ps ∨ b ∈ ks → H2 b = none) ∧
      ∀ (j : Nat) p k, ps[j]? = some p → ks[j]? = some k → PgO K H3 p k 1 ∧ H3 k = some (.lst (ti (chunk wd ns j))))
      ⟨Same.new hD, [], [], upd_same, rfl, rfl, .nil, .nil, by simp, by simp, fun j p k e => by simp at e⟩ (fun _ _ _ _ => trivial) ?_ ?_
    · rintro i y H3 H4 hi ⟨s3, ps, ks, hD3, l1, l2, nd1, nd2, nD, fr, pg⟩ ⟨rfl, rfl⟩
      refine ⟨rfl, ?_⟩
      simp only [tYes, if_true]
      have hL : SqL K H nl (ti ns) := by
        rcases hnl with h | ⟨_, h⟩
        · exact h
        · rw [h] at hi
          have := lt_of_nCh h0 hi
          exact absurd this (by show ¬ _ < 0; omega)
      have hL4 : SqL K H4 nl (ti ns) := sql_keep hL fun o e => s3 _ _ (hk o e)
      refine ⟨_, rfl, _, rfl, _, rfl, _, rfl, _, rfl, _, _, rfl, rfl, _, rfl, nl, _, rfl, hL4, fun t ht => ?_⟩
      refine ⟨t, _, rfl, .inl (SqL.of upd_same), fun k hk2 p dp hp hdp hpd => ⟨p, dp, k, rfl, upd_same, rfl, ?_⟩⟩
      rw [upd_upd]
      have hcut : cutV (ti ns) (some (0 + (i : Int) * (wd : Int))) (some (0 + (i : Int) * (wd : Int) + (wd : Int))) = ti (chunk wd ns i) := by
        have e : (i : Int) * (wd : Int) = ((i * wd : Nat) : Int) := (Int.natCast_mul ..).symm
        rw [e, cut_mid]
        unfold chunk ti
        rw [List.map_take, List.map_drop]
      have s5 : Same H4 (upd (upd (upd (upd H4 t (.lst (cutV (ti ns) (some (0 + (i : Int) * (wd : Int))) (some (0 + (i : Int) * (wd : Int) + (wd : Int)))))) k (.lst (cutV (ti ns) (some (0 + (i : Int) * (wd : Int))) (some (0 + (i : Int) * (wd : Int) + (wd : Int)))))) dp (.own p)) p (.ins (He.ga K "Page") dp (pageF k 1))) :=
        (((Same.new ht).trans (Same.new hk2)).trans (Same.new hdp)).trans (Same.new (by rw [upd_ne (Ne.symm hpd)]; exact hp))
      have k4 : H4 k = none := (Same.new ht).free hk2
      have p4 : H4 p = none := ((Same.new ht).trans (Same.new hk2)).free hp
      have pk : k ≠ p := ne_of_none upd_same hp
      have kd : k ≠ dp := ne_of_none upd_same hdp
      generalize hH7 : upd (upd (upd (upd H4 t (.lst (cutV (ti ns) (some (0 + (i : Int) * (wd : Int))) (some (0 + (i : Int) * (wd : Int) + (wd : Int)))))) k (.lst (cutV (ti ns) (some (0 + (i : Int) * (wd : Int))) (some (0 + (i : Int) * (wd : Int) + (wd : Int)))))) dp (.own p)) p (.ins (He.ga K "Page") dp (pageF k 1)) = H7 at s5 ⊢
      have hp7 : H7 p = some (.ins (He.ga K "Page") dp (pageF k 1)) := by rw [← hH7]; exact upd_same
      have hk7 : H7 k = some (.lst (ti (chunk wd ns i))) := by rw [← hH7, upd_ne pk, upd_ne kd, upd_same, hcut]
      have hD7 := s5 _ _ hD3
      have nDp : p ≠ D := (ne_of_none hD3 p4).symm
      have nDk : k ≠ D := (ne_of_none hD3 k4).symm
      have tr : ∀ (j : Nat) p k, ps[j]? = some p → ks[j]? = some k → PgO K H4 p k 1 ∧ H4 k = some (.lst (ti (chunk wd ns j))) := pg
      have np : p ∉ ps := fun z => by
        obtain ⟨j, e1⟩ := List.mem_iff_getElem?.mp z
        have hj := (List.getElem?_eq_some_iff.mp e1).1
        obtain ⟨⟨d', a⟩, _⟩ := tr j p (ks[j]'(by omega)) e1 (by simp [show j < ks.length by omega])
        rw [p4] at a; cases a
      have nk : k ∉ ks := fun z => by
        obtain ⟨j, e1⟩ := List.mem_iff_getElem?.mp z
        have hj := (List.getElem?_eq_some_iff.mp e1).1
        obtain ⟨_, a⟩ := tr j (ps[j]'(by omega)) k (by simp [show j < ps.length by omega]) e1
        rw [k4] at a; cases a
      refine ⟨ps.map V.ref, hD7, sz_lt (by rw [List.length_map]; have := nCh_le (n := ns.length) h0; omega), fun b o e => ?_, ps ++ [p], ks ++ [k], ?_, by simp [l1], by simp [l2], nodup_snoc nd1 np, nodup_snoc nd2 nk, ?_, ?_, ?_⟩
      · rw [upd_ne (ne_of_none e hD)]; exact s5 _ _ (s3 _ _ e)
      · rw [upd_same, List.map_append]; rfl
      · intro z
        rcases List.mem_append.mp z with z | z
        · exact nD z
        · exact nDk (List.mem_singleton.mp z).symm
      · intro b hb
        have f4 : ∀ b, H4 b = none → H2 b = none := fun b e => Same.free s3 e
        rcases hb with hb | hb
        · rcases List.mem_append.mp hb with z | z
          · exact fr b (.inl z)
          · rw [List.mem_singleton.mp z]; exact f4 p p4
        · rcases List.mem_append.mp hb with z | z
          · exact fr b (.inr z)
          · rw [List.mem_singleton.mp z]; exact f4 k k4
      · intro j p' k' e1 e2
        rcases snoc_at e1 with ⟨hj, e1⟩ | ⟨hj, rfl⟩
        · rcases snoc_at e2 with ⟨_, e2⟩ | ⟨hj2, _⟩
          · obtain ⟨⟨pd, a⟩, b⟩ := tr j p' k' e1 e2
            refine ⟨⟨pd, ?_⟩, ?_⟩
            · rw [upd_ne (ne_of a hD3 (by intro z; cases z))]; exact s5 _ _ a
            · rw [upd_ne (fun z => nD (by rw [← z]; exact List.mem_of_getElem? e2))]; exact s5 _ _ b
          · omega
        · rcases snoc_at e2 with ⟨hj2, _⟩ | ⟨_, rfl⟩
          · omega
          · rw [hj, l1]
            refine ⟨⟨dp, ?_⟩, ?_⟩
            · rw [upd_ne nDp]; exact hp7
            · rw [upd_ne nDk]; exact hk7
    · rintro H3 ⟨s3, ps, ks, hD3, l1, l2, nd1, nd2, nD, fr, pg⟩
      have hx3 : H3 x = some (.ins (He.ga K "Room") dx (putF "width" (.int (wd : Int)) (putF "many" (.int (ns.length : Int)) []))) := s3 _ _ (by rw [← hH2]; exact upd_same)
      refine ⟨_, rfl, x, _, dx, _, rfl, hx3, cl_Room T, no_Room_pages T, Nat.lt_of_le_of_lt (pF (pF (k := 0) (Nat.le_refl _))) (by decide), ?_⟩
      refine ⟨_, rfl, x, _, dx, _, rfl, upd_same, cl_Room T, no_Room_copies T, Nat.lt_of_le_of_lt (pF (pF (pF (k := 0) (Nat.le_refl _)))) (by decide), ?_⟩
      rw [upd_upd]
      refine ⟨_, rfl, x, _, dx, _, rfl, upd_same, cl_Room T, no_Room_shuts T, Nat.lt_of_le_of_lt (pF (pF (pF (pF (k := 0) (Nat.le_refl _))))) (by decide), ?_⟩
      rw [upd_upd, room_new]
      have hH : ∀ b, H2 b = none → b ≠ x ∧ H b = none := fun b e => by
        rw [← hH2] at e
        by_cases z : b = x
        · rw [z, upd_same] at e; cases e
        · rw [upd_ne z] at e; exact ⟨z, e⟩
      refine q _ D ps ks (fun b o n e => ?_) ⟨h0, h64, ⟨dx, upd_same⟩, ?_, l1, l2, fun i p k e1 e2 => ?_⟩ nd1 nd2 nD fun b hb => ?_
      · rw [upd_ne n]; exact s3 b o (by rw [← hH2, upd_ne n]; exact e)
      · rw [upd_ne (hH D hD).1]; exact hD3
      · obtain ⟨⟨pd, a⟩, b⟩ := pg i p k e1 e2
        refine ⟨⟨pd, ?_⟩, ?_⟩
        · rw [upd_ne (hH p (fr p (.inl (List.mem_of_getElem? e1)))).1]; exact a
        · rw [upd_ne (hH k (fr k (.inr (List.mem_of_getElem? e2)))).1]; exact b
      · rcases hb with rfl | hb
        · exact (hH b hD).2
        · exact (hH b (fr b hb)).2
end
end VG
-- VgRooms2
set_option Elab.async false
set_option linter.all false
set_option maxRecDepth 100000
set_option maxHeartbeats 4000000
namespace VG
open PySem PySem.Spec PyProof.Rows L2
/-- a room that may be read -/
def RoomR (K : PySem.W.Frag) (H : Hp) (a : Addr) (ns : List Int) : Prop := ∃ wd pl c s ps ks hd, RmP K H a wd ns pl c s ps ks hd
theorem RoomR.same {K : PySem.W.Frag} {H H' : Hp} {a : Addr} {ns : List Int} (r : RoomR K H a ns) (s : Same H H') : RoomR K H' a ns :=
  let ⟨wd, pl, c, s', ps, ks, hd, h⟩ := r; ⟨wd, pl, c, s', ps, ks, hd, h.keep fun b o _ e => s b o e⟩
section
variable {P : Program} {w : World} {K : PySem.W.Frag} {mg : Str → Option Value} {base : Heap}
theorem ok_Room_init (T : Tx K mg) : Ini P w K mg base 3 "Room" ["self", "numbers", "page"] [V.int 8] (spRoomInit K) := by
  obtain ⟨fd, F⟩ := f_Room_init T
  obtain ⟨ds, h1, h2⟩ := b_Room1 F
  exact ⟨⟨_, fd, ds, mk_Room T, fn_Room_init T F, g_Room T, h2, h1⟩⟩
theorem okw_Room_init (T : Tx K mg) : IniK P w K mg base 3 "Room" ["self", "numbers", "page"] 1 ["page"] (spRoomInit K) := by
  obtain ⟨fd, F⟩ := f_Room_init T
  obtain ⟨g, h⟩ := b_Room2 F
  exact ⟨⟨_, fd, g, mk_Room T, fn_Room_init T F, g_Room T, h⟩⟩
def spRoomLen (K : PySem.W.Frag) : Sp := fun vs H Q _ => ∃ a ns, vs = [.ref a] ∧ RoomR K H a ns ∧ ns.length ≤ 20000 ∧ ∀ H', Same H H' → Q (.int ((ns.length : Nat) : Int)) H'
theorem ok_Room_len (T : Tx K mg) : Met P w K mg base 1 "Room" "__len__" ["self"] (spRoomLen K) := by
  refine Met.mk0 (f_Room_len T) (me_Room_len T) sc_Room_len (fun _ _ _ _ _ _ us hl => match us, hl with | [_], _ => rfl) (fun vs H Q E h => ?_) (fun cdv A outer s H vs Q E hr h => ?_)
  · obtain ⟨a, ns, rfl, _⟩ := h; rfl
  · obtain ⟨a, ns, rfl, ⟨wd, pl, c, s', ps, ks, hd, h⟩, hz, q⟩ := h
    refine ⟨_, (pss_one (ps_ret (pe_callB cr_len_rng (by rfl) (z_len T) (by decide +kernel) (pa_cons (pe_callTy cr_range1 (by rfl) (z_range T) (by decide +kernel) (pa_cons (fl_many (K := K) T rfl (pv 0)) pa_nil)) pa_nil)))), ?_⟩
    refine ⟨_, rfl, _, ⟨a, rfl, _, _, _, _, _, h.ob, rfl⟩, _, rfl, fun p hp => ⟨p, _, rfl, upd_same, by omega, q _ (Same.new hp)⟩⟩
def spNeed (K : PySem.W.Frag) : Sp := fun vs H Q _ => ∃ (a : Addr) (i n : Nat) (w pl c s : _), vs = [.ref a, .int (i : Int)] ∧ RmO K H a (n : Int) w pl c s ∧ i < n ∧ Q .non H
theorem ok_Room_need (T : Tx K mg) : Met P w K mg base 2 "Room" "need" ["self", "cell"] (spNeed K) := by
  refine Met.mk0 (f_Room_need T) (me_Room_need T) sc_Room_need (fun _ _ _ _ _ _ us hl => match us, hl with | [_, _], _ => rfl) (fun vs H Q E h => ?_) (fun cdv A outer s H vs Q E hr h => ?_)
  · obtain ⟨a, i, n, _, _, _, _, rfl, _⟩ := h; rfl
  · obtain ⟨a, i, n, wd, pl, c, s', rfl, ho, lt, q⟩ := h
    refine ⟨_, (pss_one (ps_if (PW.pt (pw_or (pt_not (pt_val (pe_fK (K := K) (P := P) (w := w) (mg := mg) (base := base) ((ok_is_whole T).mono (by omega)) rfl rfl rfl rfl rfl hr (by rfl) (pa_cons (pv 1) pa_nil)))) (pw_or1 (pt_not (pt_chain op_le op_lt pe_int (pv 1) (fl_many (K := K) T rfl (pv 0))))))) (pss_one ps_never) pss_nil)), ?_⟩
    refine ⟨_, rfl, _, rfl, _, rfl, iteF ?_⟩
    refine ⟨_, rfl, _, _, rfl, rfl, true, congrArg V.bl (decide_eq_true (by omega)), iteT ⟨_, rfl, _, ⟨a, rfl, _, _, _, _, _, ho, rfl⟩, _, _, rfl, rfl, _, rfl, ?_⟩⟩
    exact notB (show (i : Int) < n by omega) q
def spRead (K : PySem.W.Frag) : Sp := fun vs H Q _ => ∃ (a : Addr) (i : Nat) (ns : List Int) (v : Int), vs = [.ref a, .int (i : Int)] ∧ RoomR K H a ns ∧ ns[i]? = some v ∧ Q (.int v) H
theorem ok_Room_read (T : Tx K mg) : Met P w K mg base 3 "Room" "read" ["self", "cell"] (spRead K) := by
  refine Met.mk0 (f_Room_read T) (me_Room_read T) sc_Room_read (fun _ _ _ _ _ _ us hl => match us, hl with | [_, _], _ => rfl) (fun vs H Q E h => ?_) (fun cdv A outer s H vs Q E hr h => ?_)
  · obtain ⟨a, i, ns, v, rfl, _⟩ := h; rfl
  · obtain ⟨a, i, ns, v, rfl, ⟨wd, pl, c, s', ps, ks, hd, h⟩, hv, q⟩ := h
    have hi := (List.getElem?_eq_some_iff.mp hv).1
    have hc := div_lt_nCh h.w0 hi
    obtain ⟨dx, ho⟩ := h.ob
    obtain ⟨p, hp⟩ : ∃ p, ps[i / wd]? = some p := ⟨ps[i / wd]'(by rw [h.lp]; exact hc), by simp [h.lp, hc]⟩
    obtain ⟨k, hk⟩ : ∃ p, ks[i / wd]? = some p := ⟨ks[i / wd]'(by rw [h.lk]; exact hc), by simp [h.lk, hc]⟩
    obtain ⟨hpo, hko⟩ := h.pg _ _ _ hp hk
    have hw := h.w0
    have hw1 := h.w1
    refine ⟨_, (pss_cons (ps_expr (pe_mK (K := K) (P := P) (w := w) (mg := mg) (base := base) ((ok_Room_need T).mono (by omega)) (cl_Room T) rfl rfl rfl rfl rfl hr (pv 0) (pa_cons (pv 1) pa_nil)))
    (pss_one (ps_ret (pe_ix (ix_K (K := K) rfl) (fl_kept (K := K) T rfl (pe_ix (ix_K (K := K) rfl) (fl_pages (K := K) T rfl (pv 0)) (pe_op op_fdiv (pv 1) (fl_width (K := K) T rfl (pv 0))) (fun _ _ => rfl))) (pe_op op_mod (pv 1) (fl_width (K := K) T rfl (pv 0))) (fun _ _ => rfl))))), ?_⟩
    refine ⟨_, rfl, a, dx, _, rfl, ho, room_no (by decide) (by decide) (by decide) (by decide) (by decide), _, rfl, a, i, ns.length, wd, pl, c, s', rfl, h.ob, hi, ?_⟩
    refine ⟨_, rfl, _, ⟨a, rfl, _, _, _, _, _, h.ob, rfl⟩, _, rfl, _, rfl, _, ⟨a, rfl, _, _, _, _, _, h.ob, rfl⟩, _, _, rfl, rfl, ⟨by omega, by omega⟩, ?_⟩
    refine q_ixL (i := i / wd) (SqL.of h.pl) (by rw [List.getElem?_map, hp]; rfl) ⟨_, ⟨p, rfl, k, _, hpo, rfl⟩, ?_⟩
    refine ⟨_, rfl, _, rfl, _, ⟨a, rfl, _, _, _, _, _, h.ob, rfl⟩, _, _, rfl, rfl, by omega, ?_⟩
    exact q_ixL (i := i % wd) (SqL.of hko) (ti_get ((chunk_get hw i).trans hv)) q
def spRoomNumbers (K : PySem.W.Frag) : Sp := fun vs H Q _ => ∃ a ns, vs = [.ref a] ∧ RoomR K H a ns ∧ ns.length ≤ 20000 ∧ ∀ l H', Same H H' → H l = none → H' l = some (.lst (ti ns)) → Q (.ref l) H'
theorem ok_Room_numbers (T : Tx K mg) : Met P w K mg base 1 "Room" "numbers" ["self"] (spRoomNumbers K) := by
  refine Met.mk0 (f_Room_numbers T) (me_Room_numbers T) sc_Room_numbers (fun _ _ _ _ _ _ us hl => match us, hl with | [_], _ => rfl) (fun vs H Q E h => ?_) (fun cdv A outer s H vs Q E hr h => ?_)
  · obtain ⟨a, ns, rfl, _⟩ := h; rfl
  · obtain ⟨a, ns, rfl, ⟨wd, pl, c, s', ps, ks, hd, h⟩, hz, q⟩ := h
    have hw := h.w0
    have hm := nCh_le (n := ns.length) hw
    refine ⟨_, (pss_one (ps_ret (pe_lc2 (own := [("page", 1), ("number", 2)]) (vs1 := [2]) (tt := tYes) (tt1 := tYes) rfl sc_Room_numbers.nd (pi_listK (K := K) rfl (fl_pages (K := K) T rfl (pv 0))) (blkOk_by (own := [("page", 1), ("number", 2)]) (sc := defScope s_Room_numbers) (N := n_Room_numbers) (by decide +kernel)) (by decide) (fun _ _ _ _ _ => (pg_name (i := 1) sc_Room_numbers.nd rfl (by first | exact Or.inl rfl | exact Or.inr rfl))) (fun _ _ _ _ _ => pts_nil) (fun _ _ _ _ _ => (pi_listK (K := K) rfl (fl_kept (K := K) T rfl (pv 1)))) (fun _ _ _ _ _ => (pg_name (i := 2) sc_Room_numbers.nd rfl (by first | exact Or.inl rfl | exact Or.inr rfl))) (fun _ _ _ _ _ => pts_nil) (fun _ _ _ _ _ => (pv 2))))), ?_⟩
    refine ⟨_, rfl, _, ⟨a, rfl, _, _, _, _, _, h.ob, rfl⟩, pl, rfl, ⟨_, SqL.of h.pl⟩, fun D hD => ?_⟩
    have hflat : (List.range (nCh wd ns.length)).flatMap (chunk wd ns) = ns := chunks_flat hw
    have lr : (List.range (nCh wd ns.length)).length = ps.length := by rw [List.length_range, h.lp]
    refine lc2_new (List.range (nCh wd ns.length)) (chunk wd ns) (walk_refs lr.symm) (i0 := 1) (i1 := 2) (by rw [hflat]; omega) hD (fun y v _ => y = V.int v) (fun H s => SqL.of (s _ _ h.pl)) (fun _ _ _ _ _ e => e) (fun x => rfl) ?_ ?_
    · rintro j i x H3 H4 Kw hj s3 ⟨acc, hacc⟩ ⟨rfl, p, hp, rfl⟩ kw
      have hji : j < nCh wd ns.length ∧ i = j := by
        obtain ⟨h1, h2⟩ := List.getElem?_eq_some_iff.mp hj
        rw [List.getElem_range] at h2
        exact ⟨by simpa using h1, h2.symm⟩
      obtain ⟨hjl, rfl⟩ := hji
      obtain ⟨k, hk⟩ : ∃ p, ks[i]? = some p := ⟨ks[i]'(by rw [h.lk]; exact hjl), by simp [h.lk, hjl]⟩
      obtain ⟨⟨pd, hpo⟩, hko⟩ := h.pg _ _ _ hp hk
      have hk4 := s3 _ _ hko
      have hkD : k ≠ D := ne_of_none hko hD
      refine ⟨_, rfl, _, ⟨p, rfl, k, _, ⟨pd, s3 _ _ hpo⟩, rfl⟩, k, rfl, ⟨_, SqL.of hk4⟩, kw _ H4 _ _ (Same.refl H4) walk_ti (fun H5 b5 => SqL.of (b5 _ _ hkD hk4)) ?_⟩
      rintro m b x1 H5 H6 Kt hb b5 hacc5 ⟨rfl, v, hv, rfl⟩ kt
      rw [hb] at hv
      cases hv
      exact ⟨rfl, _, rfl, kt _ _ (Same.refl _) rfl⟩
    · intro ys H3 s3 hD3 al
      rw [hflat] at al
      have e := all2_int al
      subst e
      exact q D H3 s3 hD hD3
def spIsShut (K : PySem.W.Frag) : Sp := fun vs H Q _ => ∃ (a : Addr) (n w : Int) (pl : Addr) (c s : Int), vs = [.ref a] ∧ RmO K H a n w pl c s ∧ Q (.bl (decide (0 < s))) H
theorem ok_Room_is_shut (T : Tx K mg) : Met P w K mg base 1 "Room" "is_shut" ["self"] (spIsShut K) := by
  refine Met.mk0 (f_Room_is_shut T) (me_Room_is_shut T) sc_Room_is_shut (fun _ _ _ _ _ _ us hl => match us, hl with | [_], _ => rfl) (fun vs H Q E h => ?_) (fun cdv A outer s H vs Q E hr h => ?_)
  · obtain ⟨a, n, _, _, _, _, rfl, _⟩ := h; rfl
  · obtain ⟨a, n, wd, pl, c, s', rfl, ho, q⟩ := h
    refine ⟨_, (pss_one (ps_ret (pe_cmpR op_gt (fl_shuts (K := K) T rfl (pv 0)) pe_int (nomark _)))), ?_⟩
    exact ⟨_, rfl, _, ⟨a, rfl, _, _, _, _, _, ho, rfl⟩, _, _, rfl, rfl, q⟩
end
end VG
-- VgRooms3
set_option Elab.async false
set_option linter.all false
set_option maxRecDepth 100000
set_option maxHeartbeats 4000000
namespace VG
open PySem PySem.Spec PyProof.Rows L2
/-- what is told of a room -/
structure RD where
  a : Addr
  w : Nat
  ns : List Int
  pl : Addr
  c : Int
  s : Int
  ps : List Addr
  ks : List Addr
  hd : Nat → Int
abbrev Rm (K : PySem.W.Frag) (H : Hp) (d : RD) : Prop := RmP K H d.a d.w d.ns d.pl d.c d.s d.ps d.ks d.hd
abbrev RD.ft (d : RD) : Addr → Prop := foot d.a d.pl d.ps d.ks
/-- the twin is where it was, no larger -/
structure EqE (e' e : RD) : Prop where
  a : e'.a = e.a
  f : ∀ b, e'.ft b → e.ft b
theorem EqE.refl (e : RD) : EqE e e := ⟨rfl, fun _ h => h⟩
theorem EqE.trans {e2 e1 e : RD} (b : EqE e2 e1) (a : EqE e1 e) : EqE e2 e := ⟨b.a.trans a.a, fun x h => a.f x (b.f x h)⟩
/-- how many fields -/
def fsLen : HO → Nat
  | .ins _ _ fs => fs.length
  | _ => 0
theorem room_ne_page {C C' dx dx' pl k : Addr} {n w c s h : Int} : HO.ins C dx (roomF n w pl c s) ≠ HO.ins C' dx' (pageF k h) := fun z => by
  have q := congrArg fsLen z
  exact absurd (show 5 = 2 from q) (by decide)
theorem ixN_n {n j : Nat} (hj : j < n) : ixN n (j : Int) = some j := by
  unfold ixN
  rw [if_pos (by omega), if_pos (by omega)]
  simp
/-- each item once -/
def Inj {α : Type} (l : List α) : Prop := ∀ (i j : Nat) a, l[i]? = some a → l[j]? = some a → i = j
/-- a room d and its twin e -/
structure SysD (K : PySem.W.Frag) (H : Hp) (d e : RD) : Prop where
  r0 : Rm K H d
  r1 : Rm K H e
  sh0 : d.s = 0
  sh1 : e.s = 0
  w : d.w = e.w
  ln : d.ns.length = e.ns.length
  na : d.a ≠ e.a
  npl : d.pl ≠ e.pl
  ndp : Inj d.ps
  ndk : Inj d.ks
  pk : d.pl ∉ d.ks ∧ d.pl ∉ e.ks ∧ e.pl ∉ d.ks
  px : ∀ i j p, d.ps[i]? = some p → e.ps[j]? = some p → i = j ∧ d.hd i = 2
  kx : ∀ i j k, d.ks[i]? = some k → e.ks[j]? = some k → i = j ∧ d.hd i = 2
  hx : ∀ i, d.hd i = 1 ∨ (d.hd i = 2 ∧ d.ps[i]? = e.ps[i]? ∧ d.ks[i]? = e.ks[i]?)
/-- what lies outside F stays; what F' has besides is new -/
structure Frm (F F' : Addr → Prop) (H H' : Hp) : Prop where
  keep : ∀ b o, H b = some o → ¬ F b → H' b = some o
  new : ∀ b, F' b → F b ∨ H b = none
  there : ∀ b, H' b = none → H b = none
theorem Frm.refl {F : Addr → Prop} {H : Hp} : Frm F F H H := ⟨fun _ _ e _ => e, fun _ h => .inl h, fun _ h => h⟩
theorem Frm.trans {F F1 F2 : Addr → Prop} {H H1 H2 : Hp} (a : Frm F F1 H H1) (b : Frm F1 F2 H1 H2) : Frm F F2 H H2 := by
  refine ⟨fun c o e n => b.keep c o (a.keep c o e n) fun z => ?_, fun c h => ?_, fun c h => a.there c (b.there c h)⟩
  · rcases a.new c z with h | h
    · exact n h
    · rw [e] at h; cases h
  · rcases b.new c h with h | h
    · exact a.new c h
    · by_cases z : F c
      · exact .inl z
      · refine .inr ?_
        cases q : H c with
        | none => rfl
        | some o => rw [a.keep c o q z] at h; cases h
theorem Frm.of {F : Addr → Prop} {H H' : Hp} (s : Same H H') : Frm F F H H' := ⟨fun b o e _ => s b o e, fun _ h => .inl h, fun _ h => s.free h⟩
theorem SysD.same {K : PySem.W.Frag} {H H' : Hp} {d e : RD} (r : SysD K H d e) (s : Same H H') : SysD K H' d e :=
  { r with r0 := r.r0.keep fun b o _ h => s b o h, r1 := r.r1.keep fun b o _ h => s b o h }
theorem set_at {α : Type} {l : List α} {i j : Nat} {a b : α} (h : (l.set i a)[j]? = some b) : (j = i ∧ a = b) ∨ (j ≠ i ∧ l[j]? = some b) := by
  rw [List.getElem?_set] at h
  by_cases e : i = j
  · rw [if_pos e] at h
    split at h
    · exact .inl ⟨e.symm, Option.some.inj h⟩
    · cases h
  · rw [if_neg e] at h
    exact .inr ⟨fun z => e z.symm, h⟩
theorem set_ne {α : Type} {l : List α} {i j : Nat} {a : α} (h : j ≠ i) : (l.set i a)[j]? = l[j]? := by
  rw [List.getElem?_set, if_neg fun z => h z.symm]
theorem set_same {α : Type} {l : List α} {i : Nat} {a : α} (h : i < l.length) : (l.set i a)[i]? = some a := by
  rw [List.getElem?_set, if_pos rfl, if_pos h]
theorem inj_of {α : Type} {l : List α} (h : l.Nodup) : Inj l := by
  intro i j a e1 e2
  obtain ⟨h1, h2⟩ := List.getElem?_eq_some_iff.mp e1
  obtain ⟨h3, h4⟩ := List.getElem?_eq_some_iff.mp e2
  have q := List.pairwise_iff_getElem.mp h
  rcases Nat.lt_trichotomy i j with z | z | z
  · exact absurd (h2.trans h4.symm) (q i j h1 h3 z)
  · exact z
  · exact absurd (h4.trans h2.symm) (q j i h3 h1 z)
theorem inj_set {α : Type} {l : List α} {i : Nat} {a : α} (h : Inj l) (n : a ∉ l) : Inj (l.set i a) := by
  intro x y b hx hy
  rcases set_at hx with ⟨e1, rfl⟩ | ⟨e1, h1⟩
  · rcases set_at hy with ⟨e2, _⟩ | ⟨_, h2⟩
    · omega
    · exact absurd (List.mem_of_getElem? h2) n
  · rcases set_at hy with ⟨e2, rfl⟩ | ⟨_, h2⟩
    · exact absurd (List.mem_of_getElem? h1) n
    · exact h _ _ _ h1 h2
/-- the page is d's own from now on -/
def RD.own (d : RD) (i : Nat) (p k : Addr) : RD := { d with ps := d.ps.set i p, ks := d.ks.set i k, c := d.c + 1, hd := fun j => if j = i then 1 else d.hd j }
def RD.left (e : RD) (i : Nat) : RD := { e with hd := fun j => if j = i then 1 else e.hd j }
def RD.put (d : RD) (c : Nat) (v : Int) : RD := { d with ns := d.ns.set c v }
section
variable {P : Program} {w : World} {K : PySem.W.Frag} {mg : Str → Option Value} {base : Heap}
def spOwnPage (K : PySem.W.Frag) : Sp := fun vs H Q _ => ∃ (d e : RD) (i : Nat), vs = [.ref d.a, .int (i : Int)] ∧ SysD K H d e ∧ i < d.ps.length ∧
  ∀ H' (d' e' : RD) p k, SysD K H' d' e' → d'.ns = d.ns → e'.ns = e.ns → d'.a = d.a → EqE e' e → d'.w = d.w → d'.ps[i]? = some p → d'.ks[i]? = some k → d'.hd i = 1 → Frm d.ft d'.ft H H' → Q (.ref p) H'
theorem ok_Room_own_page (T : Tx K mg) : Met P w K mg base 3 "Room" "own_page" ["self", "at"] (spOwnPage K) := by
  refine Met.mk0 (f_Room_own_page T) (me_Room_own_page T) sc_Room_own_page (fun _ _ _ _ _ _ us hl => match us, hl with | [_, _], _ => rfl) (fun vs H Q E h => ?_) (fun cdv A outer s H vs Q E hr h => ?_)
  · obtain ⟨d, e, i, rfl, _⟩ := h; rfl
  · obtain ⟨d, e, i, rfl, sy, hi, q⟩ := h
    obtain ⟨p, hp⟩ : ∃ p, d.ps[i]? = some p := ⟨d.ps[i], by simp [hi]⟩
    have hik : i < d.ks.length := by rw [sy.r0.lk, ← sy.r0.lp]; exact hi
    obtain ⟨k, hk⟩ : ∃ p, d.ks[i]? = some p := ⟨d.ks[i], by simp [hik]⟩
    obtain ⟨⟨pd, hpo⟩, hko⟩ := sy.r0.pg _ _ _ hp hk
    have hpl := sy.r0.pl
    refine ⟨_, (pss_cons (ps_set (i := 2) sc_Room_own_page.nd rfl (Or.inl rfl) (pe_ix (ix_K (K := K) rfl) (fl_pages (K := K) T rfl (pv 0)) (pv 1) (fun _ _ => rfl)))
    (pss_cons (ps_if (pt_cmpR op_gt (fl_holders (K := K) T rfl (pv 2)) pe_int (nomark _)) (pss_cons (ps_fldaug (pv 2) pe_int in_sub)
    (pss_cons (ps_set (i := 2) sc_Room_own_page.nd rfl (Or.inl rfl) (pe_mkK (K := K) (P := P) (w := w) (mg := mg) (base := base) ((ok_Page_init T).mono (by omega)) rfl rfl rfl rfl rfl hr (by rfl) (pa_cons (pe_callTy (call_listK (K := K) rfl) (by rfl) (z_list T) (by decide +kernel) (pa_cons (fl_kept (K := K) T rfl (pv 2)) pa_nil)) pa_nil)))
    (pss_cons (ps_asg (pv 2) (pg_sub (fl_pages (K := K) T rfl (pv 0)) (pv 1) set_list))
    (pss_one (ps_fldaug (pv 0) pe_int in_add))))) pss_nil)
    (pss_one (ps_ret (pv 2))))), ?_⟩
    refine ⟨_, rfl, _, ⟨_, rfl, _, _, _, _, _, sy.r0.ob, rfl⟩, _, rfl, q_ixL (i := i) (SqL.of hpl) (by rw [List.getElem?_map, hp]; rfl) ?_⟩
    refine ⟨_, rfl, _, ⟨p, rfl, k, _, ⟨pd, hpo⟩, rfl⟩, _, _, rfl, rfl, _, rfl, ?_⟩
    rcases sy.hx i with h1 | ⟨h2, e1, e2⟩
    · refine ite2 (fun z => ?_) fun _ => ?_
      · have z := of_decide_eq_true z; omega
      · exact ⟨_, rfl, q H d e p k sy rfl rfl rfl (EqE.refl e) rfl hp hk h1 Frm.refl⟩
    · refine ite2 (fun _ => ?_) fun z => absurd (decide_eq_true (by omega)) z
      refine ⟨_, rfl, p, _, pd, _, _, rfl, hpo, cl_Page T, no_Page_holders T, page_holders, _, _, rfl, rfl, pd, _, hpo, (show 2 < 1000 by decide), ?_⟩
      rw [page_put, h2]
      refine ⟨_, rfl, _, ⟨p, rfl, k, _, ⟨pd, upd_same⟩, rfl⟩, k, _, rfl, .inl (SqL.of (by rw [upd_ne (ne_of hko hpo (by intro z; cases z))]; exact hko)), fun k' hk' p' dp hp' hdp hpd => ⟨p', dp, k', rfl, upd_same, rfl, ?_⟩⟩
      rw [upd_upd]
      have e21 : (2 : Int) - 1 = 1 := by decide
      rw [e21]
      have hf : ∀ b o, H b = some o → b ≠ p → (upd H p (.ins (He.ga K "Page") pd (pageF k 1))) b = some o := fun b o e n => by rw [upd_ne n]; exact e
      have s5 : Same (upd H p (.ins (He.ga K "Page") pd (pageF k 1))) (upd (upd (upd (upd H p (.ins (He.ga K "Page") pd (pageF k 1))) k' (.lst (ti (chunk d.w d.ns i)))) dp (.own p')) p' (.ins (He.ga K "Page") dp (pageF k' 1))) :=
        ((Same.new hk').trans (Same.new hdp)).trans (Same.new (by rw [upd_ne (Ne.symm hpd)]; exact hp'))
      have k'0 : H k' = none := by
        by_cases z : k' = p
        · rw [z, upd_same] at hk'; cases hk'
        · rw [upd_ne z] at hk'; exact hk'
      have p'0 : H p' = none := by
        have z := (Same.new hk').free hp'
        by_cases z2 : p' = p
        · rw [z2, upd_same] at z; cases z
        · rw [upd_ne z2] at z; exact z
      have n1 : k' ≠ dp := ne_of_none upd_same hdp
      have n2 : k' ≠ p' := ne_of_none upd_same hp'
      have hpp : p ≠ p' := ne_of_none hpo p'0
      generalize hH5 : upd (upd (upd (upd H p (.ins (He.ga K "Page") pd (pageF k 1))) k' (.lst (ti (chunk d.w d.ns i)))) dp (.own p')) p' (.ins (He.ga K "Page") dp (pageF k' 1)) = H5 at s5 ⊢
      have k5 : ∀ b o, H b = some o → b ≠ p → H5 b = some o := fun b o e n => s5 _ _ (hf b o e n)
      have p5 : H5 p = some (.ins (He.ga K "Page") pd (pageF k 1)) := s5 _ _ upd_same
      have p'5 : H5 p' = some (.ins (He.ga K "Page") dp (pageF k' 1)) := by rw [← hH5]; exact upd_same
      have k'5 : H5 k' = some (.lst (ti (chunk d.w d.ns i))) := by rw [← hH5, upd_ne n2, upd_ne n1, upd_same]
      obtain ⟨dx, hob⟩ := sy.r0.ob
      have nap : d.a ≠ p := ne_of hob hpo room_ne_page
      have npl : d.pl ≠ p := ne_of hpl hpo (by intro z; cases z)
      have hob5 := k5 _ _ hob nap
      have hpl5 := k5 _ _ hpl npl
      refine ⟨_, rfl, _, rfl, _, ⟨_, rfl, _, _, _, _, _, ⟨dx, hob5⟩, rfl⟩, _, rfl, d.pl, _, _, i, rfl, rfl, hpl5, ixN_n (by rw [List.length_map]; exact hi), ?_⟩
      have nal : d.a ≠ d.pl := ne_of hob hpl (by intro z; cases z)
      refine ⟨_, rfl, d.a, _, dx, _, _, rfl, by rw [upd_ne nal]; exact hob5, cl_Room T, no_Room_copies T, room_copies, _, _, rfl, rfl, dx, roomF (d.ns.length : Nat) d.w d.pl d.c d.s, by rw [upd_ne nal]; exact hob5, (show 5 < 1000 by decide), ?_⟩
      rw [room_put_copies]
      refine ⟨_, rfl, ?_⟩
      show Q (.ref p') (upd (upd H5 d.pl (.lst ((d.ps.map V.ref).set i (.ref p')))) d.a (.ins (He.ga K "Room") dx (roomF (d.ns.length : Nat) d.w d.pl (d.c + 1) d.s)))
      have k6 : ∀ b o, H b = some o → b ≠ p → b ≠ d.pl → b ≠ d.a → (upd (upd H5 d.pl (.lst ((d.ps.map V.ref).set i (.ref p')))) d.a (.ins (He.ga K "Room") dx (roomF (d.ns.length : Nat) d.w d.pl (d.c + 1) d.s))) b = some o := fun b o e a1 a2 a3 => by
        rw [upd_ne a3, upd_ne a2]; exact k5 b o e a1
      have n5 : ∀ b o, H5 b = some o → b ≠ d.pl → b ≠ d.a → (upd (upd H5 d.pl (.lst ((d.ps.map V.ref).set i (.ref p')))) d.a (.ins (He.ga K "Room") dx (roomF (d.ns.length : Nat) d.w d.pl (d.c + 1) d.s))) b = some o := fun b o e a2 a3 => by
        rw [upd_ne a3, upd_ne a2]; exact e
      have f1 : (upd (upd H5 d.pl (.lst ((d.ps.map V.ref).set i (.ref p')))) d.a (.ins (He.ga K "Room") dx (roomF (d.ns.length : Nat) d.w d.pl (d.c + 1) d.s))) d.a = some (.ins (He.ga K "Room") dx (roomF (d.ns.length : Nat) d.w d.pl (d.c + 1) d.s)) := upd_same
      have f2 : (upd (upd H5 d.pl (.lst ((d.ps.map V.ref).set i (.ref p')))) d.a (.ins (He.ga K "Room") dx (roomF (d.ns.length : Nat) d.w d.pl (d.c + 1) d.s))) d.pl = some (.lst ((d.ps.map V.ref).set i (.ref p'))) := by rw [upd_ne nal.symm]; exact upd_same
      have t6 : ∀ b, (upd (upd H5 d.pl (.lst ((d.ps.map V.ref).set i (.ref p')))) d.a (.ins (He.ga K "Room") dx (roomF (d.ns.length : Nat) d.w d.pl (d.c + 1) d.s))) b = none → H b = none := fun b e => by
        cases z : H b with
        | none => rfl
        | some o =>
          by_cases z1 : b = d.a
          · rw [z1, upd_same] at e; cases e
          · rw [upd_ne z1] at e
            by_cases z2 : b = d.pl
            · rw [z2, upd_same] at e; cases e
            · rw [upd_ne z2] at e
              by_cases z3 : b = p
              · rw [z3, p5] at e; cases e
              · rw [k5 b o z z3] at e; cases e
      generalize upd (upd H5 d.pl (.lst ((d.ps.map V.ref).set i (.ref p')))) d.a (.ins (He.ga K "Room") dx (roomF (d.ns.length : Nat) d.w d.pl (d.c + 1) d.s)) = H6 at k6 n5 f1 f2 t6 ⊢
      have nsp : ∀ b o, H b = some o → b ≠ p' := fun b o e => ne_of_none e p'0
      have nsk : ∀ b o, H b = some o → b ≠ k' := fun b o e => ne_of_none e k'0
      have p'l : p' ≠ d.pl := (nsp _ _ hpl).symm
      have p'a : p' ≠ d.a := (nsp _ _ hob).symm
      have k'l : k' ≠ d.pl := (nsk _ _ hpl).symm
      have k'a : k' ≠ d.a := (nsk _ _ hob).symm
      have trp : ∀ (r : RD), Rm K H r → ∀ b ∈ r.ps, ∃ o, H b = some o := fun r hr b hb => by
        obtain ⟨j, ej⟩ := List.mem_iff_getElem?.mp hb
        have hj := (List.getElem?_eq_some_iff.mp ej).1
        obtain ⟨⟨_, a⟩, _⟩ := hr.pg j b (r.ks[j]'(by rw [hr.lk, ← hr.lp]; exact hj)) ej (by simp [show j < r.ks.length by rw [hr.lk, ← hr.lp]; exact hj])
        exact ⟨_, a⟩
      have trk : ∀ (r : RD), Rm K H r → ∀ b ∈ r.ks, ∃ o, H b = some o := fun r hr b hb => by
        obtain ⟨j, ej⟩ := List.mem_iff_getElem?.mp hb
        have hj := (List.getElem?_eq_some_iff.mp ej).1
        obtain ⟨_, a⟩ := hr.pg j (r.ps[j]'(by rw [hr.lp, ← hr.lk]; exact hj)) b (by simp [show j < r.ps.length by rw [hr.lp, ← hr.lk]; exact hj]) ej
        exact ⟨_, a⟩
      have lst_ne : ∀ {b c : Addr} {xs : List V} {C dx : Addr} {fs : List (Str × V)}, H b = some (.lst xs) → H c = some (.ins C dx fs) → b ≠ c := fun h1 h2 => ne_of h1 h2 (by intro z; cases z)
      have nsP : p' ∉ d.ps := fun z => by obtain ⟨o, h⟩ := trp d sy.r0 p' z; rw [p'0] at h; cases h
      have nsPe : p' ∉ e.ps := fun z => by obtain ⟨o, h⟩ := trp e sy.r1 p' z; rw [p'0] at h; cases h
      have nsK : k' ∉ d.ks := fun z => by obtain ⟨o, h⟩ := trk d sy.r0 k' z; rw [k'0] at h; cases h
      have nsKe : k' ∉ e.ks := fun z => by obtain ⟨o, h⟩ := trk e sy.r1 k' z; rw [k'0] at h; cases h
      have hdi : (d.own i p' k').hd i = 1 := if_pos rfl
      have hdn : ∀ j, j ≠ i → (d.own i p' k').hd j = d.hd j := fun j hj => if_neg hj
      have hei : (e.left i).hd i = 1 := if_pos rfl
      have hen : ∀ j, j ≠ i → (e.left i).hd j = e.hd j := fun j hj => if_neg hj
      obtain ⟨ex, heb⟩ := sy.r1.ob
      refine q H6 (d.own i p' k') (e.left i) p' k' ?_ rfl rfl rfl ⟨rfl, fun _ h => h⟩ rfl (set_same hi) (set_same hik) hdi ?_
      · refine ⟨⟨sy.r0.w0, sy.r0.w1, ⟨dx, f1⟩, ?_, ?_, ?_, fun j p0 k0 a1 a2 => ?_⟩, ⟨sy.r1.w0, sy.r1.w1, ⟨ex, ?_⟩, ?_, sy.r1.lp, sy.r1.lk, fun j p0 k0 a1 a2 => ?_⟩, sy.sh0, sy.sh1, sy.w, sy.ln, sy.na, sy.npl, inj_set sy.ndp nsP, inj_set sy.ndk nsK, ⟨fun z => ?_, sy.pk.2.1, fun z => ?_⟩, fun a b c a1 a2 => ?_, fun a b c a1 a2 => ?_, fun j => ?_⟩
        · show H6 d.pl = some (.lst ((d.ps.set i p').map V.ref))
          rw [List.map_set]; exact f2
        · show (d.ps.set i p').length = _
          rw [List.length_set]; exact sy.r0.lp
        · show (d.ks.set i k').length = _
          rw [List.length_set]; exact sy.r0.lk
        · rcases set_at a1 with ⟨b1, rfl⟩ | ⟨b1, c1⟩
          · rcases set_at a2 with ⟨b2, rfl⟩ | ⟨b2, _⟩
            · rw [b1]
              refine ⟨?_, n5 _ _ k'5 k'l k'a⟩
              rw [hdi]
              exact ⟨dp, n5 _ _ p'5 p'l p'a⟩
            · exact absurd b1 b2
          · rcases set_at a2 with ⟨b2, _⟩ | ⟨b2, c2⟩
            · exact absurd b2 b1
            · obtain ⟨⟨d0, g1⟩, g2⟩ := sy.r0.pg j p0 k0 c1 c2
              rw [hdn j b1]
              exact ⟨⟨d0, k6 _ _ g1 (fun z => b1 (sy.ndp _ _ _ (z ▸ c1) hp)) (lst_ne hpl g1).symm (ne_of g1 hob (Ne.symm room_ne_page))⟩, k6 _ _ g2 (lst_ne g2 hpo) (fun z => sy.pk.1 (z ▸ List.mem_of_getElem? c2)) (lst_ne g2 hob)⟩
        · exact k6 _ _ heb (ne_of heb hpo room_ne_page) (lst_ne hpl heb).symm sy.na.symm
        · exact k6 _ _ sy.r1.pl (lst_ne sy.r1.pl hpo) sy.npl.symm (lst_ne sy.r1.pl hob)
        · obtain ⟨⟨d0, g1⟩, g2⟩ := sy.r1.pg j p0 k0 a1 a2
          have gk := k6 _ _ g2 (lst_ne g2 hpo) (fun z => sy.pk.2.1 (z ▸ List.mem_of_getElem? a2)) (lst_ne g2 hob)
          by_cases hj : j = i
          · rw [hj] at a1 a2
            have z1 : p = p0 := Option.some.inj (hp.symm.trans (e1.trans a1))
            have z2 : k = k0 := Option.some.inj (hk.symm.trans (e2.trans a2))
            rw [hj, ← z2] at gk
            rw [hj, hei, ← z1, ← z2]
            exact ⟨⟨pd, n5 _ _ p5 npl.symm nap.symm⟩, gk⟩
          · rw [hen j hj]
            exact ⟨⟨d0, k6 _ _ g1 (fun z => hj (sy.px i j p hp (z ▸ a1)).1.symm) (lst_ne hpl g1).symm (ne_of g1 hob (Ne.symm room_ne_page))⟩, gk⟩
        · rcases List.mem_or_eq_of_mem_set z with z | z
          · exact sy.pk.1 z
          · exact k'l z.symm
        · rcases List.mem_or_eq_of_mem_set z with z | z
          · exact sy.pk.2.2 z
          · exact nsk _ _ sy.r1.pl z
        · rcases set_at a1 with ⟨b1, rfl⟩ | ⟨b1, c1⟩
          · exact absurd (List.mem_of_getElem? a2) nsPe
          · rw [hdn a b1]; exact sy.px a b c c1 a2
        · rcases set_at a1 with ⟨b1, rfl⟩ | ⟨b1, c1⟩
          · exact absurd (List.mem_of_getElem? a2) nsKe
          · rw [hdn a b1]; exact sy.kx a b c c1 a2
        · by_cases hj : j = i
          · rw [hj]; exact .inl hdi
          · rw [hdn j hj]
            rcases sy.hx j with z | ⟨z1, z2, z3⟩
            · exact .inl z
            · exact .inr ⟨z1, (set_ne hj).trans z2, (set_ne hj).trans z3⟩
      · refine ⟨fun b o h n => k6 b o h (fun z => n (.inr (.inr (.inl (z ▸ List.mem_of_getElem? hp))))) (fun z => n (.inr (.inl z))) (fun z => n (.inl z)), fun b h => ?_, t6⟩
        rcases h with h | h | h | h
        · exact .inl (.inl h)
        · exact .inl (.inr (.inl h))
        · rcases List.mem_or_eq_of_mem_set h with z | z
          · exact .inl (.inr (.inr (.inl z)))
          · exact .inr (by rw [z]; exact p'0)
        · rcases List.mem_or_eq_of_mem_set h with z | z
          · exact .inl (.inr (.inr (.inr z)))
          · exact .inr (by rw [z]; exact k'0)
def spWrite (K : PySem.W.Frag) : Sp := fun vs H Q _ => ∃ (d e : RD) (i : Nat) (v : Int), vs = [.ref d.a, .int (i : Int), .int v] ∧ SysD K H d e ∧ i < d.ns.length ∧
  ∀ H' (d' e' : RD), SysD K H' d' e' → d'.ns = d.ns.set i v → e'.ns = e.ns → d'.a = d.a → EqE e' e → d'.w = d.w → Frm d.ft d'.ft H H' → Q .non H'
theorem ok_Room_write (T : Tx K mg) : Met P w K mg base 4 "Room" "write" ["self", "cell", "number"] (spWrite K) := by
  refine Met.mk0 (f_Room_write T) (me_Room_write T) sc_Room_write (fun _ _ _ _ _ _ us hl => match us, hl with | [_, _, _], _ => rfl) (fun vs H Q E h => ?_) (fun cdv A outer s H vs Q E hr h => ?_)
  · obtain ⟨d, e, i, v, rfl, _⟩ := h; rfl
  · obtain ⟨d, e, i, v, rfl, sy, hi, q⟩ := h
    have hw := sy.r0.w0
    have hw1 := sy.r0.w1
    obtain ⟨dx, hob⟩ := sy.r0.ob
    have hlo : ∀ {m : Str} {n w c s : Int} {pl : Addr}, ¬ m = "many" → ¬ m = "width" → ¬ m = "pages" → ¬ m = "copies" → ¬ m = "shuts" → (roomF n w pl c s).lookup m = none := fun a b c d e => room_no a b c d e
    refine ⟨_, (pss_cons (ps_expr (pe_mK (K := K) (P := P) (w := w) (mg := mg) (base := base) ((ok_Room_need T).mono (by omega)) (cl_Room T) rfl rfl rfl rfl rfl hr (pv 0) (pa_cons (pv 1) pa_nil)))
    (pss_cons (ps_if (pt_cmpR op_gt (fl_shuts (K := K) T rfl (pv 0)) pe_int (nomark _)) (pss_one ps_never) pss_nil)
    (pss_one (ps_if (pt_cmpR op_ne (pe_mK (K := K) (P := P) (w := w) (mg := mg) (base := base) ((ok_Room_read T).mono (by omega)) (cl_Room T) rfl rfl rfl rfl rfl hr (pv 0) (pa_cons (pv 1) pa_nil)) (pv 2) (nomark _)) (pss_one (ps_asg (pv 2) (pg_sub (fl_kept (K := K) T rfl (pe_mK (K := K) (P := P) (w := w) (mg := mg) (base := base) ((ok_Room_own_page T).mono (by omega)) (cl_Room T) rfl rfl rfl rfl rfl hr (pv 0) (pa_cons (pe_op op_fdiv (pv 1) (fl_width (K := K) T rfl (pv 0))) pa_nil))) (pe_op op_mod (pv 1) (fl_width (K := K) T rfl (pv 0))) set_list))) pss_nil)))), ?_⟩
    refine ⟨_, rfl, d.a, dx, _, rfl, hob, room_no (by decide) (by decide) (by decide) (by decide) (by decide), _, rfl, d.a, i, d.ns.length, d.w, d.pl, d.c, d.s, rfl, ⟨dx, hob⟩, hi, ?_⟩
    refine ⟨_, rfl, _, ⟨_, rfl, _, _, _, _, _, ⟨dx, hob⟩, rfl⟩, _, _, rfl, rfl, _, rfl, ite2 (fun z => ?_) fun _ => ?_⟩
    · have z := of_decide_eq_true z
      have := sy.sh0
      omega
    · have hv : d.ns[i]? = some d.ns[i] := by simp [hi]
      refine ⟨_, rfl, d.a, dx, _, rfl, hob, room_no (by decide) (by decide) (by decide) (by decide) (by decide), _, rfl, d.a, i, d.ns, d.ns[i], rfl, ⟨_, _, _, _, _, _, _, sy.r0⟩, hv, ?_⟩
      refine ⟨_, rfl, rfl, _, rfl, ?_⟩
      by_cases hev : d.ns[i] = v
      · have eb : (!decide (V.int d.ns[i] = V.int v)) = false := by rw [hev]; simp
        rw [eb]
        refine iteF ?_
        refine q H d e sy ?_ rfl rfl (EqE.refl e) rfl Frm.refl
        rw [← hev, List.set_getElem_self]
      · have eb : (!decide (V.int d.ns[i] = V.int v)) = true := by simp [hev]
        rw [eb]
        have hc : i / d.w < d.ps.length := by rw [sy.r0.lp]; exact div_lt_nCh hw hi
        refine iteT ⟨_, rfl, _, rfl, d.a, dx, _, rfl, hob, room_no (by decide) (by decide) (by decide) (by decide) (by decide), _, rfl, _, rfl, _, ⟨_, rfl, _, _, _, _, _, ⟨dx, hob⟩, rfl⟩, _, _, rfl, rfl, ⟨by omega, by omega⟩, ?_⟩
        refine ⟨d, e, i / d.w, rfl, sy, hc, fun H' d' e' p k sy' n1 n2 a1 a2 w1 hp hk h1 fr => ?_⟩
        obtain ⟨⟨pd, hpo⟩, hko⟩ := sy'.r0.pg _ _ _ hp hk
        have hob' := sy'.r0.ob
        rw [a1] at hob'
        have hkl : (chunk d'.w d'.ns (i / d.w)).length > i % d.w := by
          have := chunk_get hw i (ns := d.ns)
          rw [w1, n1]
          rw [hv] at this
          exact (List.getElem?_eq_some_iff.mp this).1
        refine ⟨_, ⟨p, rfl, k, _, ⟨pd, hpo⟩, rfl⟩, _, rfl, _, rfl, _, ⟨_, rfl, _, _, _, _, _, hob', rfl⟩, _, _, rfl, rfl, by rw [w1]; omega, k, _, _, i % d.w, rfl, by rw [w1]; rfl, hko, ixN_n (by rw [ti_len]; exact hkl), ?_⟩
        have hset : (ti (chunk d'.w d'.ns (i / d.w))).set (i % d.w) (.int v) = ti ((chunk d'.w d'.ns (i / d.w)).set (i % d.w) v) := by
          unfold ti; rw [List.map_set]
        rw [hset]
        have nk : ∀ b C dx (fs : List (Str × V)), H' b = some (.ins C dx fs) → b ≠ k := fun b C dx fs h => ne_of h hko (by intro z; cases z)
        have kin := List.mem_of_getElem? hk
        obtain ⟨dy, hoy⟩ := sy'.r0.ob
        obtain ⟨ey, hey⟩ := sy'.r1.ob
        have nl : (d'.put i v).ns.length = d'.ns.length := List.length_set ..
        refine q _ (d'.put i v) e' ⟨⟨sy'.r0.w0, sy'.r0.w1, ?_, ?_, ?_, ?_, fun j p0 k0 b1 b2 => ?_⟩, ⟨sy'.r1.w0, sy'.r1.w1, ?_, ?_, sy'.r1.lp, sy'.r1.lk, fun j p0 k0 b1 b2 => ?_⟩, sy'.sh0, sy'.sh1, sy'.w, nl.trans sy'.ln, sy'.na, sy'.npl, sy'.ndp, sy'.ndk, sy'.pk, sy'.px, sy'.kx, sy'.hx⟩ (by show d'.ns.set i v = _; rw [n1]) n2 a1 a2 w1 ?_
        · rw [nl]; exact ⟨dy, (upd_ne (nk _ _ _ _ hoy)).trans hoy⟩
        · show upd H' k _ d'.pl = _
          exact (upd_ne (fun z => sy'.pk.1 (by rw [z]; exact kin))).trans sy'.r0.pl
        · rw [nl]; exact sy'.r0.lp
        · rw [nl]; exact sy'.r0.lk
        · obtain ⟨⟨d0, g1⟩, g2⟩ := sy'.r0.pg j p0 k0 b1 b2
          refine ⟨⟨d0, (upd_ne (nk _ _ _ _ g1)).trans g1⟩, ?_⟩
          show upd H' k _ k0 = some (.lst (ti (chunk d'.w (d'.ns.set i v) j)))
          rw [chunk_set (by rw [w1]; exact hw)]
          by_cases hj : j = i / d.w
          · have : k0 = k := by
              rw [hj] at b2
              exact Option.some.inj (b2.symm.trans hk)
            rw [this, upd_same, w1, if_pos hj, hj]
          · rw [if_neg (by rw [w1]; exact hj)]
            exact (upd_ne (fun z => hj (sy'.ndk _ _ _ (by rw [z] at b2; exact b2) hk))).trans g2
        · exact ⟨ey, (upd_ne (nk _ _ _ _ hey)).trans hey⟩
        · exact (upd_ne (fun z => sy'.pk.2.2 (by rw [z]; exact kin))).trans sy'.r1.pl
        · obtain ⟨⟨d0, g1⟩, g2⟩ := sy'.r1.pg j p0 k0 b1 b2
          refine ⟨⟨d0, (upd_ne (nk _ _ _ _ g1)).trans g1⟩, ?_⟩
          refine (upd_ne (fun z => ?_)).trans g2
          rw [z] at b2
          have := (sy'.kx _ _ _ hk b2)
          have h2 := this.2
          omega
        · refine fr.trans ⟨fun b o h n => ?_, fun b h => .inl h, fun b h => by
            by_cases z : b = k
            · rw [z, upd_same] at h; cases h
            · rw [upd_ne z] at h; exact h⟩
          exact (upd_ne (fun z => n (.inr (.inr (.inr (by rw [z]; exact kin)))))).trans h
end
end VG
-- VgRooms4
set_option Elab.async false
set_option linter.all false
set_option maxRecDepth 100000
set_option maxHeartbeats 4000000
namespace VG
open PySem PySem.Spec PyProof.Rows L2
section
variable {P : Program} {w : World} {K : PySem.W.Frag} {mg : Str → Option Value} {base : Heap}
def spRTwin (K : PySem.W.Frag) : Sp := fun vs H Q _ => ∃ (d : RD), vs = [.ref d.a] ∧ Rm K H d ∧ d.s = 0 ∧ (∀ i, d.hd i = 1) ∧ Inj d.ps ∧ Inj d.ks ∧ d.pl ∉ d.ks ∧ d.ns.length ≤ 20000 ∧
  ∀ H' (d' e : RD), SysD K H' d' e → d'.ns = d.ns → e.ns = d.ns → d'.a = d.a → d'.w = d.w → Frm d.ft d'.ft H H' → H e.a = none → (∀ b, e.ft b → d.ft b ∨ H b = none) → Q (.ref e.a) H'
theorem ok_Room_twin (T : Tx K mg) : Met P w K mg base 5 "Room" "twin" ["self"] (spRTwin K) := by
  refine Met.mk0 (f_Room_twin T) (me_Room_twin T) sc_Room_twin (fun _ _ _ _ _ _ us hl => match us, hl with | [_], _ => rfl) (fun vs H Q E h => ?_) (fun cdv A outer s H vs Q E hr h => ?_)
  · obtain ⟨d, rfl, _⟩ := h; rfl
  · obtain ⟨d, rfl, r, hs0, hh, ip, ik, npk, hz, q⟩ := h
    obtain ⟨dx, hob⟩ := r.ob
    have hpl := r.pl
    refine ⟨_, (pss_cons (ps_set (i := 1) sc_Room_twin.nd rfl (Or.inl rfl) (pe_mkKW (K := K) (P := P) (w := w) (mg := mg) (base := base) ((okw_Room_init T).mono (by omega)) rfl rfl rfl rfl rfl hr (by rfl) (pa_cons (pe_tup pa_nil) pa_nil) (pk_cons (fl_width (K := K) T rfl (pv 0)) pk_nil)))
    (pss_cons (ps_fld (pv 1) (fl_many (K := K) T rfl (pv 0)) rfl)
    (pss_cons (ps_fld (pv 1) (pe_callTy (call_listK (K := K) rfl) (by rfl) (z_list T) (by decide +kernel) (pa_cons (fl_pages (K := K) T rfl (pv 0)) pa_nil)) rfl)
    (pss_cons (ps_for PassesOwn.never rfl (pi_listK (K := K) rfl (fl_pages (K := K) T rfl (pv 1))) (pg_name (i := 2) sc_Room_twin.nd rfl (Or.inl rfl))
    (pss_one (ps_fldaug (pv 2) pe_int in_add)))
    (pss_one (ps_ret (pv 1))))))), ?_⟩
    refine ⟨sz_ok (Nat.zero_le _), fun t ht => ⟨_, rfl, _, ⟨_, rfl, _, _, _, _, _, ⟨dx, (Same.new ht) _ _ hob⟩, rfl⟩, rfl, rfl, fun x xd hx hxd hne => ?_⟩⟩
    have s1 : Same H (upd (upd (upd H t (.tup [])) xd (.own x)) x (.ins (He.ga K "Room") xd [])) := ((Same.new ht).trans (Same.new hxd)).trans (Same.new (by rw [upd_ne (Ne.symm hne)]; exact hx))
    have hx0 : H x = none := (Same.new ht).free hx
    have ntx : t ≠ x := ne_of_none upd_same hx
    have ntd : t ≠ xd := ne_of_none upd_same hxd
    refine ⟨x, xd, t, [], d.w, rfl, upd_same, .inr ⟨SqT.of (by rw [upd_ne ntx, upd_ne ntd]; exact upd_same), rfl⟩, ntx, r.w0, r.w1, Nat.zero_le _, fun H1 pl0 ps0 ks0 s2 r1 _ _ _ _ => ⟨rfl, ?_⟩⟩
    have s12 : Same H H1 := fun b o e => s2 b o (ne_of_none e hx0) (s1 b o e)
    obtain ⟨xd2, hx1⟩ := r1.ob
    have s12 : Same H H1 := fun b o e => s2 b o (ne_of_none e hx0) (s1 b o e)
    have nxa : ∀ b o, H b = some o → b ≠ x := fun b o e => ne_of_none e hx0
    refine ⟨_, rfl, _, ⟨_, rfl, _, _, _, _, _, ⟨dx, s12 _ _ hob⟩, rfl⟩, _, rfl, x, _, xd2, _, rfl, hx1, cl_Room T, no_Room_many T, (show 5 < 1000 by decide), ?_⟩
    rw [room_put_many]
    have s3 : Same H (upd H1 x (.ins (He.ga K "Room") xd2 (roomF (d.ns.length : Nat) d.w pl0 0 0))) := fun b o e => by rw [upd_ne (nxa b o e)]; exact s12 b o e
    refine ⟨_, rfl, _, ⟨_, rfl, _, _, _, _, _, ⟨dx, s3 _ _ hob⟩, rfl⟩, d.pl, _, rfl, .inl (SqL.of (s3 _ _ hpl)), fun l hl => ?_⟩
    have hlx : x ≠ l := ne_of_none upd_same hl
    refine ⟨_, rfl, x, _, xd2, roomF (d.ns.length : Nat) d.w pl0 0 0, rfl, by rw [upd_ne hlx]; exact upd_same, cl_Room T, no_Room_pages T, (show 5 < 1000 by decide), ?_⟩
    rw [room_put_pages]
    have f1 : (upd (upd (upd H1 x (.ins (He.ga K "Room") xd2 (roomF (d.ns.length : Nat) d.w pl0 0 0))) l (.lst (d.ps.map V.ref))) x (.ins (He.ga K "Room") xd2 (roomF (d.ns.length : Nat) d.w l 0 0))) x = some (.ins (He.ga K "Room") xd2 (roomF (d.ns.length : Nat) d.w l 0 0)) := upd_same
    have f2 : (upd (upd (upd H1 x (.ins (He.ga K "Room") xd2 (roomF (d.ns.length : Nat) d.w pl0 0 0))) l (.lst (d.ps.map V.ref))) x (.ins (He.ga K "Room") xd2 (roomF (d.ns.length : Nat) d.w l 0 0))) l = some (.lst (d.ps.map V.ref)) := by rw [upd_ne hlx.symm]; exact upd_same
    have f3 : Same H (upd (upd (upd H1 x (.ins (He.ga K "Room") xd2 (roomF (d.ns.length : Nat) d.w pl0 0 0))) l (.lst (d.ps.map V.ref))) x (.ins (He.ga K "Room") xd2 (roomF (d.ns.length : Nat) d.w l 0 0))) := fun b o e => by
      rw [upd_ne (nxa b o e), upd_ne (ne_of_none (s3 b o e) hl)]; exact s3 b o e
    show tFor (iList K (tFl (r_pages K) (tVar 1))) (gName 2) _ _ _ (upd (upd (upd H1 x (.ins (He.ga K "Room") xd2 (roomF (d.ns.length : Nat) d.w pl0 0 0))) l (.lst (d.ps.map V.ref))) x (.ins (He.ga K "Room") xd2 (roomF (d.ns.length : Nat) d.w l 0 0)))
    generalize upd (upd (upd H1 x (.ins (He.ga K "Room") xd2 (roomF (d.ns.length : Nat) d.w pl0 0 0))) l (.lst (d.ps.map V.ref))) x (.ins (He.ga K "Room") xd2 (roomF (d.ns.length : Nat) d.w l 0 0)) = H4 at f1 f2 f3 ⊢
    have l0 : H l = none := s3.free hl
    have pgi : ∀ b ∈ d.ps, ∃ j k, d.ps[j]? = some b ∧ d.ks[j]? = some k := fun b hb => by
      obtain ⟨j, ej⟩ := List.mem_iff_getElem?.mp hb
      have hj := (List.getElem?_eq_some_iff.mp ej).1
      exact ⟨j, d.ks[j]'(by rw [r.lk, ← r.lp]; exact hj), ej, List.getElem?_eq_getElem _⟩
    have ppage : ∀ b ∈ d.ps, ∃ pd k h, H b = some (.ins (He.ga K "Page") pd (pageF k h)) := fun b hb => by
      obtain ⟨j, k, e1, e2⟩ := pgi b hb
      obtain ⟨⟨pd, g⟩, _⟩ := r.pg j b k e1 e2
      exact ⟨pd, k, _, g⟩
    have npl : ∀ b xs, H4 b = some (.lst xs) → b ∉ d.ps := fun b xs h hb => by
      obtain ⟨pd, k, h', g⟩ := ppage b hb
      rw [f3 _ _ g] at h; cases h
    have nxp : x ∉ d.ps := fun hb => by
      obtain ⟨pd, k, h', g⟩ := ppage x hb
      rw [hx0] at g; cases g
    have nap : d.a ∉ d.ps := fun hb => by
      obtain ⟨pd, k, h', g⟩ := ppage d.a hb
      rw [hob] at g
      exact room_ne_page (Option.some.inj g)
    refine ⟨_, rfl, _, ⟨_, rfl, _, _, _, _, _, ⟨xd2, f1⟩, rfl⟩, l, rfl, ⟨_, SqL.of f2⟩, for_it (walk_refs (as := d.ps) rfl) (fun i σ H5 => (∀ b o, b ∉ d.ps → H4 b = some o → H5 b = some o) ∧ (∀ j p k, d.ps[j]? = some p → d.ks[j]? = some k → PgO K H5 p k (if j < i then 2 else 1)) ∧ ∃ v, σ = [some (.ref d.a), some (.ref x), v])
      ⟨fun b o _ e => e, fun j p k e1 e2 => ?_, none, rfl⟩ (fun i σ H5 _ h => SqL.of (h.1 _ _ (npl _ _ f2) f2)) ?_ ?_⟩
    · obtain ⟨⟨pd, g⟩, _⟩ := r.pg j p k e1 e2
      rw [if_neg (by omega)]
      rw [hh j] at g
      exact ⟨pd, f3 _ _ g⟩
    · rintro i y σ H5 H6 hi ⟨k5, g5, v, rfl⟩ ⟨rfl, p, hp, rfl⟩
      obtain ⟨j, k, e1, e2⟩ := pgi p (List.mem_of_getElem? hp)
      have hji := ip _ _ _ e1 hp
      subst hji
      obtain ⟨pd, g⟩ := g5 j p k e1 e2
      rw [if_neg (by omega)] at g
      refine ⟨_, rfl, p, _, pd, _, _, rfl, g, cl_Page T, no_Page_holders T, page_holders, _, _, rfl, rfl, pd, pageF k 1, g, (show 2 < 1000 by decide), fun b o n e => ?_, fun m p' k' a1 a2 => ?_, _, rfl⟩
      · rw [upd_ne (fun z => n (by rw [z]; exact List.mem_of_getElem? hp))]; exact k5 b o n e
      · rw [page_put]
        by_cases hm : m = j
        · subst hm
          rw [a1] at hp
          cases hp
          rw [a2] at e2
          cases e2
          rw [if_pos (by omega)]
          exact ⟨pd, upd_same⟩
        · obtain ⟨pd', g'⟩ := g5 m p' k' a1 a2
          refine ⟨pd', ?_⟩
          rw [upd_ne (fun z => hm (ip _ _ _ (by rw [z] at a1; exact a1) e1))]
          have : (if m < j + 1 then (2 : Int) else 1) = if m < j then 2 else 1 := by
            by_cases q : m < j
            · rw [if_pos q, if_pos (by omega)]
            · rw [if_neg q, if_neg (by omega)]
          rw [this]
          exact g'
    · rintro σ H5 ⟨k5, g5, v, rfl⟩
      have g5' : ∀ j p k, d.ps[j]? = some p → d.ks[j]? = some k → PgO K H5 p k 2 := fun j p k e1 e2 => by
        have g := g5 j p k e1 e2
        rw [if_pos (List.getElem?_eq_some_iff.mp e1).1] at g
        exact g
      have lists : ∀ b xs, H b = some (.lst xs) → H5 b = some (.lst xs) := fun b xs e => k5 b _ (npl b xs (f3 _ _ e)) (f3 _ _ e)
      refine ⟨_, rfl, q H5 { d with hd := fun _ => 2 } { a := x, w := d.w, ns := d.ns, pl := l, c := 0, s := 0, ps := d.ps, ks := d.ks, hd := fun _ => 2 } ?_ rfl rfl rfl rfl ?_ hx0 (fun b f => by
        rcases f with rfl | rfl | f | f
        · exact .inr hx0
        · exact .inr l0
        · exact .inl (.inr (.inr (.inl f)))
        · exact .inl (.inr (.inr (.inr f))))⟩
      · refine ⟨⟨r.w0, r.w1, ⟨dx, k5 _ _ nap (f3 _ _ hob)⟩, lists _ _ hpl, r.lp, r.lk, fun j p k e1 e2 => ⟨g5' j p k e1 e2, lists _ _ (r.pg j p k e1 e2).2⟩⟩,
          ⟨r.w0, r.w1, ⟨xd2, k5 _ _ nxp f1⟩, k5 _ _ (npl _ _ f2) f2, r.lp, r.lk, fun j p k e1 e2 => ⟨g5' j p k e1 e2, lists _ _ (r.pg j p k e1 e2).2⟩⟩,
          hs0, rfl, rfl, rfl, nxa _ _ hob, ne_of_none hpl l0, ip, ik, ⟨npk, npk, fun z => ?_⟩, fun i j p e1 e2 => ⟨ip _ _ _ e1 e2, rfl⟩, fun i j p e1 e2 => ⟨ik _ _ _ e1 e2, rfl⟩, fun i => .inr ⟨rfl, rfl, rfl⟩⟩
        obtain ⟨j, ej⟩ := List.mem_iff_getElem?.mp (show l ∈ d.ks from z)
        have hj := (List.getElem?_eq_some_iff.mp ej).1
        obtain ⟨_, g⟩ := r.pg j (d.ps[j]'(by rw [r.lp, ← r.lk]; exact hj)) l (List.getElem?_eq_getElem _) ej
        rw [l0] at g; cases g
      · refine ⟨fun b o e n => k5 b o (fun z => n (.inr (.inr (.inl z)))) (f3 b o e), fun b h => .inl h, fun b h => ?_⟩
        cases z : H b with
        | none => rfl
        | some o =>
          by_cases hb : b ∈ d.ps
          · obtain ⟨j, k, e1, e2⟩ := pgi b hb
            obtain ⟨pd, g⟩ := g5' j b k e1 e2
            rw [g] at h; cases h
          · rw [k5 b o hb (f3 b o z)] at h; cases h
end
end VG
-- VgViews
set_option Elab.async false
set_option linter.all false
set_option maxRecDepth 100000
set_option maxHeartbeats 4000000
namespace VG
open PySem PySem.Spec PyProof.Rows L2
/-- a view: its room, sides, begin and strides -/
def VwD (K : PySem.W.Frag) (H : Hp) (v r : Addr) (ls : List Nat) (b : Int) (ss : List Int) : Prop := ∃ la sa, VwO K H v r la b sa ∧ H la = some (.tup (tn ls)) ∧ H sa = some (.tup (ti ss))
theorem VwD.keep {K : PySem.W.Frag} {H H' : Hp} {v r : Addr} {ls : List Nat} {b : Int} {ss : List Int} (h : VwD K H v r ls b ss) (k : ∀ a o, (o = .tup (tn ls) ∨ o = .tup (ti ss) ∨ a = v) → H a = some o → H' a = some o) : VwD K H' v r ls b ss :=
  let ⟨la, sa, ⟨dx, h1⟩, h2, h3⟩ := h; ⟨la, sa, ⟨dx, k _ _ (.inr (.inr rfl)) h1⟩, k _ _ (.inl rfl) h2, k _ _ (.inr (.inl rfl)) h3⟩
theorem VwD.same {K : PySem.W.Frag} {H H' : Hp} {v r : Addr} {ls : List Nat} {b : Int} {ss : List Int} (h : VwD K H v r ls b ss) (s : Same H H') : VwD K H' v r ls b ss := h.keep fun a o _ e => s a o e
theorem tn_toI (ns : List Nat) : tn ns = ti (toI ns) := tn_ti ns
section
variable {P : Program} {w : World} {K : PySem.W.Frag} {mg : Str → Option Value} {base : Heap}
def spVetStrides : Sp := fun vs H Q _ => ∃ (a : Addr) (n : Nat) (ss : List Int), vs = [.ref a, .int (n : Int)] ∧ H a = some (.tup (ti ss)) ∧ ss.length = n ∧ (∀ s ∈ ss, -600 ≤ s ∧ s ≤ 600) ∧ ∀ H', Same H H' → Q .non H'
theorem ok_vet_strides (T : Tx K mg) : Def P w K mg base 2 "vet_strides" ["thing", "many"] [] spVetStrides := by
  obtain ⟨_, h_MOST_STRIDE⟩ := i_MOST_STRIDE T
  refine Def.mk0 (f_vet_strides T) (g_vet_strides T) sc_vet_strides (fun _ _ _ _ _ _ us hl => match us, hl with | [_, _], _ => rfl) (fun vs H Q E h => ?_) (fun cdv A outer s H vs Q E hr h => ?_)
  · obtain ⟨a, n, ss, rfl, _⟩ := h; rfl
  · obtain ⟨a, n, ss, rfl, ha, hl, hb, q⟩ := h
    refine ⟨_, (pss_cons (ps_if (pt_not (pt_val (pe_callB (call_isiK' (K := K) rfl) (by rfl) (z_isinstance T) (by decide +kernel) (pa_cons (pv 0) (pa_cons (pe_bltn (v := .ty "tuple") (by rfl) (z_tuple T) (by decide +kernel) rfl) pa_nil))))) (pss_one ps_never) pss_nil)
    (pss_cons (ps_for PassesOwn.never rfl (pi_enumK (K := K) rfl (by rfl) (z_enumerate T) (pa_cons (pv 0) pa_nil)) (pg_tupK (K := K) (n := 2) rfl rfl (pgs_cons (pg_name (i := 2) sc_vet_strides.nd rfl (Or.inl rfl)) (pgs_cons (pg_name (i := 3) sc_vet_strides.nd rfl (Or.inl rfl)) pgs_nil)))
    (pss_one (ps_if (PW.pt (pw_or (pt_not (pt_val (pe_fK (K := K) (P := P) (w := w) (mg := mg) (base := base) ((ok_is_whole T).mono (by omega)) rfl rfl rfl rfl rfl hr (by rfl) (pa_cons (pv 3) pa_nil)))) (pw_or1 (pt_not (pt_chain op_le op_le (pe_un un_neg (pe_glob (v := .int 600) (by rfl) h_MOST_STRIDE ⟨_, rfl⟩)) (pv 3) (pe_glob (v := .int 600) (by rfl) h_MOST_STRIDE ⟨_, rfl⟩)))))) (pss_one ps_never) pss_nil)))
    (pss_one (ps_if (pt_cmpR op_ne (pe_callB (call_lenK (K := K) rfl) (by rfl) (z_len T) (by decide +kernel) (pa_cons (pv 0) pa_nil)) (pv 1) (nomark _)) (pss_one ps_never) pss_nil)))), ?_⟩
    refine ⟨_, rfl, _, _, _, _, true, rfl, .ty "tuple", .base (.tup ha), kit_ty (by decide +kernel), _, rfl, iteF ?_⟩
    refine ⟨_, rfl, a, _, rfl, SqT.of ha, for_it (walk_enumT (xs := ti ss)) (fun i σ H2 => Same H H2 ∧ ∃ v u, σ = [some (.ref a), some (.int (n : Int)), v, u]) ⟨Same.refl H, none, none, rfl⟩ (fun i σ H2 _ h => SqT.of (h.1 _ _ ha)) ?_ ?_⟩
    · rintro i x σ H2 H3 hi ⟨s2, v, u, rfl⟩ ⟨T1, x1, y1, rfl, hT, rfl, e1, e2⟩
      cases e1
      obtain ⟨m, hm, rfl⟩ := ti_at e2
      have hm' := hb m (List.mem_of_getElem? hm)
      refine ⟨T1, _, rfl, SqT.of upd_same, rfl, _, _, rfl, _, _, rfl, rfl, ?_⟩
      refine ⟨_, rfl, _, rfl, _, rfl, iteF ?_⟩
      refine ⟨_, rfl, _, rfl, _, _, rfl, rfl, true, congrArg V.bl (decide_eq_true (by omega)), iteT ⟨_, _, rfl, rfl, _, rfl, ?_⟩⟩
      exact notB (show m ≤ 600 by omega) ⟨s2.trans (Same.new hT), _, _, rfl⟩
    · rintro σ H2 ⟨s2, v, u, rfl⟩
      refine ⟨_, rfl, a, _, rfl, .inr (SqT.of (s2 _ _ ha)), _, rfl, ?_⟩
      rw [ti_len, hl]
      exact ⟨rfl, _, rfl, notB rfl (q H2 s2)⟩
def spCellsBy (K : PySem.W.Frag) : Sp := fun vs H Q _ => ∃ (a c : Addr) (b : Int) (ls : List Nat) (ss : List Int), vs = [.ref a, .int b, .ref c] ∧ H a = some (.tup (tn ls)) ∧ H c = some (.tup (ti ss)) ∧ ss.length = ls.length ∧ ls.length ≤ 5 ∧ (∀ l ∈ ls, l ≤ 600) ∧ sz ls ≤ 90000 ∧
  ∀ l H', Same H H' → H l = none → H' l = some (.lst (ti (cells ls b ss))) → Q (.ref l) H'
theorem ok_cells_by (T : Tx K mg) : Def P w K mg base 2 "cells_by" ["lengths", "begin", "steps"] [] (spCellsBy K) := by
  refine Def.mk0 (f_cells_by T) (g_cells_by T) sc_cells_by (fun _ _ _ _ _ _ us hl => match us, hl with | [_, _, _], _ => rfl) (fun vs H Q E h => ?_) (fun cdv A outer s H vs Q E hr h => ?_)
  · obtain ⟨a, c, b, ls, ss, rfl, _⟩ := h; rfl
  · obtain ⟨a, c, b, ls, ss, rfl, ha, hc, hsl, h5, h6, hz, q⟩ := h
    refine ⟨_, (pss_cons (ps_if (pt_cmpR op_eq (pe_fK (K := K) (P := P) (w := w) (mg := mg) (base := base) ((ok_size_of T).mono (by omega)) rfl rfl rfl rfl rfl hr (by rfl) (pa_cons (pv 0) pa_nil)) pe_int (nomark _)) (pss_one (ps_ret (pe_lst pa_nil))) pss_nil)
    (pss_cons (ps_set (i := 3) sc_cells_by.nd rfl (Or.inl rfl) (pe_lst (pa_cons (pv 1) pa_nil)))
    (pss_cons (ps_for PassesOwn.never rfl (pi_zipK (K := K) rfl (by rfl) (z_zip T) (pa_cons (pv 0) (pa_cons (pv 2) pa_nil))) (pg_tupK (K := K) (n := 2) rfl rfl (pgs_cons (pg_name (i := 4) sc_cells_by.nd rfl (Or.inr rfl)) (pgs_cons (pg_name (i := 5) sc_cells_by.nd rfl (Or.inr rfl)) pgs_nil)))
    (pss_one (ps_setLc2 (i := 3) (own := [("cell", 6), ("k", 7)]) (vs1 := [7]) (tt := tYes) (tt1 := tYes) rfl sc_cells_by.nd rfl rfl (sw_true rfl rfl rfl (by decide +kernel)) (pi_listK (K := K) rfl (pv 3)) (blkOk_by (own := [("cell", 6), ("k", 7)]) (sc := defScope s_cells_by) (N := n_cells_by) (by decide +kernel)) (by decide) (fun _ _ _ _ _ => (pg_name (i := 6) sc_cells_by.nd rfl (by first | exact Or.inl rfl | exact Or.inr rfl))) (fun _ _ _ _ _ => pts_nil) (fun _ _ _ _ _ => (pi_range1 (by rfl) (z_range T) (pa_cons (pv 4) pa_nil))) (fun _ _ _ _ _ => (pg_name (i := 7) sc_cells_by.nd rfl (by first | exact Or.inl rfl | exact Or.inr rfl))) (fun _ _ _ _ _ => pts_nil) (fun _ _ _ _ _ => (pe_op op_add (pv 6) (pe_op op_mul (pv 5) (pv 7)))))))
    (pss_one (ps_ret (pv 3)))))), ?_⟩
    refine ⟨_, rfl, a, ls, rfl, SqT.of ha, h6, rfl, _, rfl, ite2 (fun z => ?_) fun z => ?_⟩
    · have e : sz ls = 0 := by have q := V.int.inj (of_decide_eq_true z); omega
      refine ⟨sz_ok (Nat.zero_le _), fun p hp => q p _ (Same.new hp) hp ?_⟩
      rw [cells_zero e]
      exact upd_same
    · have e : sz ls ≠ 0 := fun z' => z (by rw [z']; rfl)
      refine ⟨_, rfl, sz_ok (by show 1 ≤ 100000; decide), fun f hf => ?_⟩
      have s1 : Same H (upd H f (.lst [.int b])) := Same.new hf
      refine ⟨_, rfl, _, rfl, a, c, tn ls, ti ss, rfl, .inr ⟨SqT.of (s1 _ _ ha), SqT.of (s1 _ _ hc), for_it (walk_zipT (n := ls.length) (tn_len _) (by rw [ti_len, hsl])) (fun i σ H2 => Same H H2 ∧ ∃ l v u, H l = none ∧ σ = [some (.ref a), some (.int b), some (.ref c), some (.ref l), v, u, none, none] ∧ H2 l = some (.lst (ti (cells (ls.take i) b (ss.take i)))))
        ⟨s1, f, none, none, hf, rfl, ?_⟩ (fun i σ H2 _ h => ⟨SqT.of (h.1 _ _ ha), SqT.of (h.1 _ _ hc)⟩) ?_ ?_⟩⟩
      · rw [List.take_zero, List.take_zero, cells_nil]; exact upd_same
      · rintro i x σ H2 H3 hi ⟨s2, l, v, u, hl0, rfl, hl2⟩ ⟨T1, x1, y1, rfl, hT, rfl, e1, e2⟩
        obtain ⟨n, hn, rfl⟩ := tn_at e1
        obtain ⟨st, hs, rfl⟩ := ti_at e2
        have hm := h6 n (List.mem_of_getElem? hn)
        have hl3 := (Same.new (o := .tup [.int (n : Int), .int st]) hT) _ _ hl2
        refine ⟨T1, _, rfl, SqT.of upd_same, rfl, _, _, rfl, _, _, rfl, rfl, ?_⟩
        refine ⟨_, rfl, l, rfl, ⟨_, SqL.of hl3⟩, fun D hD => ?_⟩
        have hfl : ((cells (ls.take i) b (ss.take i)).flatMap fun c => (List.range n).map fun k : Nat => c + st * (k : Int)).length ≤ 90000 := by
          rw [← cells_take b hsl hn hs, cells_len]
          exact Nat.le_trans (sz_take_le e _) hz
        refine lc2_new (cells (ls.take i) b (ss.take i)) (fun c => (List.range n).map fun k : Nat => c + st * (k : Int)) walk_ti (i0 := 6) (i1 := 7) hfl hD (fun y v _ => y = V.int v)
          (fun H s => SqL.of (s _ _ hl3)) (fun _ _ _ _ _ e => e) (fun x => rfl) ?_ ?_
        · rintro j p x H3 H4 Kw hp s3 ⟨acc, hacc⟩ ⟨rfl, c', hc', rfl⟩ kw
          rw [hp] at hc'
          cases hc'
          refine ⟨_, rfl, (n : Int), rfl, by omega, by omega, kw _ H4 _ _ (Same.refl H4) (walk_rng (by rw [List.length_map, List.length_range])) (fun _ _ => trivial) ?_⟩
          rintro k q x1 H5 H6 Kt hq b5 ⟨acc5, hacc5⟩ ⟨rfl, rfl⟩ kt
          have hk : q = p + st * (k : Int) ∧ k < n := by
            rw [List.getElem?_map] at hq
            cases z : (List.range n)[k]? with
            | none => rw [z] at hq; cases hq
            | some k' =>
              rw [z] at hq
              have h1 := List.getElem?_eq_some_iff.mp z
              obtain ⟨h1, h2⟩ := h1
              rw [List.getElem_range] at h2
              subst h2
              exact ⟨(Option.some.inj hq).symm, by simpa using h1⟩
          obtain ⟨rfl, hkn⟩ := hk
          exact ⟨rfl, _, rfl, _, rfl, _, rfl, _, _, rfl, rfl, .inr (by constructor <;> omega), _, _, rfl, rfl, kt _ _ (Same.refl _) rfl⟩
        · intro ys H4 s4 hD4 al
          have e := all2_int al
          subst e
          refine ⟨(s2.trans (Same.new hT)).trans s4, D, _, _, (s2.trans (Same.new hT)).free hD, rfl, ?_⟩
          rw [cells_take b hsl hn hs]
          exact hD4
      · rintro σ H2 ⟨s2, l, v, u, hl0, rfl, h⟩
        rw [List.take_length, ← hsl, List.take_length] at h
        exact ⟨_, rfl, q l H2 s2 hl0 h⟩
def spVetCells (K : PySem.W.Frag) : Sp := fun vs H Q _ => ∃ (n : Nat) (a c : Addr) (b : Int) (ls : List Nat) (ss : List Int), vs = [.int (n : Int), .ref a, .int b, .ref c] ∧ H a = some (.tup (tn ls)) ∧ H c = some (.tup (ti ss)) ∧ ss.length = ls.length ∧ Okl ls ∧
  Within (cells ls b ss) n ∧ ∀ H', Same H H' → Q .non H'
theorem ok_vet_cells (T : Tx K mg) : Def P w K mg base 3 "vet_cells" ["many", "lengths", "begin", "steps"] [] (spVetCells K) := by
  refine Def.mk0 (f_vet_cells T) (g_vet_cells T) sc_vet_cells (fun _ _ _ _ _ _ us hl => match us, hl with | [_, _, _, _], _ => rfl) (fun vs H Q E h => ?_) (fun cdv A outer s H vs Q E hr h => ?_)
  · obtain ⟨n, a, c, b, ls, ss, rfl, _⟩ := h; rfl
  · obtain ⟨n, a, c, b, ls, ss, rfl, ha, hc, hsl, ok, hw, q⟩ := h
    have hz : sz ls ≤ 90000 := by have := ok.size; omega
    refine ⟨_, (pss_one (ps_for PassesOwn.never rfl (pi_zipK (K := K) rfl (by rfl) (z_zip T) (pa_cons (pe_fK (K := K) (P := P) (w := w) (mg := mg) (base := base) ((ok_places_of T).mono (by omega)) rfl rfl rfl rfl rfl hr (by rfl) (pa_cons (pv 1) pa_nil)) (pa_cons (pe_fK (K := K) (P := P) (w := w) (mg := mg) (base := base) ((ok_cells_by T).mono (by omega)) rfl rfl rfl rfl rfl hr (by rfl) (pa_cons (pv 1) (pa_cons (pv 2) (pa_cons (pv 3) pa_nil)))) pa_nil))) (pg_tupK (K := K) (n := 2) rfl rfl (pgs_cons (pg_name (i := 4) sc_vet_cells.nd rfl (Or.inl rfl)) (pgs_cons (pg_name (i := 5) sc_vet_cells.nd rfl (Or.inl rfl)) pgs_nil)))
    (pss_one (ps_if (pt_not (pt_chain op_le op_lt pe_int (pv 5) (pv 0))) (pss_one ps_never) pss_nil)))), ?_⟩
    refine ⟨_, rfl, a, ls, rfl, SqT.of ha, ok.len, ok.each, hz, fun p H1 s1 hp ⟨as, hp1, tps⟩ => ?_⟩
    refine ⟨_, rfl, _, rfl, _, rfl, a, c, b, ls, ss, rfl, s1 _ _ ha, s1 _ _ hc, hsl, ok.len, ok.each, hz, fun l H2 s2 hl hl2 => ?_⟩
    have hp2 := s2 _ _ hp1
    have lp : (as.map V.ref).length = sz ls := by rw [List.length_map, tps.len, places_len]
    have lc : (ti (cells ls b ss)).length = sz ls := by rw [ti_len, cells_len]
    refine ⟨p, l, _, _, rfl, .inl ⟨SqL.of hp2, SqL.of hl2, for_it (walk_zipL lp lc) (fun i σ H3 => Same H2 H3 ∧ ∃ u v, σ = [some (.int (n : Int)), some (.ref a), some (.int b), some (.ref c), u, v]) ⟨Same.refl _, none, none, rfl⟩ (fun i σ H3 _ h => ⟨SqL.of (h.1 _ _ hp2), SqL.of (h.1 _ _ hl2)⟩) ?_ ?_⟩⟩
    · rintro i x σ H3 H4 hi ⟨s3, v, u, rfl⟩ ⟨T1, x1, y1, rfl, hT, rfl, e1, e2⟩
      obtain ⟨m, hm, rfl⟩ := ti_at e2
      have hm' := hw m (List.mem_of_getElem? hm)
      refine ⟨T1, _, rfl, SqT.of upd_same, rfl, _, _, rfl, _, _, rfl, rfl, ?_⟩
      refine ⟨_, rfl, _, _, rfl, rfl, true, congrArg V.bl (decide_eq_true (by omega)), iteT ⟨_, rfl, _, _, rfl, rfl, _, rfl, ?_⟩⟩
      exact notB (show m < (n : Int) by omega) ⟨s3.trans (Same.new hT), _, _, rfl⟩
    · rintro σ H3 ⟨s3, v, u, rfl⟩
      exact q H3 ((s1.trans s2).trans s3)
def heldF (r : Addr) : List (Str × V) := [("held", .ref r)]
def spTell (K : PySem.W.Frag) : Sp := fun vs H Q _ => ∃ (v dx r a c : Addr) (b : Int) (ls : List Nat) (ss : List Int) (fs : List (Str × V)), vs = [.ref v, .ref a, .int b, .ref c] ∧ H v = some (.ins (He.ga K "View") dx fs) ∧ (fs = heldF r ∨ ∃ la b0 sa, fs = viewF r la b0 sa) ∧
  H a = some (.tup (tn ls)) ∧ H c = some (.tup (ti ss)) ∧ ss.length = ls.length ∧ Okl ls ∧ ∀ H', (∀ x o, x ≠ v → H x = some o → H' x = some o) → VwD K H' v r ls (nb ls b) (nst ls ss) → Q .non H'
theorem nst1_at : ∀ {ls : List Nat} {ss : List Int} {i l : Nat} {s : Int}, ls[i]? = some l → ss[i]? = some s → (nst1 ls ss)[i]? = some (if l = 1 then 0 else s)
  | _ :: _, _ :: _, 0, _, _, h1, h2 => by
    simp at h1 h2
    subst h1 h2
    rfl
  | _ :: ls, _ :: ss, i + 1, _, _, h1, h2 => nst1_at (ls := ls) (ss := ss) (i := i) (by simpa using h1) (by simpa using h2)
  | [], _, _, _, _, h1, _ => by simp at h1
  | _ :: _, [], _, _, _, _, h2 => by simp at h2
theorem view_put (r : Addr) (fs : List (Str × V)) (h : fs = heldF r ∨ ∃ la b0 sa, fs = viewF r la b0 sa) (la : Addr) (b : Int) (sa : Addr) : putF "steps" (.ref sa) (putF "begin" (.int b) (putF "lengths" (.ref la) fs)) = viewF r la b sa := by
  rcases h with rfl | ⟨l0, b0, s0, rfl⟩
  · kernel_rfl
  · rw [view_put_lengths, view_put_begin, view_put_steps]
theorem ok_View_tell (T : Tx K mg) : Met P w K mg base 2 "View" "tell" ["self", "lengths", "begin", "steps"] (spTell K) := by
  refine Met.mk0 (f_View_tell T) (me_View_tell T) sc_View_tell (fun _ _ _ _ _ _ us hl => match us, hl with | [_, _, _, _], _ => rfl) (fun vs H Q E h => ?_) (fun cdv A outer s H vs Q E hr h => ?_)
  · obtain ⟨v, dx, r, a, c, b, ls, ss, fs, rfl, _⟩ := h; rfl
  · obtain ⟨v, dx, r, a, c, b, ls, ss, fs, rfl, hv, hfs, ha, hc, hsl, ok, q⟩ := h
    have hfl : fs.length ≤ 4 := by
      rcases hfs with rfl | ⟨l0, b0, s0, rfl⟩
      · exact (show 1 ≤ 4 by decide)
      · exact (show 4 ≤ 4 from Nat.le_refl 4)
    refine ⟨_, (pss_cons (ps_fld (pv 0) (pv 1) rfl)
    (pss_one (ps_if (pt_cmpR op_eq (pe_fK (K := K) (P := P) (w := w) (mg := mg) (base := base) ((ok_size_of T).mono (by omega)) rfl rfl rfl rfl rfl hr (by rfl) (pa_cons (pv 1) pa_nil)) pe_int (nomark _)) (pss_cons (ps_fld (pv 0) pe_int rfl)
    (pss_one (ps_fld (pv 0) (pe_op (op_mulT (K := K) rfl) (pe_tup (pa_cons pe_int pa_nil)) (pe_callB (call_lenK (K := K) rfl) (by rfl) (z_len T) (by decide +kernel) (pa_cons (pv 1) pa_nil))) rfl))) (pss_cons (ps_fld (pv 0) (pv 2) rfl)
    (pss_one (ps_fld (pv 0) (pe_callTy (call_tupK (K := K) rfl) (by rfl) (z_tuple T) (by decide +kernel) (pa_cons (pe_lc (own := [("length", 4), ("step", 5)]) (tt := tYes) rfl sc_View_tell.nd (pi_zipK (K := K) rfl (by rfl) (z_zip T) (pa_cons (pv 1) (pa_cons (pv 3) pa_nil))) (blkOk_by (own := [("length", 4), ("step", 5)]) (sc := defScope s_View_tell) (N := n_View_tell) (by decide +kernel)) (fun _ _ _ _ _ => (pg_tupK (K := K) (n := 2) rfl rfl (pgs_cons (pg_name (i := 4) sc_View_tell.nd rfl (by first | exact Or.inl rfl | exact Or.inr rfl)) (pgs_cons (pg_name (i := 5) sc_View_tell.nd rfl (by first | exact Or.inl rfl | exact Or.inr rfl)) pgs_nil)))) (fun _ _ _ _ _ => pts_nil) (fun _ _ _ _ _ => (pe_ifExp (pt_cmpR op_eq (pv 4) pe_int (nomark _)) pe_int (pv 5)))) pa_nil)) rfl)))))), ?_⟩
    have nav : a ≠ v := ne_of ha hv (by intro z; cases z)
    have ncv : c ≠ v := ne_of hc hv (by intro z; cases z)
    refine ⟨_, rfl, _, rfl, v, _, dx, _, rfl, hv, cl_View T, no_View_lengths T, by omega, ?_⟩
    refine ⟨_, rfl, a, ls, rfl, SqT.of (by rw [upd_ne nav]; exact ha), ok.each, rfl, _, rfl, ite2 (fun z => ?_) fun z => ?_⟩
    · have e : sz ls = 0 := by have q := V.int.inj (of_decide_eq_true z); omega
      refine ⟨_, rfl, v, _, dx, _, rfl, upd_same, cl_View T, no_View_begin T, by have := pF (f := "lengths") (v := .ref a) (Nat.le_refl fs.length); omega, ?_⟩
      rw [upd_upd]
      have hk1 : ls.length ≥ 1 := by
        cases ls with
        | nil => simp [sz] at e
        | cons _ _ => simp
      have l2 : (putF "begin" (.int 0) (putF "lengths" (.ref a) fs)).length < 1000 := by have := pF (f := "begin") (v := .int 0) (pF (f := "lengths") (v := .ref a) (Nat.le_refl fs.length)); omega
      have hfin : ∀ (x : Addr) (H3 : Hp), (∀ y o, y ≠ v → H y = some o → H3 y = some o) → H3 v = some (.ins (He.ga K "View") dx (putF "begin" (.int 0) (putF "lengths" (.ref a) fs))) → H3 x = some (.tup (List.replicate ls.length (.int 0))) → Q .non (upd H3 v (.ins (He.ga K "View") dx (putF "steps" (.ref x) (putF "begin" (.int 0) (putF "lengths" (.ref a) fs))))) := by
        intro x H3 k3 v3 x3
        rw [view_put r fs hfs]
        refine q _ (fun y o n h => by rw [upd_ne n]; exact k3 y o n h) ⟨a, x, ⟨dx, ?_⟩, ?_, ?_⟩
        · rw [upd_same, nb, if_pos e]
        · rw [upd_ne nav]; exact k3 _ _ nav ha
        · rw [upd_ne (ne_of x3 v3 (by intro z; cases z)), x3, nst, if_pos e]
          unfold ti
          rw [List.map_replicate]
      generalize hH2 : upd H v (.ins (He.ga K "View") dx (putF "begin" (.int 0) (putF "lengths" (.ref a) fs))) = H2
      have v2 : H2 v = some (.ins (He.ga K "View") dx (putF "begin" (.int 0) (putF "lengths" (.ref a) fs))) := by rw [← hH2]; exact upd_same
      have k2 : ∀ y o, y ≠ v → H y = some o → H2 y = some o := fun y o n h => by rw [← hH2, upd_ne n]; exact h
      refine ⟨sz_ok (by show 1 ≤ 100000; decide), fun t ht => ⟨_, rfl, a, _, rfl, .inr (SqT.of ((Same.new ht) _ _ (k2 _ _ nav ha))), ?_⟩⟩
      have s3 : Same H2 (upd H2 t (.tup [.int 0])) := Same.new ht
      rw [tn_len]
      refine ⟨t, ls.length, [.int 0], rfl, rfl, SqT.of upd_same, by simp, hk1, by have := ok.len; omega, (show 1 ≤ 1000 by decide), fun hk => ?_, fun hk p hp => ?_⟩
      · refine ⟨_, rfl, v, _, dx, _, rfl, s3 _ _ v2, cl_View T, no_View_steps T, l2, ?_⟩
        exact hfin t _ (fun y o n h => s3 _ _ (k2 y o n h)) (s3 _ _ v2) (by rw [hk]; exact upd_same)
      · have s4 : Same H2 (upd (upd H2 t (.tup [.int 0])) p (.tup (List.replicate ls.length [V.int 0]).flatten)) := s3.trans (Same.new hp)
        refine ⟨_, rfl, v, _, dx, _, rfl, s4 _ _ v2, cl_View T, no_View_steps T, l2, ?_⟩
        refine hfin p _ (fun y o n h => s4 _ _ (k2 y o n h)) (s4 _ _ v2) ?_
        rw [upd_same]
        congr 2
        induction ls.length with
        | zero => rfl
        | succ n ih => rw [List.replicate_succ, List.replicate_succ, List.flatten_cons, ih]; rfl
    · have e : sz ls ≠ 0 := fun z' => z (by rw [z']; rfl)
      refine ⟨_, rfl, _, rfl, v, _, dx, _, rfl, upd_same, cl_View T, no_View_begin T, by have := pF (f := "lengths") (v := .ref a) (Nat.le_refl fs.length); omega, ?_⟩
      rw [upd_upd]
      have l2 : (putF "begin" (.int b) (putF "lengths" (.ref a) fs)).length < 1000 := by have := pF (f := "begin") (v := .int b) (pF (f := "lengths") (v := .ref a) (Nat.le_refl fs.length)); omega
      have ncv : c ≠ v := ne_of hc hv (by intro z; cases z)
      generalize hH2 : upd H v (.ins (He.ga K "View") dx (putF "begin" (.int b) (putF "lengths" (.ref a) fs))) = H2
      have v2 : H2 v = some (.ins (He.ga K "View") dx (putF "begin" (.int b) (putF "lengths" (.ref a) fs))) := by rw [← hH2]; exact upd_same
      have k2 : ∀ y o, y ≠ v → H y = some o → H2 y = some o := fun y o n h => by rw [← hH2, upd_ne n]; exact h
      have ha2 := k2 _ _ nav ha
      have hc2 := k2 _ _ ncv hc
      refine ⟨_, rfl, _, rfl, a, c, tn ls, ti ss, rfl, .inr ⟨SqT.of ha2, SqT.of hc2, fun D hD => ?_⟩⟩
      refine lc_new (walk_zipT (n := ls.length) (tn_len _) (by rw [ti_len, hsl])) (by have := ok.len; omega) hD (fun i y _ => ∃ k : Int, (nst1 ls ss)[i]? = some k ∧ y = .int k) (fun H3 s3 => ⟨SqT.of (s3 _ _ ha2), SqT.of (s3 _ _ hc2)⟩) (fun _ _ _ _ _ h => h) ?_ ?_
      · rintro i x H3 H4 Kt hi s3 hacc ⟨T1, x1, y1, rfl, hT, rfl, e1, e2⟩ kt
        obtain ⟨l, hl, rfl⟩ := tn_at e1
        obtain ⟨st, hs, rfl⟩ := ti_at e2
        refine ⟨T1, _, rfl, SqT.of upd_same, rfl, _, _, rfl, _, _, rfl, rfl, rfl, _, rfl, rfl, _, rfl, ?_⟩
        have hn : (nst1 ls ss)[i]? = some (if l = 1 then 0 else st) := nst1_at hl hs
        refine ite2 (fun z => ?_) fun z => ?_
        · have z2 : l = 1 := by have q := V.int.inj (of_decide_eq_true z); omega
          rw [if_pos z2] at hn
          exact kt _ _ (Same.new hT) ⟨0, hn, rfl⟩
        · have z2 : l ≠ 1 := fun z' => z (by rw [z']; rfl)
          rw [if_neg z2] at hn
          exact ⟨_, rfl, kt _ _ (Same.new hT) ⟨st, hn, rfl⟩⟩
      · intro ys H3 s3 hD3 hy hR
        have ey := ys_ti (p := nst1 ls ss) (by rw [hy, nst1_len ls ss hsl]) hR
        subst ey
        refine ⟨D, _, rfl, .inl ⟨SqL.of hD3, fun t ht => ?_⟩⟩
        have s4 := s3.trans (Same.new (o := .tup (ti (nst1 ls ss))) ht)
        refine ⟨_, rfl, v, _, dx, _, rfl, s4 _ _ v2, cl_View T, no_View_steps T, l2, ?_⟩
        show Q .non (upd _ v (.ins (He.ga K "View") dx (putF "steps" (.ref t) (putF "begin" (.int b) (putF "lengths" (.ref a) fs)))))
        rw [view_put r fs hfs]
        refine q _ (fun y o n h => by rw [upd_ne n]; exact s4 _ _ (k2 y o n h)) ⟨a, t, ⟨dx, ?_⟩, ?_, ?_⟩
        · rw [upd_same, nb, if_neg e]
        · rw [upd_ne nav]; exact s4 _ _ ha2
        · rw [upd_ne (ne_of upd_same (s4 _ _ v2) (by intro z; cases z)), upd_same, nst, if_neg e]
end
end VG
-- VgViews2
set_option Elab.async false
set_option linter.all false
set_option maxRecDepth 100000
set_option maxHeartbeats 4000000
namespace VG
open PySem PySem.Spec PyProof.Rows L2
section
variable {P : Program} {w : World} {K : PySem.W.Frag} {mg : Str → Option Value} {base : Heap}
theorem cr_lenRoomK {X : Cx} {k : Nat} (T : Tx K mg) (h1 : X.prog = P) (h2 : X.w = w) (h3 : X.K = K) (h4 : X.mg = mg) (h5 : X.base = base) (hk : 1 ≤ k) (hr : L2.Room (k + 1) X.A) : CallR X (.builtin "len") (rLenOwn (He.ga K "Room") (spRoomLen K)) := by
  subst h1 h2 h3 h4 h5
  obtain ⟨f, fd, F, hm, hb⟩ := ((ok_Room_len (P := X.prog) (w := X.w) (base := X.base) T).mono hk).ex
  exact cr_lenOwn hm F hb hr
theorem held_tell {r : Addr} : (heldF r).lookup ("tell" : Str) = none := by kernel_rfl
def spViewInit (K : PySem.W.Frag) : Sp := fun vs H Q _ => ∃ (v dx r la : Addr) (ls : List Nat) (b : Int) (x : V) (ss ns : List Int), vs = [.ref v, .ref r, .ref la, .int b, x] ∧ H v = some (.ins (He.ga K "View") dx []) ∧ RoomR K H r ns ∧ ns.length ≤ 20000 ∧ H la = some (.tup (tn ls)) ∧ Okl ls ∧
  ((x = .non ∧ ss = toI (dense ls)) ∨ ∃ sa, x = .ref sa ∧ H sa = some (.tup (ti ss)) ∧ ss.length = ls.length ∧ ∀ s ∈ ss, -600 ≤ s ∧ s ≤ 600) ∧ Within (cells ls b ss) ns.length ∧
  ∀ H', (∀ y o, y ≠ v → H y = some o → H' y = some o) → VwD K H' v r ls (nb ls b) (nst ls ss) → Q .non H'
theorem fn_View_init (T : Tx K mg) {fd : FuncData} (F : FunR K d_View_init fd) : FnOk P w K mg base CX0 4 (He.fAd K d_View_init.at_) fd ["self", "room", "sides", "first", "strides"] (spViewInit K) := by
  refine fn_ok F sc_View_init (fun vs H Q E h => ?_) (fun cdv A outer s H vs Q E hr h => ?_)
  · obtain ⟨v, dx, r, la, ls, b, x, ss, ns, rfl, _⟩ := h; rfl
  · obtain ⟨v, dx, r, la, ls, b, x, ss, ns, rfl, hv, hR, hz, ha, ok, hx, hw, q⟩ := h
    have hsl : ss.length = ls.length := by
      rcases hx with ⟨_, rfl⟩ | ⟨sa, _, _, h, _⟩
      · unfold toI; rw [List.length_map, dense_len]
      · exact h
    have rins : ∀ H', RoomR K H' r ns → ∃ dx fs, H' r = some (.ins (He.ga K "Room") dx fs) := fun H' ⟨wd, pl, c, s, ps, ks, hd, h⟩ => let ⟨dx, q⟩ := h.ob; ⟨dx, _, q⟩
    refine ⟨_, (pss_cons (ps_set (i := 5) sc_View_init.nd rfl (Or.inl rfl) (pv 2))
    (pss_cons (ps_if (pt_cmpR op_isN (pv 2) pe_non (nomark _)) (pss_one (ps_set (i := 5) sc_View_init.nd rfl (Or.inl rfl) (pe_tup (pa_cons (pe_callB (cr_lenRoomK (k := 2) T rfl rfl rfl rfl rfl (by decide) hr) (by rfl) (z_len T) (by decide +kernel) (pa_cons (pv 1) pa_nil)) pa_nil)))) (pss_one (ps_expr (pe_fK (K := K) (P := P) (w := w) (mg := mg) (base := base) ((ok_vet_sides T).mono (by omega)) rfl rfl rfl rfl rfl hr (by rfl) (pa_cons (pv 2) pa_nil)))))
    (pss_cons (ps_set (i := 6) sc_View_init.nd rfl (Or.inl rfl) (pv 4))
    (pss_cons (ps_if (pt_cmpR op_isN (pv 4) pe_non (nomark _)) (pss_one (ps_set (i := 6) sc_View_init.nd rfl (Or.inl rfl) (pe_fK (K := K) (P := P) (w := w) (mg := mg) (base := base) ((ok_dense_strides T).mono (by omega)) rfl rfl rfl rfl rfl hr (by rfl) (pa_cons (pv 5) pa_nil)))) (pss_one (ps_expr (pe_fK (K := K) (P := P) (w := w) (mg := mg) (base := base) ((ok_vet_strides T).mono (by omega)) rfl rfl rfl rfl rfl hr (by rfl) (pa_cons (pv 4) (pa_cons (pe_callB (call_lenK (K := K) rfl) (by rfl) (z_len T) (by decide +kernel) (pa_cons (pv 5) pa_nil)) pa_nil))))))
    (pss_cons (ps_expr (pe_fK (K := K) (P := P) (w := w) (mg := mg) (base := base) ((ok_vet_cells T).mono (by omega)) rfl rfl rfl rfl rfl hr (by rfl) (pa_cons (pe_callB (cr_lenRoomK (k := 2) T rfl rfl rfl rfl rfl (by decide) hr) (by rfl) (z_len T) (by decide +kernel) (pa_cons (pv 1) pa_nil)) (pa_cons (pv 5) (pa_cons (pv 3) (pa_cons (pv 6) pa_nil))))))
    (pss_cons (ps_fld (pv 0) (pv 1) rfl)
    (pss_one (ps_expr (pe_mK (K := K) (P := P) (w := w) (mg := mg) (base := base) ((ok_View_tell T).mono (by omega)) (cl_View T) rfl rfl rfl rfl rfl hr (pv 0) (pa_cons (pv 5) (pa_cons (pv 3) (pa_cons (pv 6) pa_nil)))))))))))), ?_⟩
    refine ⟨_, rfl, _, rfl, rfl, _, rfl, iteF ?_⟩
    refine ⟨_, rfl, la, ls, rfl, ha, ok, fun H1 s1 => ?_⟩
    refine ⟨_, rfl, ?_⟩
    have tail : ∀ (H2 : Hp) (sa : Addr), Same H1 H2 → H2 sa = some (.tup (ti ss)) →
        (tSeq (tDrop (tCall (spVetCells K) [] E0 (tCons (tCB (rLenOwn (He.ga K (Str.ofString "Room")) (spRoomLen K)) (tCons (tVar 1) tNil)) (tCons (tVar 5) (tCons (tVar 3) (tCons (tVar 6) tNil))))))
          (tSeq (sFld K (tVar 0) (tVar 1) (Str.ofString "held")) (tDrop (tMeth (He.ga K (Str.ofString "View")) (Str.ofString "tell") (spTell K) [] E0 (tVar 0) (tCons (tVar 5) (tCons (tVar 3) (tCons (tVar 6) tNil)))))))
          { nx := fun x H' => Q V.non H', rt := Q } [some (.ref v), some (.ref r), some (.ref la), some (.int b), some x, some (.ref la), some (.ref sa)] H2 := by
      intro H2 sa s2 hsa
      have s12 := s1.trans s2
      have hR2 := hR.same s12
      obtain ⟨rdx, rfs, hr2⟩ := rins H2 hR2
      refine ⟨_, rfl, r, rdx, rfs, rfl, hr2, r, ns, rfl, hR2, hz, fun H3 s3 => ⟨ns.length, rfl, by omega, ?_⟩⟩
      refine ⟨_, rfl, _, rfl, _, rfl, ns.length, la, sa, b, ls, ss, rfl, s3 _ _ (s12 _ _ ha), s3 _ _ hsa, hsl, ok, hw, fun H4 s4 => ?_⟩
      have s14 := (s12.trans s3).trans s4
      have hv4 := s14 _ _ hv
      refine ⟨_, rfl, _, rfl, v, _, dx, _, rfl, hv4, cl_View T, no_View_held T, (show 0 < 1000 by decide), ?_⟩
      have ne : ∀ {y : Addr} {xs : List V}, H4 y = some (.tup xs) → y ≠ v := fun h => ne_of h hv4 (by intro z; cases z)
      have ha4 := s14 _ _ ha
      have hs4 := s4 _ _ (s3 _ _ hsa)
      refine ⟨_, rfl, v, dx, heldF r, rfl, upd_same, held_tell, _, rfl, _, rfl, _, rfl, v, dx, r, la, sa, b, ls, ss, heldF r, rfl, upd_same, .inl rfl, by rw [upd_ne (ne ha4)]; exact ha4, by rw [upd_ne (ne hs4)]; exact hs4, hsl, ok, fun H5 k5 d5 => ?_⟩
      exact q H5 (fun y o n h => k5 y o n (by rw [upd_ne n]; exact s14 _ _ h)) d5
    rcases hx with ⟨rfl, hss⟩ | ⟨sa, rfl, hsa, _, hbd⟩
    · refine ⟨_, rfl, rfl, _, rfl, iteT ⟨_, rfl, la, ls, rfl, s1 _ _ ha, ok.len, ok.each, fun t H2 s2 ht ht2 => ?_⟩⟩
      exact tail H2 t s2 (by rw [hss, ← tn_toI]; exact ht2)
    · refine ⟨_, rfl, rfl, _, rfl, iteF ⟨_, rfl, _, rfl, la, _, rfl, .inr (SqT.of (s1 _ _ ha)), sa, ls.length, ss, by rw [tn_len]; rfl, s1 _ _ hsa, hsl, hbd, fun H2 s2 => ?_⟩⟩
      exact tail H2 sa s2 (s2 _ _ (s1 _ _ hsa))
end
end VG
-- VgViews3
set_option Elab.async false
set_option linter.all false
set_option maxRecDepth 100000
set_option maxHeartbeats 4000000
namespace VG
open PySem PySem.Spec PyProof.Rows L2
section
variable {P : Program} {w : World} {K : PySem.W.Frag} {mg : Str → Option Value} {base : Heap}
theorem ok_View_init (T : Tx K mg) : Ini P w K mg base 4 "View" ["self", "room", "sides", "first", "strides"] [V.int 0, V.non] (spViewInit K) := by
  obtain ⟨fd, F⟩ := f_View_init T
  obtain ⟨ds, h1, h2⟩ := b_View1 F
  exact ⟨⟨_, fd, ds, mk_View T, fn_View_init T F, g_View T, h2, h1⟩⟩
theorem okw_View_init (T : Tx K mg) : IniK P w K mg base 4 "View" ["self", "room", "sides", "first", "strides"] 2 ["first", "strides"] (spViewInit K) := by
  obtain ⟨fd, F⟩ := f_View_init T
  obtain ⟨g, h⟩ := b_View2 F
  exact ⟨⟨_, fd, g, mk_View T, fn_View_init T F, g_View T, h⟩⟩
def spVRoom (K : PySem.W.Frag) : Sp := fun vs H Q _ => ∃ v r ls b ss, vs = [.ref v] ∧ VwD K H v r ls b ss ∧ Q (.ref r) H
def spVSides (K : PySem.W.Frag) : Sp := fun vs H Q _ => ∃ v r ls b ss, vs = [.ref v] ∧ VwD K H v r ls b ss ∧ ∀ la, H la = some (.tup (tn ls)) → Q (.ref la) H
def spVFirst (K : PySem.W.Frag) : Sp := fun vs H Q _ => ∃ v r ls b ss, vs = [.ref v] ∧ VwD K H v r ls b ss ∧ Q (.int b) H
def spVStrides (K : PySem.W.Frag) : Sp := fun vs H Q _ => ∃ v r ls b ss, vs = [.ref v] ∧ VwD K H v r ls b ss ∧ ∀ sa, H sa = some (.tup (ti ss)) → Q (.ref sa) H
theorem ok_View_room (T : Tx K mg) : Met P w K mg base 1 "View" "room" ["self"] (spVRoom K) := by
  refine Met.mk0 (f_View_room T) (me_View_room T) sc_View_room (fun _ _ _ _ _ _ us hl => match us, hl with | [_], _ => rfl) (fun vs H Q E h => ?_) (fun cdv A outer s H vs Q E hr h => ?_)
  · obtain ⟨v, r, ls, b, ss, rfl, _⟩ := h; rfl
  · obtain ⟨v, r, ls, b, ss, rfl, ⟨la, sa, h1, h2, h3⟩, q⟩ := h
    refine ⟨_, (pss_one (ps_ret (fl_held (K := K) T rfl (pv 0)))), ?_⟩
    exact ⟨_, rfl, _, ⟨v, rfl, _, _, _, _, h1, rfl⟩, q⟩
theorem ok_View_sides (T : Tx K mg) : Met P w K mg base 1 "View" "sides" ["self"] (spVSides K) := by
  refine Met.mk0 (f_View_sides T) (me_View_sides T) sc_View_sides (fun _ _ _ _ _ _ us hl => match us, hl with | [_], _ => rfl) (fun vs H Q E h => ?_) (fun cdv A outer s H vs Q E hr h => ?_)
  · obtain ⟨v, r, ls, b, ss, rfl, _⟩ := h; rfl
  · obtain ⟨v, r, ls, b, ss, rfl, ⟨la, sa, h1, h2, h3⟩, q⟩ := h
    refine ⟨_, (pss_one (ps_ret (fl_lengths (K := K) T rfl (pv 0)))), ?_⟩
    exact ⟨_, rfl, _, ⟨v, rfl, _, _, _, _, h1, rfl⟩, q la h2⟩
theorem ok_View_first (T : Tx K mg) : Met P w K mg base 1 "View" "first" ["self"] (spVFirst K) := by
  refine Met.mk0 (f_View_first T) (me_View_first T) sc_View_first (fun _ _ _ _ _ _ us hl => match us, hl with | [_], _ => rfl) (fun vs H Q E h => ?_) (fun cdv A outer s H vs Q E hr h => ?_)
  · obtain ⟨v, r, ls, b, ss, rfl, _⟩ := h; rfl
  · obtain ⟨v, r, ls, b, ss, rfl, ⟨la, sa, h1, h2, h3⟩, q⟩ := h
    refine ⟨_, (pss_one (ps_ret (fl_begin (K := K) T rfl (pv 0)))), ?_⟩
    exact ⟨_, rfl, _, ⟨v, rfl, _, _, _, _, h1, rfl⟩, q⟩
theorem ok_View_strides (T : Tx K mg) : Met P w K mg base 1 "View" "strides" ["self"] (spVStrides K) := by
  refine Met.mk0 (f_View_strides T) (me_View_strides T) sc_View_strides (fun _ _ _ _ _ _ us hl => match us, hl with | [_], _ => rfl) (fun vs H Q E h => ?_) (fun cdv A outer s H vs Q E hr h => ?_)
  · obtain ⟨v, r, ls, b, ss, rfl, _⟩ := h; rfl
  · obtain ⟨v, r, ls, b, ss, rfl, ⟨la, sa, h1, h2, h3⟩, q⟩ := h
    refine ⟨_, (pss_one (ps_ret (fl_steps (K := K) T rfl (pv 0)))), ?_⟩
    exact ⟨_, rfl, _, ⟨v, rfl, _, _, _, _, h1, rfl⟩, q sa h3⟩
def spVCells (K : PySem.W.Frag) : Sp := fun vs H Q _ => ∃ v r ls b ss, vs = [.ref v] ∧ VwD K H v r ls b ss ∧ Okl ls ∧ ss.length = ls.length ∧ ∀ l H', Same H H' → H l = none → H' l = some (.lst (ti (cells ls b ss))) → Q (.ref l) H'
theorem ok_View_cells (T : Tx K mg) : Met P w K mg base 3 "View" "cells" ["self"] (spVCells K) := by
  refine Met.mk0 (f_View_cells T) (me_View_cells T) sc_View_cells (fun _ _ _ _ _ _ us hl => match us, hl with | [_], _ => rfl) (fun vs H Q E h => ?_) (fun cdv A outer s H vs Q E hr h => ?_)
  · obtain ⟨v, r, ls, b, ss, rfl, _⟩ := h; rfl
  · obtain ⟨v, r, ls, b, ss, rfl, ⟨la, sa, h1, h2, h3⟩, ok, hsl, q⟩ := h
    refine ⟨_, (pss_one (ps_ret (pe_fK (K := K) (P := P) (w := w) (mg := mg) (base := base) ((ok_cells_by T).mono (by omega)) rfl rfl rfl rfl rfl hr (by rfl) (pa_cons (fl_lengths (K := K) T rfl (pv 0)) (pa_cons (fl_begin (K := K) T rfl (pv 0)) (pa_cons (fl_steps (K := K) T rfl (pv 0)) pa_nil)))))), ?_⟩
    refine ⟨_, rfl, _, ⟨v, rfl, _, _, _, _, h1, rfl⟩, _, rfl, _, ⟨v, rfl, _, _, _, _, h1, rfl⟩, _, rfl, _, ⟨v, rfl, _, _, _, _, h1, rfl⟩, la, sa, b, ls, ss, rfl, h2, h3, hsl, ok.len, ok.each, by have := ok.size; omega, fun l H' s hl hl2 => q l H' s hl hl2⟩
theorem dot_sum : ∀ (p : List Nat) (ss : List Int), p.length = ss.length → (List.zipWith (fun (k : Nat) (s : Int) => (k : Int) * s) p ss).sum = dot p ss
  | [], [], _ => rfl
  | k :: p, s :: ss, h => by
    have ih := dot_sum p ss (by simpa using h)
    simp only [List.zipWith_cons_cons, List.sum_cons, dot, ih]
  | [], _ :: _, h => by simp at h
  | _ :: _, [], h => by simp at h
def spVCell (K : PySem.W.Frag) : Sp := fun vs H Q _ => ∃ v r ls b ss p pl, vs = [.ref v, .ref p] ∧ VwD K H v r ls b ss ∧ Okl ls ∧ ss.length = ls.length ∧ H p = some (.tup (tn pl)) ∧ Inb pl ls ∧ ∀ H', Same H H' → Q (.int (cellAt b ss pl)) H'
theorem ok_View_cell (T : Tx K mg) : Met P w K mg base 3 "View" "cell" ["self", "place"] (spVCell K) := by
  refine Met.mk0 (f_View_cell T) (me_View_cell T) sc_View_cell (fun _ _ _ _ _ _ us hl => match us, hl with | [_, _], _ => rfl) (fun vs H Q E h => ?_) (fun cdv A outer s H vs Q E hr h => ?_)
  · obtain ⟨v, r, ls, b, ss, p, pl, rfl, _⟩ := h; rfl
  · obtain ⟨v, r, ls, b, ss, p, pl, rfl, ⟨la, sa, ⟨dx, h1⟩, h2, h3⟩, ok, hsl, hp, hi, q⟩ := h
    have hpl := hi.len
    have h5 := ok.len
    refine ⟨_, (pss_cons (ps_set (i := 2) sc_View_cell.nd rfl (Or.inl rfl) (pe_fK (K := K) (P := P) (w := w) (mg := mg) (base := base) ((ok_whole_place T).mono (by omega)) rfl rfl rfl rfl rfl hr (by rfl) (pa_cons (fl_lengths (K := K) T rfl (pv 0)) (pa_cons (pv 1) pa_nil))))
    (pss_one (ps_ret (pe_op op_add (fl_begin (K := K) T rfl (pv 0)) (pe_callB (cr_sumK (K := K) rfl rfl) (by rfl) (z_sum T) (by decide +kernel) (pa_cons (pe_lc (own := [("k", 3), ("step", 4)]) (tt := tYes) rfl sc_View_cell.nd (pi_zipK (K := K) rfl (by rfl) (z_zip T) (pa_cons (pv 2) (pa_cons (fl_steps (K := K) T rfl (pv 0)) pa_nil))) (blkOk_by (own := [("k", 3), ("step", 4)]) (sc := defScope s_View_cell) (N := n_View_cell) (by decide +kernel)) (fun _ _ _ _ _ => (pg_tupK (K := K) (n := 2) rfl rfl (pgs_cons (pg_name (i := 3) sc_View_cell.nd rfl (by first | exact Or.inl rfl | exact Or.inr rfl)) (pgs_cons (pg_name (i := 4) sc_View_cell.nd rfl (by first | exact Or.inl rfl | exact Or.inr rfl)) pgs_nil)))) (fun _ _ _ _ _ => pts_nil) (fun _ _ _ _ _ => (pe_op op_mul (pv 3) (pv 4)))) pa_nil)))))), ?_⟩
    refine ⟨_, rfl, _, ⟨v, rfl, _, _, _, _, ⟨dx, h1⟩, rfl⟩, _, rfl, la, p, ls, pl, rfl, h2, hp, hi, h5, fun t H1 s1 ht ht1 => ?_⟩
    refine ⟨_, rfl, _, ⟨v, rfl, _, _, _, _, ⟨dx, s1 _ _ h1⟩, rfl⟩, _, rfl, _, rfl, _, ⟨v, rfl, _, _, _, _, ⟨dx, s1 _ _ h1⟩, rfl⟩, t, sa, tn pl, ti ss, rfl, .inr ⟨SqT.of ht1, SqT.of (s1 _ _ h3), fun D hD => ?_⟩⟩
    have hs1 := s1 _ _ h3
    refine lc_new (walk_zipT (n := ls.length) (by rw [tn_len, hpl]) (by rw [ti_len, hsl])) (by omega) hD (fun i y _ => ∃ k : Int, (List.zipWith (fun (k : Nat) (s : Int) => (k : Int) * s) pl ss)[i]? = some k ∧ y = .int k) (fun H3 s3 => ⟨SqT.of (s3 _ _ ht1), SqT.of (s3 _ _ hs1)⟩) (fun _ _ _ _ _ h => h) ?_ ?_
    · rintro i x H3 H4 Kt hi' s3 hacc ⟨T1, x1, y1, rfl, hT, rfl, e1, e2⟩ kt
      obtain ⟨k, hk, rfl⟩ := tn_at e1
      obtain ⟨st, hs, rfl⟩ := ti_at e2
      obtain ⟨n, hn⟩ : ∃ n, ls[i]? = some n := ⟨ls[i]'hi', by simp [hi']⟩
      have hkn := hi.get hk hn
      have hn6 := ok.each n (List.mem_of_getElem? hn)
      refine ⟨T1, _, rfl, SqT.of upd_same, rfl, _, _, rfl, _, _, rfl, rfl, rfl, _, rfl, _, rfl, _, _, rfl, rfl, .inl (by constructor <;> omega), kt _ _ (Same.new hT) ⟨_, ?_, rfl⟩⟩
      rw [List.getElem?_zipWith, hk, hs]
    · intro ys H3 s3 hD3 hy hR
      have e := ys_ti (p := List.zipWith (fun (k : Nat) (s : Int) => (k : Int) * s) pl ss) (by rw [hy, List.length_zipWith, hpl, hsl, Nat.min_self]) hR
      subst e
      refine ⟨D, _, rfl, SqL.of hD3, b, _, rfl, rfl, ?_⟩
      rw [dot_sum pl ss (by rw [hpl, hsl])]
      exact q H3 (s1.trans s3)
/-- the cell of a place -/
theorem cell_mem {ls pl : List Nat} {b : Int} {ss : List Int} (h : Inb pl ls) : cellAt b ss pl ∈ cells ls b ss := List.mem_map.mpr ⟨pl, mem_places.mpr h, rfl⟩
def spVAt (K : PySem.W.Frag) : Sp := fun vs H Q _ => ∃ v r ls b ss p pl ns, vs = [.ref v, .ref p] ∧ VwD K H v r ls b ss ∧ Okl ls ∧ ss.length = ls.length ∧ H p = some (.tup (tn pl)) ∧ Inb pl ls ∧ RoomR K H r ns ∧ Within (cells ls b ss) ns.length ∧ ∀ H', Same H H' → Q (.int (at0 ns (cellAt b ss pl))) H'
theorem ok_View_at (T : Tx K mg) : Met P w K mg base 4 "View" "at" ["self", "place"] (spVAt K) := by
  refine Met.mk0 (f_View_at T) (me_View_at T) sc_View_at (fun _ _ _ _ _ _ us hl => match us, hl with | [_, _], _ => rfl) (fun vs H Q E h => ?_) (fun cdv A outer s H vs Q E hr h => ?_)
  · obtain ⟨v, r, ls, b, ss, p, pl, ns, rfl, _⟩ := h; rfl
  · obtain ⟨v, r, ls, b, ss, p, pl, ns, rfl, ⟨la, sa, ⟨dx, h1⟩, h2, h3⟩, ok, hsl, hp, hi, ⟨wd, rpl, c, s', ps, ks, hd, hR⟩, hw, q⟩ := h
    obtain ⟨rx, hro⟩ := hR.ob
    have hc := hw _ (cell_mem (b := b) (ss := ss) hi)
    refine ⟨_, (pss_one (ps_ret (pe_mK (K := K) (P := P) (w := w) (mg := mg) (base := base) ((ok_Room_read T).mono (by omega)) (cl_Room T) rfl rfl rfl rfl rfl hr (fl_held (K := K) T rfl (pv 0)) (pa_cons (pe_mK (K := K) (P := P) (w := w) (mg := mg) (base := base) ((ok_View_cell T).mono (by omega)) (cl_View T) rfl rfl rfl rfl rfl hr (pv 0) (pa_cons (pv 1) pa_nil)) pa_nil)))), ?_⟩
    refine ⟨_, rfl, _, ⟨v, rfl, _, _, _, _, ⟨dx, h1⟩, rfl⟩, r, rx, _, rfl, hro, room_no (by decide) (by decide) (by decide) (by decide) (by decide), ?_⟩
    refine ⟨_, rfl, v, dx, _, rfl, h1, view_no (by decide) (by decide) (by decide) (by decide), _, rfl, v, r, ls, b, ss, p, pl, rfl, ⟨la, sa, ⟨dx, h1⟩, h2, h3⟩, ok, hsl, hp, hi, fun H1 s1 => ?_⟩
    have hR1 : RoomR K H1 r ns := RoomR.same ⟨wd, rpl, c, s', ps, ks, hd, hR⟩ s1
    refine ⟨r, (cellAt b ss pl).toNat, ns, _, ?_, hR1, at0_of hc.1 hc.2, q H1 s1⟩
    rw [Int.toNat_of_nonneg hc.1]
    rfl
/-- a view's cell is written -/
def spVPut (K : PySem.W.Frag) : Sp := fun vs H Q _ => ∃ (v : Addr) (ls : List Nat) (b : Int) (ss : List Int) (p : Addr) (pl : List Nat) (x : Int) (d e : RD), vs = [.ref v, .ref p, .int x] ∧ VwD K H v d.a ls b ss ∧ Okl ls ∧ ss.length = ls.length ∧ H p = some (.tup (tn pl)) ∧ Inb pl ls ∧ SysD K H d e ∧ Within (cells ls b ss) d.ns.length ∧
  ∀ H' (d' e' : RD), SysD K H' d' e' → d'.ns = d.ns.set (cellAt b ss pl).toNat x → e'.ns = e.ns → d'.a = d.a → EqE e' e → d'.w = d.w → Frm d.ft d'.ft H H' → Q .non H'
theorem ok_View_put (T : Tx K mg) : Met P w K mg base 5 "View" "put" ["self", "place", "number"] (spVPut K) := by
  refine Met.mk0 (f_View_put T) (me_View_put T) sc_View_put (fun _ _ _ _ _ _ us hl => match us, hl with | [_, _, _], _ => rfl) (fun vs H Q E h => ?_) (fun cdv A outer s H vs Q E hr h => ?_)
  · obtain ⟨v, ls, b, ss, p, pl, x, d, e, rfl, _⟩ := h; rfl
  · obtain ⟨v, ls, b, ss, p, pl, x, d, e, rfl, ⟨la, sa, ⟨dx, h1⟩, h2, h3⟩, ok, hsl, hp, hi, sy, hw, q⟩ := h
    obtain ⟨rx, hro⟩ := sy.r0.ob
    have hc := hw _ (cell_mem (b := b) (ss := ss) hi)
    refine ⟨_, (pss_one (ps_expr (pe_mK (K := K) (P := P) (w := w) (mg := mg) (base := base) ((ok_Room_write T).mono (by omega)) (cl_Room T) rfl rfl rfl rfl rfl hr (fl_held (K := K) T rfl (pv 0)) (pa_cons (pe_mK (K := K) (P := P) (w := w) (mg := mg) (base := base) ((ok_View_cell T).mono (by omega)) (cl_View T) rfl rfl rfl rfl rfl hr (pv 0) (pa_cons (pv 1) pa_nil)) (pa_cons (pv 2) pa_nil))))), ?_⟩
    refine ⟨_, rfl, _, ⟨v, rfl, _, _, _, _, ⟨dx, h1⟩, rfl⟩, d.a, rx, _, rfl, hro, room_no (by decide) (by decide) (by decide) (by decide) (by decide), ?_⟩
    refine ⟨_, rfl, v, dx, _, rfl, h1, view_no (by decide) (by decide) (by decide) (by decide), _, rfl, v, d.a, ls, b, ss, p, pl, rfl, ⟨la, sa, ⟨dx, h1⟩, h2, h3⟩, ok, hsl, hp, hi, fun H1 s1 => ?_⟩
    refine ⟨_, rfl, d, e, (cellAt b ss pl).toNat, x, ?_, sy.same s1, by omega, fun H' d' e' sy' n1 n2 a1 a2 w1 fr => q H' d' e' sy' n1 n2 a1 a2 w1 ((Frm.of s1).trans fr)⟩
    rw [Int.toNat_of_nonneg hc.1]
    rfl
def spVNumbers (K : PySem.W.Frag) : Sp := fun vs H Q _ => ∃ v r ls b ss ns, vs = [.ref v] ∧ VwD K H v r ls b ss ∧ Okl ls ∧ ss.length = ls.length ∧ RoomR K H r ns ∧ Within (cells ls b ss) ns.length ∧ ∀ l H', Same H H' → H l = none → H' l = some (.lst (ti (pick ns (cells ls b ss)))) → Q (.ref l) H'
theorem ok_View_numbers (T : Tx K mg) : Met P w K mg base 4 "View" "numbers" ["self"] (spVNumbers K) := by
  refine Met.mk0 (f_View_numbers T) (me_View_numbers T) sc_View_numbers (fun _ _ _ _ _ _ us hl => match us, hl with | [_], _ => rfl) (fun vs H Q E h => ?_) (fun cdv A outer s H vs Q E hr h => ?_)
  · obtain ⟨v, r, ls, b, ss, ns, rfl, _⟩ := h; rfl
  · obtain ⟨v, r, ls, b, ss, ns, rfl, hv, ok, hsl, hR, hw, q⟩ := h
    have hv' := hv
    obtain ⟨la, sa, ⟨dx, h1⟩, h2, h3⟩ := hv'
    refine ⟨_, (pss_one (ps_ret (pe_lc (own := [("cell", 1)]) (tt := tYes) rfl sc_View_numbers.nd (pi_listK (K := K) rfl (pe_m0K (K := K) (P := P) (w := w) (mg := mg) (base := base) ((ok_View_cells T).mono (by omega)) (cl_View T) rfl rfl rfl rfl rfl hr (pv 0))) (blkOk_by (own := [("cell", 1)]) (sc := defScope s_View_numbers) (N := n_View_numbers) (by decide +kernel)) (fun _ _ _ _ _ => (pg_name (i := 1) sc_View_numbers.nd rfl (by first | exact Or.inl rfl | exact Or.inr rfl))) (fun _ _ _ _ _ => pts_nil) (fun _ _ _ _ _ => (pe_mK (K := K) (P := P) (w := w) (mg := mg) (base := base) ((ok_Room_read T).mono (by omega)) (cl_Room T) rfl rfl rfl rfl rfl hr (fl_held (K := K) T rfl (pv 0)) (pa_cons (pv 1) pa_nil)))))), ?_⟩
    refine ⟨_, rfl, v, dx, _, rfl, h1, view_no (by decide) (by decide) (by decide) (by decide), v, r, ls, b, ss, rfl, hv, ok, hsl, fun l H1 s1 hl0 hl => ?_⟩
    refine ⟨l, rfl, ⟨_, SqL.of hl⟩, fun D hD => ?_⟩
    refine lc_new walk_ti (by rw [cells_len]; have := ok.size; omega) hD (fun i y _ => ∃ k : Int, (pick ns (cells ls b ss))[i]? = some k ∧ y = .int k) (fun H3 s3 => SqL.of (s3 _ _ hl)) (fun _ _ _ _ _ h => h) ?_ ?_
    · rintro i x H3 H4 Kt hi s3 hacc ⟨rfl, c, hc, rfl⟩ kt
      have hcw := hw c (List.mem_of_getElem? hc)
      have s13 := s1.trans s3
      have hR3 := hR.same s13
      have hR3' := hR3
      obtain ⟨wd, rpl, rc, s', ps, ks, hd, hR4⟩ := hR3'
      obtain ⟨rx, hro⟩ := hR4.ob
      refine ⟨rfl, _, rfl, _, ⟨v, rfl, _, _, _, _, ⟨dx, s13 _ _ h1⟩, rfl⟩, r, rx, _, rfl, hro, room_no (by decide) (by decide) (by decide) (by decide) (by decide), ?_⟩
      refine ⟨_, rfl, r, c.toNat, ns, _, ?_, hR3, at0_of hcw.1 hcw.2, kt _ _ (Same.refl _) ⟨_, ?_, rfl⟩⟩
      · rw [Int.toNat_of_nonneg hcw.1]; rfl
      · unfold pick; rw [List.getElem?_map, hc]; rfl
    · intro ys H3 s3 hD3 hy hR'
      have e := ys_ti (p := pick ns (cells ls b ss)) (by rw [hy]; unfold pick; rw [List.length_map]) hR'
      subst e
      exact q D H3 (s1.trans s3) (s1.free hD) hD3
def spVLen (K : PySem.W.Frag) : Sp := fun vs H Q _ => ∃ v r ls b ss, vs = [.ref v] ∧ VwD K H v r ls b ss ∧ Okl ls ∧ ∀ H', Same H H' → Q (.int ((sz ls : Nat) : Int)) H'
theorem ok_View_len (T : Tx K mg) : Met P w K mg base 2 "View" "__len__" ["self"] (spVLen K) := by
  refine Met.mk0 (f_View_len T) (me_View_len T) sc_View_len (fun _ _ _ _ _ _ us hl => match us, hl with | [_], _ => rfl) (fun vs H Q E h => ?_) (fun cdv A outer s H vs Q E hr h => ?_)
  · obtain ⟨v, r, ls, b, ss, rfl, _⟩ := h; rfl
  · obtain ⟨v, r, ls, b, ss, rfl, ⟨la, sa, ⟨dx, h1⟩, h2, h3⟩, ok, q⟩ := h
    refine ⟨_, (pss_one (ps_ret (pe_callB cr_len_rng (by rfl) (z_len T) (by decide +kernel) (pa_cons (pe_callTy cr_range1 (by rfl) (z_range T) (by decide +kernel) (pa_cons (pe_fK (K := K) (P := P) (w := w) (mg := mg) (base := base) ((ok_size_of T).mono (by omega)) rfl rfl rfl rfl rfl hr (by rfl) (pa_cons (fl_lengths (K := K) T rfl (pv 0)) pa_nil)) pa_nil)) pa_nil)))), ?_⟩
    refine ⟨_, rfl, _, ⟨v, rfl, _, _, _, _, ⟨dx, h1⟩, rfl⟩, la, ls, rfl, SqT.of h2, ok.each, _, rfl, fun p hp => ⟨p, _, rfl, upd_same, by have := ok.size; omega, q _ (Same.new hp)⟩⟩
end
end VG
-- VgViews4
set_option Elab.async false
set_option linter.all false
set_option maxRecDepth 100000
set_option maxHeartbeats 4000000
namespace VG
open PySem PySem.Spec PyProof.Rows L2
/-- a room and where it lies -/
def RoomS (K : PySem.W.Frag) (H : Hp) (a : Addr) (ns : List Int) (G : Addr → Prop) : Prop := ∃ wd pl c s ps ks hd, RmP K H a wd ns pl c s ps ks hd ∧ ∀ b, foot a pl ps ks b → G b
theorem RoomS.r {K : PySem.W.Frag} {H : Hp} {a : Addr} {ns : List Int} {G : Addr → Prop} (h : RoomS K H a ns G) : RoomR K H a ns := let ⟨wd, pl, c, s, ps, ks, hd, q, _⟩ := h; ⟨wd, pl, c, s, ps, ks, hd, q⟩
theorem RoomS.keep {K : PySem.W.Frag} {H H' : Hp} {a : Addr} {ns : List Int} {G : Addr → Prop} (h : RoomS K H a ns G) (k : ∀ b o, G b → H b = some o → H' b = some o) : RoomS K H' a ns G :=
  let ⟨wd, pl, c, s, ps, ks, hd, q, g⟩ := h; ⟨wd, pl, c, s, ps, ks, hd, q.keep fun b o f e => k b o (g b f) e, g⟩
/-- all of a room is tracked, and none of it a tuple or a view -/
theorem foot_at {K : PySem.W.Frag} {H : Hp} {a pl : Addr} {wd : Nat} {ns : List Int} {c s : Int} {ps ks : List Addr} {hd : Nat → Int} (r : RmP K H a wd ns pl c s ps ks hd) {b : Addr} (f : foot a pl ps ks b) : ∃ o, H b = some o ∧ (∀ xs, o ≠ .tup xs) ∧ fsLen o ≠ 4 := by
  rcases f with rfl | rfl | f | f
  · obtain ⟨dx, h⟩ := r.ob
    exact ⟨_, h, (fun xs z => by cases z), (by show 5 ≠ 4; decide)⟩
  · exact ⟨_, r.pl, (fun xs z => by cases z), (by show 0 ≠ 4; decide)⟩
  · obtain ⟨j, ej⟩ := List.mem_iff_getElem?.mp f
    have hj := (List.getElem?_eq_some_iff.mp ej).1
    obtain ⟨⟨pd, h⟩, _⟩ := r.pg j b (ks[j]'(by rw [r.lk, ← r.lp]; exact hj)) ej (List.getElem?_eq_getElem _)
    exact ⟨_, h, (fun xs z => by cases z), (by show 2 ≠ 4; decide)⟩
  · obtain ⟨j, ej⟩ := List.mem_iff_getElem?.mp f
    have hj := (List.getElem?_eq_some_iff.mp ej).1
    obtain ⟨_, h⟩ := r.pg j (ps[j]'(by rw [r.lp, ← r.lk]; exact hj)) b (List.getElem?_eq_getElem _) ej
    exact ⟨_, h, (fun xs z => by cases z), (by show 0 ≠ 4; decide)⟩
theorem VwD.frm {K : PySem.W.Frag} {H H' : Hp} {v r : Addr} {ls : List Nat} {b : Int} {ss : List Int} {d : RD} {F' : Addr → Prop} (h : VwD K H v r ls b ss) (rm : Rm K H d) (f : Frm d.ft F' H H') : VwD K H' v r ls b ss := by
  obtain ⟨la, sa, ⟨dx, h1⟩, h2, h3⟩ := h
  refine ⟨la, sa, ⟨dx, f.keep _ _ h1 fun z => ?_⟩, f.keep _ _ h2 fun z => ?_, f.keep _ _ h3 fun z => ?_⟩
  · obtain ⟨o, e, _, n⟩ := foot_at rm z
    rw [h1] at e; cases e
    exact n rfl
  · obtain ⟨o, e, n, _⟩ := foot_at rm z
    rw [h2] at e; cases e
    exact n _ rfl
  · obtain ⟨o, e, n, _⟩ := foot_at rm z
    rw [h3] at e; cases e
    exact n _ rfl
section
variable {P : Program} {w : World} {K : PySem.W.Frag} {mg : Str → Option Value} {base : Heap}
def spPlain (K : PySem.W.Frag) : Sp := fun vs H Q _ => ∃ (r la sa : Addr) (b : Int) (ls : List Nat) (ss ns : List Int), vs = [.ref r, .ref la, .int b, .ref sa] ∧ RoomR K H r ns ∧ ns.length ≤ 20000 ∧ H la = some (.tup (tn ls)) ∧ H sa = some (.tup (ti ss)) ∧ ss.length = ls.length ∧ Okl ls ∧
  ∀ v H', Same H H' → H v = none → VwD K H' v r ls (nb ls b) (nst ls ss) → Q (.ref v) H'
theorem okl0 : Okl [0] := ⟨by decide, by decide, by intro l h; rw [List.mem_singleton.mp h]; omega⟩
theorem ok_plain_view (T : Tx K mg) : Def P w K mg base 6 "plain_view" ["room", "lengths", "begin", "steps"] [] (spPlain K) := by
  refine Def.mk0 (f_plain_view T) (g_plain_view T) sc_plain_view (fun _ _ _ _ _ _ us hl => match us, hl with | [_, _, _, _], _ => rfl) (fun vs H Q E h => ?_) (fun cdv A outer s H vs Q E hr h => ?_)
  · obtain ⟨r, la, sa, b, ls, ss, ns, rfl, _⟩ := h; rfl
  · obtain ⟨r, la, sa, b, ls, ss, ns, rfl, hR, hz, ha, hs, hsl, ok, q⟩ := h
    refine ⟨_, (pss_cons (ps_set (i := 4) sc_plain_view.nd rfl (Or.inl rfl) (pe_mkK (K := K) (P := P) (w := w) (mg := mg) (base := base) ((ok_View_init T).mono (by omega)) rfl rfl rfl rfl rfl hr (by rfl) (pa_cons (pv 0) (pa_cons (pe_tup (pa_cons pe_int pa_nil)) pa_nil))))
    (pss_cons (ps_expr (pe_mK (K := K) (P := P) (w := w) (mg := mg) (base := base) ((ok_View_tell T).mono (by omega)) (cl_View T) rfl rfl rfl rfl rfl hr (pv 4) (pa_cons (pv 1) (pa_cons (pv 2) (pa_cons (pv 3) pa_nil)))))
    (pss_one (ps_ret (pv 4))))), ?_⟩
    refine ⟨_, rfl, sz_ok (by show 1 ≤ 100000; decide), fun t ht x dx hx hdx hne => ?_⟩
    have s1 : Same H (upd (upd (upd H t (.tup [.int 0])) dx (.own x)) x (.ins (He.ga K "View") dx [])) := ((Same.new ht).trans (Same.new hdx)).trans (Same.new (by rw [upd_ne (Ne.symm hne)]; exact hx))
    have hx0 : H x = none := (Same.new ht).free hx
    have ntx : t ≠ x := ne_of_none upd_same hx
    have ntd : t ≠ dx := ne_of_none upd_same hdx
    refine ⟨x, dx, r, t, [0], 0, .non, toI (dense [0]), ns, rfl, upd_same, hR.same s1, hz, by rw [upd_ne ntx, upd_ne ntd]; exact upd_same, okl0, .inl ⟨rfl, rfl⟩, (fun c hc => by rw [cells_zero (by rfl)] at hc; cases hc), fun H1 k1 ⟨la0, sa0, ⟨dx1, hx1⟩, _, _⟩ => ⟨rfl, ?_⟩⟩
    have nx : ∀ y o, H y = some o → y ≠ x := fun y o e => ne_of_none e hx0
    have s2 : Same H H1 := fun y o e => k1 y o (nx y o e) (s1 y o e)
    refine ⟨_, rfl, x, dx1, _, rfl, hx1, view_no (by decide) (by decide) (by decide) (by decide), _, rfl, _, rfl, _, rfl, x, dx1, r, la, sa, b, ls, ss, _, rfl, hx1, .inr ⟨_, _, _, rfl⟩, s2 _ _ ha, s2 _ _ hs, hsl, ok, fun H2 k2 d2 => ⟨_, rfl, ?_⟩⟩
    exact q x H2 (fun y o e => k2 y o (nx y o e) (s2 y o e)) hx0 d2
/-- a view of a room of its own -/
def NewV (K : PySem.W.Frag) (H0 H : Hp) (v : Addr) (ls : List Nat) (ns : List Int) : Prop := ∃ r b ss G, VwD K H v r ls b ss ∧ ss.length = ls.length ∧ cells ls b ss = toI (List.range (sz ls)) ∧ RoomS K H r ns G ∧ (∀ x, G x → H0 x = none) ∧ H0 v = none
def spNewView (K : PySem.W.Frag) : Sp := fun vs H Q _ => ∃ (la nl : Addr) (ls : List Nat) (ns : List Int), vs = [.ref la, .ref nl] ∧ H la = some (.tup (tn ls)) ∧ H nl = some (.lst (ti ns)) ∧ ns.length = sz ls ∧ Okl ls ∧ ∀ v H', Same H H' → NewV K H H' v ls ns → Q (.ref v) H'
theorem ok_new_view (T : Tx K mg) : Def P w K mg base 7 "new_view" ["lengths", "numbers"] [] (spNewView K) := by
  refine Def.mk0 (f_new_view T) (g_new_view T) sc_new_view (fun _ _ _ _ _ _ us hl => match us, hl with | [_, _], _ => rfl) (fun vs H Q E h => ?_) (fun cdv A outer s H vs Q E hr h => ?_)
  · obtain ⟨la, nl, ls, ns, rfl, _⟩ := h; rfl
  · obtain ⟨la, nl, ls, ns, rfl, ha, hn, hl, ok, q⟩ := h
    have hsz := ok.size
    refine ⟨_, (pss_one (ps_ret (pe_fK (K := K) (P := P) (w := w) (mg := mg) (base := base) ((ok_plain_view T).mono (by omega)) rfl rfl rfl rfl rfl hr (by rfl) (pa_cons (pe_mkK (K := K) (P := P) (w := w) (mg := mg) (base := base) ((ok_Room_init T).mono (by omega)) rfl rfl rfl rfl rfl hr (by rfl) (pa_cons (pv 1) pa_nil)) (pa_cons (pv 0) (pa_cons pe_int (pa_cons (pe_fK (K := K) (P := P) (w := w) (mg := mg) (base := base) ((ok_dense_strides T).mono (by omega)) rfl rfl rfl rfl rfl hr (by rfl) (pa_cons (pv 0) pa_nil)) pa_nil))))))), ?_⟩
    refine ⟨_, rfl, fun x dx hx hdx hne => ?_⟩
    have s1 : Same H (upd (upd H dx (.own x)) x (.ins (He.ga K "Room") dx [])) := (Same.new hdx).trans (Same.new (by rw [upd_ne (Ne.symm hne)]; exact hx))
    have nx : ∀ y o, H y = some o → y ≠ x := fun y o e => ne_of_none e hx
    refine ⟨x, dx, nl, ns, 8, rfl, upd_same, .inl (SqL.of (s1 _ _ hn)), nx _ _ hn, by decide, by decide, by omega, fun H1 pl ps ks k1 r1 _ _ _ fr => ⟨rfl, ?_⟩⟩
    have s2 : Same H H1 := fun y o e => k1 y o (nx y o e) (s1 y o e)
    have ff : ∀ y, (upd (upd H dx (.own x)) x (.ins (He.ga K "Room") dx [])) y = none → H y = none := fun y e => s1.free e
    refine ⟨_, rfl, _, rfl, la, ls, rfl, s2 _ _ ha, ok.len, ok.each, fun t H2 s3 ht ht2 => ?_⟩
    refine ⟨x, la, t, 0, ls, toI (dense ls), ns, rfl, RoomR.same ⟨_, _, _, _, _, _, _, r1⟩ s3, by omega, s3 _ _ (s2 _ _ ha), by rw [← tn_toI]; exact ht2, by unfold toI; rw [List.length_map, dense_len], ok, fun v H3 s4 hv d3 => ?_⟩
    have hdl : (toI (dense ls)).length = ls.length := by unfold toI; rw [List.length_map, dense_len]
    refine q v H3 ((s2.trans s3).trans s4) ⟨x, _, _, fun y => H y = none, d3, nst_len hdl, ?_, ⟨_, _, _, _, _, _, _, r1.keep fun b o _ e => s4 b o (s3 b o e), fun b f => ?_⟩, fun _ h => h, (s2.trans s3).free hv⟩
    · rw [cells_norm 0 hdl, cells_dense]
    · rcases f with rfl | f
      · exact hx
      · exact ff b (fr b f)
def spVTwin (K : PySem.W.Frag) : Sp := fun vs H Q _ => ∃ (v : Addr) (ls : List Nat) (b : Int) (ss : List Int) (d : RD), vs = [.ref v] ∧ VwD K H v d.a ls b ss ∧ Okl ls ∧ ss.length = ls.length ∧ Rm K H d ∧ d.s = 0 ∧ (∀ i, d.hd i = 1) ∧ Inj d.ps ∧ Inj d.ks ∧ d.pl ∉ d.ks ∧ d.ns.length ≤ 20000 ∧
  ∀ H' (d' e : RD) t, SysD K H' d' e → d'.ns = d.ns → e.ns = d.ns → d'.a = d.a → d'.w = d.w → Frm d.ft d'.ft H H' → H t = none → (∀ b, e.ft b → d.ft b ∨ H b = none) → VwD K H' t e.a ls (nb ls b) (nst ls ss) → Q (.ref t) H'
theorem ok_View_twin (T : Tx K mg) : Met P w K mg base 7 "View" "twin" ["self"] (spVTwin K) := by
  refine Met.mk0 (f_View_twin T) (me_View_twin T) sc_View_twin (fun _ _ _ _ _ _ us hl => match us, hl with | [_], _ => rfl) (fun vs H Q E h => ?_) (fun cdv A outer s H vs Q E hr h => ?_)
  · obtain ⟨v, ls, b, ss, d, rfl, _⟩ := h; rfl
  · obtain ⟨v, ls, b, ss, d, rfl, hv, ok, hsl, rm, h0, hh, ip, ik, npk, hz, q⟩ := h
    obtain ⟨la, sa, ⟨dx, h1⟩, h2, h3⟩ := hv
    obtain ⟨rx, hro⟩ := rm.ob
    refine ⟨_, (pss_one (ps_ret (pe_fK (K := K) (P := P) (w := w) (mg := mg) (base := base) ((ok_plain_view T).mono (by omega)) rfl rfl rfl rfl rfl hr (by rfl) (pa_cons (pe_m0K (K := K) (P := P) (w := w) (mg := mg) (base := base) ((ok_Room_twin T).mono (by omega)) (cl_Room T) rfl rfl rfl rfl rfl hr (fl_held (K := K) T rfl (pv 0))) (pa_cons (fl_lengths (K := K) T rfl (pv 0)) (pa_cons (fl_begin (K := K) T rfl (pv 0)) (pa_cons (fl_steps (K := K) T rfl (pv 0)) pa_nil))))))), ?_⟩
    refine ⟨_, rfl, _, ⟨v, rfl, _, _, _, _, ⟨dx, h1⟩, rfl⟩, d.a, rx, _, rfl, hro, room_no (by decide) (by decide) (by decide) (by decide) (by decide), d, rfl, rm, h0, hh, ip, ik, npk, hz, fun H1 d' e sy n1 n2 a1 w1 fr he hef => ?_⟩
    have hv1 : VwD K H1 v d.a ls b ss := VwD.frm ⟨la, sa, ⟨dx, h1⟩, h2, h3⟩ rm fr
    obtain ⟨la1, sa1, ⟨dx1, g1⟩, g2, g3⟩ := hv1
    refine ⟨_, rfl, _, ⟨v, rfl, _, _, _, _, ⟨dx1, g1⟩, rfl⟩, _, rfl, _, ⟨v, rfl, _, _, _, _, ⟨dx1, g1⟩, rfl⟩, _, rfl, _, ⟨v, rfl, _, _, _, _, ⟨dx1, g1⟩, rfl⟩, ?_⟩
    refine ⟨e.a, la1, sa1, b, ls, ss, e.ns, rfl, ⟨_, _, _, _, _, _, _, sy.r1⟩, by rw [n2]; exact hz, g2, g3, hsl, ok, fun t H2 s2 ht dt => ?_⟩
    exact q H2 d' e t (sy.same s2) n1 n2 a1 w1 (fr.trans (Frm.of s2)) (fr.there t ht) hef dt
end
end VG
-- VgLooks
set_option Elab.async false
set_option linter.all false
set_option maxRecDepth 100000
set_option maxHeartbeats 4000000
namespace VG
open PySem PySem.Spec PyProof.Rows L2
/-- the strides of a view of the sides ls, looked at by the sides S -/
def wst (S ls : List Nat) (ss : List Int) : List Int := List.replicate (S.length - ls.length) 0 ++ nst1 ls ss
theorem wst_len {S ls : List Nat} {ss : List Int} (h : ss.length = ls.length) (hl : ls.length ≤ S.length) : (wst S ls ss).length = S.length := by
  unfold wst
  rw [List.length_append, List.length_replicate, nst1_len ls ss h]
  omega
theorem wst_own {S ls : List Nat} {ss : List Int} {i l : Nat} {s : Int} (h : ss.length = ls.length) (h1 : ls.reverse[i]? = some l) (h2 : ss.reverse[i]? = some s) : (wst S ls ss).reverse[i]? = some (if l = 1 then 0 else s) := by
  have hi : i < ls.length := by have := (List.getElem?_eq_some_iff.mp h1).1; rw [List.length_reverse] at this; exact this
  have hn := nst1_len ls ss h
  unfold wst
  rw [List.reverse_append, List.getElem?_append_left (by rw [List.length_reverse, hn]; exact hi), List.getElem?_reverse (by rw [hn]; exact hi), hn]
  rw [List.getElem?_reverse hi] at h1
  rw [List.getElem?_reverse (by rw [h]; exact hi), h] at h2
  exact nst1_at h1 h2
theorem wst_more {S ls : List Nat} {ss : List Int} {i : Nat} (h : ss.length = ls.length) (h1 : ls.length ≤ i) (h2 : i < S.length) : (wst S ls ss).reverse[i]? = some 0 := by
  have hn := nst1_len ls ss h
  unfold wst
  rw [List.reverse_append, List.getElem?_append_right (by rw [List.length_reverse, hn]; exact h1), List.reverse_replicate, List.getElem?_replicate, List.length_reverse, hn, if_pos (by omega)]
section
variable {P : Program} {w : World} {K : PySem.W.Frag} {mg : Str → Option Value} {base : Heap}
def spWideStride : Sp := fun vs H Q _ => ∃ (own : V) (st : Int) (a : Nat) (sd : V), vs = [own, .int st, .int (a : Int), sd] ∧ ((own = .non ∧ Q (.int 0) H) ∨ ∃ o : Nat, own = .int (o : Int) ∧ (o = a ∨ o = 1) ∧ Q (.int (if o = 1 then 0 else st)) H)
theorem ok_wide_stride (T : Tx K mg) : Def P w K mg base 1 "wide_stride" ["own", "stride", "asked", "side"] [] spWideStride := by
  refine Def.mk0 (f_wide_stride T) (g_wide_stride T) sc_wide_stride (fun _ _ _ _ _ _ us hl => match us, hl with | [_, _, _, _], _ => rfl) (fun vs H Q E h => ?_) (fun cdv A outer s H vs Q E hr h => ?_)
  · obtain ⟨own, st, a, sd, rfl, _⟩ := h; rfl
  · obtain ⟨own, st, a, sd, rfl, h⟩ := h
    refine ⟨_, (pss_cons (ps_if (PW.pt (pw_or (pt_cmpR op_isN (pv 2) pe_non (nomark _)) (pw_or1 (PW.pt (pw_and (pt_cmpR op_notN (pv 0) pe_non (nomark _)) (pw_and (pt_cmpR op_ne (pv 0) pe_int (nomark _)) (pw_and1 (pt_cmpR op_ne (pv 0) (pv 2) (nomark _))))))))) (pss_one ps_never) pss_nil)
    (pss_cons (ps_if (PW.pt (pw_or (pt_cmpR op_isN (pv 0) pe_non (nomark _)) (pw_or1 (pt_cmpR op_eq (pv 0) pe_int (nomark _))))) (pss_one (ps_ret pe_int)) pss_nil)
    (pss_one (ps_ret (pv 1))))), ?_⟩
    refine ⟨_, rfl, rfl, _, rfl, iteF ?_⟩
    rcases h with ⟨rfl, q⟩ | ⟨o, rfl, ho, q⟩
    · refine ⟨_, rfl, rfl, _, rfl, iteF ?_⟩
      exact ⟨_, rfl, rfl, _, rfl, iteT q⟩
    · refine ⟨_, rfl, rfl, _, rfl, iteT ?_⟩
      have tail : (tIfS (tOr (tTest (tOp (fun x y H Q => y = V.non ∧ Q (V.bl (decide (x = V.non))) H) (tVar 0) (tC V.non))) (tTest (tOp rEq (tVar 0) (tC (V.int 1))))) (tRet (tC (V.int 0))) tNext)
          { nx := fun σ H => (tRet (tVar 1)) { nx := fun x H' => Q V.non H', rt := Q } σ H, rt := Q } [some (.int (o : Int)), some (.int st), some (.int (a : Int)), some sd] H := by
        refine ⟨_, rfl, rfl, _, rfl, iteF ⟨_, rfl, rfl, _, rfl, ite2 (fun z => ?_) fun z => ?_⟩⟩
        · have e : o = 1 := by have q := V.int.inj (of_decide_eq_true z); omega
          rw [if_pos e] at q
          exact q
        · have e : o ≠ 1 := fun e => z (by rw [e]; rfl)
          rw [if_neg e] at q
          exact ⟨_, rfl, q⟩
      by_cases h1 : o = 1
      · have ev : (V.int (o : Int)) = V.int 1 := by rw [h1]; rfl
        exact ⟨_, rfl, rfl, _, rfl, notB ev tail⟩
      · have e : (!decide (V.int (o : Int) = V.int 1)) = true := by
          have : ¬ (V.int (o : Int) = V.int 1) := fun z => h1 (by have := V.int.inj z; omega)
          rw [decide_eq_false this]; rfl
        have ev : (V.int (o : Int)) = V.int (a : Int) := by rcases ho with z | z; rw [z]; exact absurd z h1
        refine ⟨_, rfl, rfl, _, rfl, ?_⟩
        rw [e]
        exact iteT ⟨_, rfl, _, rfl, rfl, _, rfl, notB ev tail⟩
def spWidened (K : PySem.W.Frag) : Sp := fun vs H Q _ => ∃ (v r sa : Addr) (ls S : List Nat) (b : Int) (ss ns : List Int), vs = [.ref v, .ref sa] ∧ VwD K H v r ls b ss ∧ ss.length = ls.length ∧ H sa = some (.tup (tn S)) ∧ Okl S ∧ Fit ls S ∧ RoomR K H r ns ∧ ns.length ≤ 20000 ∧
  ∀ x H', Same H H' → H x = none → VwD K H' x r S (nb S b) (nst S (wst S ls ss)) → Q (.ref x) H'
theorem ok_widened (T : Tx K mg) : Def P w K mg base 7 "widened" ["view", "sides"] [] (spWidened K) := by
  refine Def.mk0 (f_widened T) (g_widened T) sc_widened (fun _ _ _ _ _ _ us hl => match us, hl with | [_, _], _ => rfl) (fun vs H Q E h => ?_) (fun cdv A outer s H vs Q E hr h => ?_)
  · obtain ⟨v, r, sa, ls, S, b, ss, ns, rfl, _⟩ := h; rfl
  · obtain ⟨v, r, sa, ls, S, b, ss, ns, rfl, hv, hsl, hS, ok, fit, hR, hz, q⟩ := h
    have hfl := fit.1
    have h5 := ok.len
    refine ⟨_, (pss_cons (ps_expr (pe_fK (K := K) (P := P) (w := w) (mg := mg) (base := base) ((ok_vet_sides T).mono (by omega)) rfl rfl rfl rfl rfl hr (by rfl) (pa_cons (pv 1) pa_nil)))
    (pss_cons (ps_set (i := 2) sc_widened.nd rfl (Or.inl rfl) (pe_m0K (K := K) (P := P) (w := w) (mg := mg) (base := base) ((ok_View_sides T).mono (by omega)) (cl_View T) rfl rfl rfl rfl rfl hr (pv 0)))
    (pss_cons (ps_set (i := 3) sc_widened.nd rfl (Or.inl rfl) (pe_lst pa_nil))
    (pss_cons (ps_for PassesOwn.never rfl (pi_range2 (by rfl) (z_range T) (pa_cons pe_int (pa_cons (pe_op op_add pe_int (pe_callB (call_max2 rfl) (by rfl) (z_max T) (by decide +kernel) (pa_cons (pe_callB (call_lenK (K := K) rfl) (by rfl) (z_len T) (by decide +kernel) (pa_cons (pv 2) pa_nil)) (pa_cons (pe_callB (call_lenK (K := K) rfl) (by rfl) (z_len T) (by decide +kernel) (pa_cons (pv 1) pa_nil)) pa_nil)))) pa_nil))) (pg_name (i := 4) sc_widened.nd rfl (Or.inl rfl))
    (pss_cons (ps_set (i := 5) sc_widened.nd rfl (Or.inl rfl) (pe_ifExp (pt_cmpR op_le (pv 4) (pe_callB (call_lenK (K := K) rfl) (by rfl) (z_len T) (by decide +kernel) (pa_cons (pv 2) pa_nil)) (nomark _)) (pe_ix (ix_K (K := K) rfl) (pv 2) (pe_un un_neg (pv 4)) (fun _ _ => rfl)) pe_non))
    (pss_cons (ps_set (i := 6) sc_widened.nd rfl (Or.inl rfl) (pe_ifExp (pt_cmpR op_le (pv 4) (pe_callB (call_lenK (K := K) rfl) (by rfl) (z_len T) (by decide +kernel) (pa_cons (pv 2) pa_nil)) (nomark _)) (pe_ix (ix_K (K := K) rfl) (pe_m0K (K := K) (P := P) (w := w) (mg := mg) (base := base) ((ok_View_strides T).mono (by omega)) (cl_View T) rfl rfl rfl rfl rfl hr (pv 0)) (pe_un un_neg (pv 4)) (fun _ _ => rfl)) pe_int))
    (pss_cons (ps_set (i := 7) sc_widened.nd rfl (Or.inl rfl) (pe_ifExp (pt_cmpR op_le (pv 4) (pe_callB (call_lenK (K := K) rfl) (by rfl) (z_len T) (by decide +kernel) (pa_cons (pv 1) pa_nil)) (nomark _)) (pe_ix (ix_K (K := K) rfl) (pv 1) (pe_un un_neg (pv 4)) (fun _ _ => rfl)) pe_non))
    (pss_one (ps_expr (pe_bmK (K := K) rfl PySem.F.plainAttrs_list PySem.F.slot_list_append PySem.F.type_list_append mt_append (pv 3) (pa_cons (pe_fK (K := K) (P := P) (w := w) (mg := mg) (base := base) ((ok_wide_stride T).mono (by omega)) rfl rfl rfl rfl rfl hr (by rfl) (pa_cons (pv 5) (pa_cons (pv 6) (pa_cons (pv 7) (pa_cons (pe_un un_neg (pv 4)) pa_nil))))) pa_nil))))))))
    (pss_one (ps_ret (pe_fK (K := K) (P := P) (w := w) (mg := mg) (base := base) ((ok_plain_view T).mono (by omega)) rfl rfl rfl rfl rfl hr (by rfl) (pa_cons (pe_m0K (K := K) (P := P) (w := w) (mg := mg) (base := base) ((ok_View_room T).mono (by omega)) (cl_View T) rfl rfl rfl rfl rfl hr (pv 0)) (pa_cons (pv 1) (pa_cons (pe_m0K (K := K) (P := P) (w := w) (mg := mg) (base := base) ((ok_View_first T).mono (by omega)) (cl_View T) rfl rfl rfl rfl rfl hr (pv 0)) (pa_cons (pe_callTy (call_tupK (K := K) rfl) (by rfl) (z_tuple T) (by decide +kernel) (pa_cons (pe_revLK (K := K) rfl (pv 3)) pa_nil)) pa_nil))))))))))), ?_⟩
    refine ⟨_, rfl, sa, S, rfl, hS, ok, fun H1 s1 => ?_⟩
    have hv1 := hv.same s1
    obtain ⟨la0, sa0, ⟨dx, h1⟩, h2, h3⟩ := hv1
    refine ⟨_, rfl, v, dx, _, rfl, h1, view_no (by decide) (by decide) (by decide) (by decide), v, r, ls, b, ss, rfl, ⟨la0, sa0, ⟨dx, h1⟩, h2, h3⟩, fun la hla => ?_⟩
    refine ⟨sz_ok (Nat.zero_le _), fun f hf => ?_⟩
    have s2 : Same H1 (upd H1 f (.lst [])) := Same.new hf
    refine ⟨_, rfl, la, _, rfl, .inr (SqT.of (s2 _ _ hla)), _, rfl, sa, _, rfl, .inr (SqT.of (s2 _ _ (s1 _ _ hS))), _, _, rfl, ?_⟩
    have em : (if ((tn S).length : Int) > ((tn ls).length : Int) then ((tn S).length : Int) else ((tn ls).length : Int)) = (S.length : Int) := by
      rw [tn_len, tn_len]
      by_cases z : (S.length : Int) > (ls.length : Int)
      · rw [if_pos z]
      · rw [if_neg z]; omega
    rw [em]
    refine ⟨_, _, rfl, rfl, _, _, rfl, ⟨by omega, by omega, by omega, by omega⟩, ?_⟩
    have en : (1 + (S.length : Int) - 1).toNat = S.length := by omega
    rw [en]
    have hlaf : la ≠ f := ne_of_none hla hf
    refine for_it (walk_range (lo := 1) (n := S.length)) (fun i σ H4 => But f H1 H4 ∧ H4 f = some (.lst (ti ((wst S ls ss).reverse.take i))) ∧ ∃ u1 u2 u3 u4, σ = [some (.ref v), some (.ref sa), some (.ref la), some (.ref f), u1, u2, u3, u4]) ⟨Same.but f s2, (by rw [List.take_zero]; exact upd_same), none, none, none, none, rfl⟩ (fun _ _ _ _ _ => trivial) ?_ ?_
    · rintro i x σ H4 H5 hi ⟨b4, hf4, u1, u2, u3, u4, rfl⟩ ⟨rfl, rfl⟩
      have s4 : Same H1 H5 := But.same hf b4
      have hla5 := s4 _ _ hla
      have hS5 := s4 _ _ (s1 _ _ hS)
      have hSi : S.reverse[i]? = some (S.reverse[i]'(by rw [List.length_reverse]; exact hi)) := List.getElem?_eq_getElem _
      generalize S.reverse[i]'(by rw [List.length_reverse]; exact hi) = ask at hSi
      have back : ∀ {xs : List Nat} {y : Nat}, xs.reverse[i]? = some y → atI (tn xs) (-(1 + (i : Int))) = some (.int (y : Int)) := fun {xs y} h => atI_back (by
        have e : (tn xs).reverse = tn xs.reverse := by simp [tn]
        rw [e]; exact tn_get h)
      have hf5 : ∀ H6, Same H5 H6 → H6 f = some (.lst (ti ((wst S ls ss).reverse.take i))) := fun H6 s6 => s6 _ _ hf4
      have hfin : ∀ (H6 : Hp) (z : Int), Same H5 H6 → (wst S ls ss).reverse[i]? = some z → But f H1 (upd H6 f (.lst (ti ((wst S ls ss).reverse.take i) ++ [.int z]))) ∧ (upd H6 f (.lst (ti ((wst S ls ss).reverse.take i) ++ [.int z]))) f = some (.lst (ti ((wst S ls ss).reverse.take (i + 1)))) := fun H6 z s6 hz => by
        refine ⟨(b4.trans (Same.but f s6)).trans But.put, ?_⟩
        rw [upd_same, take_one hz]
        simp [ti]
      have hlen : (ti ((wst S ls ss).reverse.take i)).length < sizeLine := sz_lt (by rw [ti_len, List.length_take, List.length_reverse, wst_len hsl hfl]; omega)
      refine ⟨_, rfl, _, rfl, la, _, rfl, .inr (SqT.of hla5), _, _, rfl, rfl, _, rfl, ?_⟩
      rw [tn_len]
      by_cases hil : i < ls.length
      · have hl : ls.reverse[i]? = some (ls.reverse[i]'(by rw [List.length_reverse]; exact hil)) := List.getElem?_eq_getElem _
        generalize ls.reverse[i]'(by rw [List.length_reverse]; exact hil) = l at hl
        have hs : ss.reverse[i]? = some (ss.reverse[i]'(by rw [List.length_reverse, hsl]; exact hil)) := List.getElem?_eq_getElem _
        generalize ss.reverse[i]'(by rw [List.length_reverse, hsl]; exact hil) = st at hs
        have hw := wst_own (S := S) hsl hl hs
        refine ite2 (fun _ => ?_) fun z => absurd (decide_eq_true (by omega)) z
        refine ⟨_, rfl, _, rfl, _, rfl, .inr (.inl ⟨la, tn ls, _, .int (l : Int), rfl, rfl, SqT.of hla5, back hl, ?_⟩)⟩
        refine ⟨_, rfl, _, rfl, la, _, rfl, .inr (SqT.of hla5), _, _, rfl, rfl, _, rfl, ?_⟩
        rw [tn_len]
        refine ite2 (fun _ => ?_) fun z => absurd (decide_eq_true (by omega)) z
        refine ⟨_, rfl, v, dx, _, rfl, s4 _ _ h1, view_no (by decide) (by decide) (by decide) (by decide), v, r, ls, b, ss, rfl, (hv.same s1).same s4, fun sb hsb => ?_⟩
        refine ⟨_, rfl, _, rfl, .inr (.inl ⟨sb, ti ss, _, .int st, rfl, rfl, SqT.of hsb, ?_, ?_⟩)⟩
        · refine atI_back ?_
          have e : (ti ss).reverse = ti ss.reverse := by simp [ti]
          rw [e]; exact ti_get hs
        refine ⟨_, rfl, _, rfl, sa, _, rfl, .inr (SqT.of hS5), _, _, rfl, rfl, _, rfl, ?_⟩
        rw [tn_len]
        refine ite2 (fun _ => ?_) fun z => absurd (decide_eq_true (by omega)) z
        refine ⟨_, rfl, _, rfl, _, rfl, .inr (.inl ⟨sa, tn S, _, .int (ask : Int), rfl, rfl, SqT.of hS5, back hSi, ?_⟩)⟩
        refine ⟨_, rfl, .inl ⟨rfl, _, SqL.of (hf5 _ (Same.refl _))⟩, _, rfl, _, rfl, _, rfl, _, rfl, _, rfl, _, st, ask, _, rfl, .inr ⟨l, rfl, fit.2 i l ask hl hSi, ?_⟩⟩
        refine ⟨f, _, _, rfl, rfl, hf5 _ (Same.refl _), hlen, ?_⟩
        exact ⟨(hfin H5 _ (Same.refl _) hw).1, (hfin H5 _ (Same.refl _) hw).2, _, _, _, _, rfl⟩
      · have hw := wst_more (S := S) (ss := ss) hsl (by omega : ls.length ≤ i) hi
        refine ite2 (fun z => absurd (of_decide_eq_true z) (by omega)) fun _ => ?_
        refine ⟨_, rfl, _, rfl, la, _, rfl, .inr (SqT.of hla5), _, _, rfl, rfl, _, rfl, ?_⟩
        rw [tn_len]
        refine ite2 (fun z => absurd (of_decide_eq_true z) (by omega)) fun _ => ?_
        refine ⟨_, rfl, _, rfl, sa, _, rfl, .inr (SqT.of hS5), _, _, rfl, rfl, _, rfl, ?_⟩
        rw [tn_len]
        refine ite2 (fun _ => ?_) fun z => absurd (decide_eq_true (by omega)) z
        refine ⟨_, rfl, _, rfl, _, rfl, .inr (.inl ⟨sa, tn S, _, .int (ask : Int), rfl, rfl, SqT.of hS5, back hSi, ?_⟩)⟩
        refine ⟨_, rfl, .inl ⟨rfl, _, SqL.of (hf5 _ (Same.refl _))⟩, _, rfl, _, rfl, _, rfl, _, rfl, _, rfl, _, 0, ask, _, rfl, .inl ⟨rfl, ?_⟩⟩
        refine ⟨f, _, _, rfl, rfl, hf5 _ (Same.refl _), hlen, ?_⟩
        exact ⟨(hfin H5 _ (Same.refl _) hw).1, (hfin H5 _ (Same.refl _) hw).2, _, _, _, _, rfl⟩
    · rintro σ H4 ⟨b4, hf4, u1, u2, u3, u4, rfl⟩
      have s4 : Same H1 H4 := But.same hf b4
      rw [List.take_of_length_le (by rw [List.length_reverse, wst_len hsl hfl]; exact Nat.le_refl _)] at hf4
      refine ⟨_, rfl, v, dx, _, rfl, s4 _ _ h1, view_no (by decide) (by decide) (by decide) (by decide), v, r, ls, b, ss, rfl, (hv.same s1).same s4, ?_⟩
      refine ⟨_, rfl, _, rfl, v, dx, _, rfl, s4 _ _ h1, view_no (by decide) (by decide) (by decide) (by decide), v, r, ls, b, ss, rfl, (hv.same s1).same s4, ?_⟩
      refine ⟨_, rfl, f, _, rfl, SqL.of hf4, fun p hp => ⟨p, _, rfl, .inl ⟨SqL.of upd_same, fun t ht => ?_⟩⟩⟩
      have e : (ti (wst S ls ss).reverse).reverse = ti (wst S ls ss) := by simp [ti]
      rw [e] at ht ⊢
      have s5 : Same H1 (upd (upd H4 p (.lst (ti (wst S ls ss)))) t (.tup (ti (wst S ls ss)))) := (s4.trans (Same.new hp)).trans (Same.new ht)
      exact ⟨r, sa, t, b, S, wst S ls ss, ns, rfl, hR.same (s1.trans s5), hz, s5 _ _ (s1 _ _ hS), upd_same, wst_len hsl hfl, ok, fun x H' s6 hx d => q x H' ((s1.trans s5).trans s6) ((s1.trans s5).free hx) d⟩
end
end VG
-- VgMeets
set_option Elab.async false
set_option linter.all false
set_option maxRecDepth 100000
set_option maxHeartbeats 4000000
namespace VG
open PySem PySem.Spec PyProof.Rows L2
section
variable {P : Program} {w : World} {K : PySem.W.Frag} {mg : Str → Option Value} {base : Heap}
def spTwice (K : PySem.W.Frag) : Sp := fun vs H Q _ => ∃ v r ls b ss, vs = [.ref v] ∧ VwD K H v r ls b ss ∧ Okl ls ∧ ss.length = ls.length ∧ Inj (cells ls b ss) ∧ ∀ H', Same H H' → Q .non H'
theorem ok_twice_in (T : Tx K mg) : Def P w K mg base 4 "twice_in" ["view"] [] (spTwice K) := by
  refine Def.mk0 (f_twice_in T) (g_twice_in T) sc_twice_in (fun _ _ _ _ _ _ us hl => match us, hl with | [_], _ => rfl) (fun vs H Q E h => ?_) (fun cdv A outer s H vs Q E hr h => ?_)
  · obtain ⟨v, r, ls, b, ss, rfl, _⟩ := h; rfl
  · obtain ⟨v, r, ls, b, ss, rfl, hv, ok, hsl, inj, q⟩ := h
    have hu := Nat.lt_of_le_of_lt (Nat.add_le_add_left (show 1 ≤ 64 by decide) _) hr.units
    refine ⟨_, (pss_cons (ps_set (i := 1) sc_twice_in.nd rfl (Or.inr rfl) pe_dnewK)
    (pss_cons (ps_set (i := 2) sc_twice_in.nd rfl (Or.inr rfl) pe_dnewK)
    (pss_cons (ps_for PassesOwn.never rfl (pi_listK (K := K) rfl (pe_fK (K := K) (P := P) (w := w) (mg := mg) (base := base) ((ok_places_of T).mono (by omega)) rfl rfl rfl rfl rfl hr (by rfl) (pa_cons (pe_m0K (K := K) (P := P) (w := w) (mg := mg) (base := base) ((ok_View_sides T).mono (by omega)) (cl_View T) rfl rfl rfl rfl rfl hr (pv 0)) pa_nil))) (pg_name (i := 3) sc_twice_in.nd rfl (Or.inl rfl))
    (pss_cons (ps_set (i := 4) sc_twice_in.nd rfl (Or.inl rfl) (pe_mK (K := K) (P := P) (w := w) (mg := mg) (base := base) ((ok_View_cell T).mono (by omega)) (cl_View T) rfl rfl rfl rfl rfl hr (pv 0) (pa_cons (pv 3) pa_nil)))
    (pss_one (ps_if (pt_cmp (pc_din hu (pv 4) (pv 1)) (by rfl)) (pss_one ps_never) (pss_one (ps_dput hu (pv 1) (pv 4) (pv 3) (by rfl)))))))
    (pss_cons (ps_lock (ps_setLc (i := 5) (own := [("cell", 4)]) (tt := tYes) rfl sc_twice_in.nd rfl rfl (sw_true rfl rfl rfl (by decide +kernel)) (pi_keys (pv 2)) (blkOk_by (own := [("cell", 4)]) (sc := defScope s_twice_in) (N := n_twice_in) (by decide +kernel)) (fun _ _ _ _ _ => (pg_name (i := 4) sc_twice_in.nd rfl (by first | exact Or.inl rfl | exact Or.inr rfl))) (fun _ _ _ _ _ => pts_nil) (fun _ _ _ _ _ => (pe_tup (pa_cons (pe_ix (ix_K (K := K) rfl) (pv 1) (pv 4) (fun _ _ => rfl)) (pa_cons (pe_ix (ix_K (K := K) rfl) (pv 2) (pv 4) (fun _ _ => rfl)) pa_nil))))))
    (pss_one (ps_ret (pe_callBK (cr_minD0 (K := K) rfl hr.hd) (by rfl) (z_min T) (by decide +kernel) (pa_cons (pv 5) pa_nil) (pk_cons pe_non pk_nil)))))))), ?_⟩
    refine fun f hf => fun g hg => ?_
    have s2 : Same H (upd (upd H f (.dK [])) g (.dK [])) := (Same.new hf).trans (Same.new hg)
    have f2 : (upd (upd H f (.dK [])) g (.dK [])) f = some (.dK []) := (Same.new hg) _ _ upd_same
    have g2 : (upd (upd H f (.dK [])) g (.dK [])) g = some (.dK []) := upd_same
    have fg : f ≠ g := ne_of_none upd_same hg
    have g0 : H g = none := (Same.new hf).free hg
    generalize upd (upd H f (.dK [])) g (.dK []) = H2 at s2 f2 g2
    have hv2 := hv.same s2
    have hv2' := hv2
    obtain ⟨la0, sa0, ⟨dx, h1⟩, h2, h3⟩ := hv2'
    refine ⟨_, rfl, v, dx, _, rfl, h1, view_no (by decide) (by decide) (by decide) (by decide), v, r, ls, b, ss, rfl, hv2, fun la hla => ?_⟩
    refine ⟨la, ls, rfl, SqT.of hla, ok.len, ok.each, by have := ok.size; omega, fun p H3 s3 hp ⟨as, hp1, tps⟩ => ?_⟩
    have hv3 := hv2.same s3
    have hvf : v ≠ f := ne_of h1 f2 (by intro z; cases z)
    have npf : p ≠ f := (ne_of_none f2 hp).symm
    refine ⟨p, rfl, ⟨_, SqL.of hp1⟩, for_it (walk_refs tps.len) (fun i σ H5 => But f H3 H5 ∧ (∃ kvs, H5 f = some (.dK kvs) ∧ kvs.length ≤ i ∧ ∀ k, valV kvs (.inl k) ≠ none → ∃ j, j < i ∧ (cells ls b ss)[j]? = some k) ∧ ∃ u3 u4, σ = [some (.ref v), some (.ref f), some (.ref g), u3, u4, none])
      ⟨fun _ _ _ e => e, ⟨[], s3 _ _ f2, Nat.le_refl _, fun k h => absurd valV_nil h⟩, none, none, rfl⟩ (fun i σ H5 _ h => SqL.of (h.1 _ _ npf hp1)) ?_ ?_⟩
    · rintro i x σ H5 H6 hi ⟨b5, ⟨kvs, hk, hkl, hkv⟩, u3, u4, rfl⟩ ⟨rfl, a, ha, rfl⟩
      obtain ⟨pl, hpl, hat⟩ := tps.get ha
      have hin := mem_places.mp (List.mem_of_getElem? hpl)
      have hat5 := b5 _ _ (ne_of hat (s3 _ _ f2) (by intro z; cases z)) hat
      have hv5 : VwD K H6 v r ls b ss := hv3.keep fun a o ho e => b5 a o (fun z0 => by
        rcases ho with z | z | z
        · rw [z0, s3 _ _ f2] at e; rw [z] at e; cases e
        · rw [z0, s3 _ _ f2] at e; rw [z] at e; cases e
        · exact hvf (z.symm.trans z0)) e
      have hv5' := hv5
      obtain ⟨la5, sa5, ⟨dx5, h15⟩, h25, h35⟩ := hv5'
      refine ⟨_, rfl, v, dx5, _, rfl, h15, view_no (by decide) (by decide) (by decide) (by decide), _, rfl, v, r, ls, b, ss, a, pl, rfl, hv5, ok, hsl, hat5, hin, fun H7 s7 => ?_⟩
      have hc : (cells ls b ss)[i]? = some (cellAt b ss pl) := by unfold cells; rw [List.getElem?_map, hpl]; rfl
      have hkn : valV kvs (.inl (cellAt b ss pl)) = none := by
        cases z : valV kvs (.inl (cellAt b ss pl)) with
        | none => rfl
        | some u =>
          obtain ⟨j, hj, hj2⟩ := hkv _ (by rw [z]; simp)
          have := inj _ _ _ hj2 hc
          omega
      have hkv7 := s7 _ _ hk
      have hg7 : DGet H7 f (kV (.inl (cellAt b ss pl))) (valV kvs (.inl (cellAt b ss pl))) := DGet.k hkv7
      refine ⟨_, rfl, _, rfl, f, _, rfl, hg7, _, rfl, ?_⟩
      rw [hkn]
      refine iteF ⟨_, rfl, _, rfl, _, rfl, f, _, rfl, DPut.k (k := .inl (cellAt b ss pl)) hkv7 (sz_lt (by have := ok.size; rw [places_len] at hi; omega)), ?_⟩
      refine ⟨(b5.trans (Same.but f s7)).trans But.put, ⟨_, upd_same, ?_, fun k h => ?_⟩, _, _, rfl⟩
      · exact Nat.le_trans (length_putK _ _ _) (Nat.succ_le_succ hkl)
      · rw [valV_put] at h
        by_cases z : (Sum.inl k : Key) = .inl (cellAt b ss pl)
        · exact ⟨i, Nat.lt_succ_self i, by rw [hc]; injection z with z; rw [z]⟩
        · rw [if_neg z] at h
          obtain ⟨j, hj, hj2⟩ := hkv k h
          exact ⟨j, by omega, hj2⟩
    · rintro σ H5 ⟨b5, ⟨kvs, hk, hkl, hkv⟩, u3, u4, rfl⟩
      have g5 := b5 _ _ (Ne.symm fg) (s3 _ _ g2)
      have s25 : But f H H5 := (Same.but f (s2.trans s3)).trans b5
      have s5 : Same H H5 := fun y o e => s25 y o (ne_of_none e hf) e
      refine ⟨g, _, g5, trivial, fun od => ?_⟩
      refine ⟨_, rfl, g, od, rfl, .inl ⟨[], upd_same, fun D hD => ?_⟩⟩
      have ngD : D ≠ g := fun z => by rw [z, upd_same] at hD; cases hD
      refine lc_new (walk_keys (d := g) (o := od) (kvs := [])) (Nat.zero_le _) hD (fun i y _ => True) (fun H6 s6 => s6 _ _ upd_same) (fun _ _ _ _ _ h => h) ?_ ?_
      · rintro i x H6 H7 Kt hi
        exact absurd hi (Nat.not_lt_zero _)
      · intro ys H6 s6 hD6 hy _
        have g6 := s6 _ _ (upd_same (H := H5) (a := g) (o := .frz od (.dK [])))
        have e : ys = [] := List.length_eq_zero_iff.mp hy
        subst e
        refine ⟨g6, _, rfl, D, .non, rfl, rfl, SqL.of (by rw [upd_ne ngD]; exact hD6), ?_⟩
        refine q _ fun y o e => ?_
        have yg : y ≠ g := ne_of_none e g0
        rw [upd_ne yg]
        exact s6 _ _ (by rw [upd_ne yg]; exact s5 _ _ e)
theorem ok_need_unlike (T : Tx K mg) : Def P w K mg base 5 "need_unlike" ["target"] [] (spTwice K) := by
  refine Def.mk0 (f_need_unlike T) (g_need_unlike T) sc_need_unlike (fun _ _ _ _ _ _ us hl => match us, hl with | [_], _ => rfl) (fun vs H Q E h => ?_) (fun cdv A outer s H vs Q E hr h => ?_)
  · obtain ⟨v, r, ls, b, ss, rfl, _⟩ := h; rfl
  · obtain ⟨v, r, ls, b, ss, rfl, hv, ok, hsl, inj, q⟩ := h
    refine ⟨_, (pss_cons (ps_set (i := 1) sc_need_unlike.nd rfl (Or.inl rfl) (pe_fK (K := K) (P := P) (w := w) (mg := mg) (base := base) ((ok_twice_in T).mono (by omega)) rfl rfl rfl rfl rfl hr (by rfl) (pa_cons (pv 0) pa_nil)))
    (pss_one (ps_if (pt_cmpR op_notN (pv 1) pe_non (nomark _)) (pss_cons (ps_asg (pv 1) (pg_tupK (K := K) (n := 2) rfl rfl (pgs_cons (pg_name (i := 2) sc_need_unlike.nd rfl (Or.inl rfl)) (pgs_cons (pg_name (i := 3) sc_need_unlike.nd rfl (Or.inl rfl)) pgs_nil))))
    (pss_one ps_never)) pss_nil))), ?_⟩
    refine ⟨_, rfl, v, r, ls, b, ss, rfl, hv, ok, hsl, inj, fun H1 s1 => ?_⟩
    exact ⟨_, rfl, rfl, _, rfl, iteF (q H1 s1)⟩
def spNeedOpen (K : PySem.W.Frag) : Sp := fun vs H Q _ => ∃ (a : Addr) (n w : Int) (pl : Addr) (c : Int), vs = [.ref a] ∧ RmO K H a n w pl c 0 ∧ Q .non H
theorem ok_need_open (T : Tx K mg) : Def P w K mg base 2 "need_open" ["room"] [] (spNeedOpen K) := by
  refine Def.mk0 (f_need_open T) (g_need_open T) sc_need_open (fun _ _ _ _ _ _ us hl => match us, hl with | [_], _ => rfl) (fun vs H Q E h => ?_) (fun cdv A outer s H vs Q E hr h => ?_)
  · obtain ⟨a, n, _, _, _, rfl, _⟩ := h; rfl
  · obtain ⟨a, n, wd, pl, c, rfl, ⟨dx, ho⟩, q⟩ := h
    refine ⟨_, (pss_one (ps_if (pt_val (pe_m0K (K := K) (P := P) (w := w) (mg := mg) (base := base) ((ok_Room_is_shut T).mono (by omega)) (cl_Room T) rfl rfl rfl rfl rfl hr (pv 0))) (pss_one ps_never) pss_nil)), ?_⟩
    refine ⟨_, rfl, a, dx, _, rfl, ho, room_no (by decide) (by decide) (by decide) (by decide) (by decide), a, n, wd, pl, c, 0, rfl, ⟨dx, ho⟩, ?_⟩
    exact ⟨false, congrArg V.bl (decide_eq_false (by omega)), iteF q⟩
end
end VG
-- VgMath4
set_option linter.all false
namespace VG
/-- the place of the own sides that a place of the asked sides stands for -/
def clip1 : List Nat → List Nat → List Nat
  | l :: ls, k :: p => (if l = 1 then 0 else k) :: clip1 ls p
  | _, _ => []
def clip (L ls p : List Nat) : List Nat := clip1 ls (p.drop (L.length - ls.length))
theorem dot_zeros : ∀ (m : Nat) (p : List Nat) (ss : List Int), m ≤ p.length → dot p (List.replicate m 0 ++ ss) = dot (p.drop m) ss
  | 0, p, ss, _ => by simp
  | m + 1, [], ss, h => by simp at h
  | m + 1, k :: p, ss, h => by
    have ih := dot_zeros m p ss (by simpa using h)
    simp only [List.replicate_succ, List.cons_append, dot, List.drop_succ_cons, ih]
    omega
theorem dot_clip1 : ∀ (ls : List Nat) (ss : List Int) (p : List Nat), ss.length = ls.length → p.length = ls.length → dot p (nst1 ls ss) = dot (clip1 ls p) ss
  | [], [], [], _, _ => rfl
  | l :: ls, s :: ss, k :: p, h1, h2 => by
    have ih := dot_clip1 ls ss p (by simpa using h1) (by simpa using h2)
    simp only [nst1, clip1, dot, ih]
    by_cases e : l = 1
    · rw [if_pos e, if_pos e]; simp
    · rw [if_neg e, if_neg e]
  | [], _ :: _, _, h, _ => by simp at h
  | _ :: _, [], _, h, _ => by simp at h
  | [], [], _ :: _, _, h => by simp at h
  | _ :: _, _ :: _, [], _, h => by simp at h
theorem inb_drop : ∀ (m : Nat) {p L : List Nat}, Inb p L → Inb (p.drop m) (L.drop m)
  | 0, _, _, h => h
  | m + 1, [], [], _ => trivial
  | m + 1, _ :: _, _ :: _, h => inb_drop m h.2
  | m + 1, [], _ :: _, h => h.elim
  | m + 1, _ :: _, [], h => h.elim
theorem inb_clip1 : ∀ {ls M p : List Nat}, Inb p M → M.length = ls.length → (∀ (i x l : Nat), ls[i]? = some x → M[i]? = some l → x = l ∨ x = 1) → Inb (clip1 ls p) ls
  | [], [], [], _, _, _ => trivial
  | l :: ls, m :: M, k :: p, h, e, f => by
    have ih := inb_clip1 (ls := ls) h.2 (by simpa using e) fun i x y a b => f (i + 1) x y (by simpa using a) (by simpa using b)
    refine ⟨?_, ih⟩
    have h0 := f 0 l m rfl rfl
    have h1 := h.1
    by_cases e1 : l = 1
    · rw [if_pos e1]; omega
    · rw [if_neg e1]
      rcases h0 with z | z
      · omega
      · exact absurd z e1
  | [], _ :: _, _, _, e, _ => by simp at e
  | _ :: _, [], _, _, e, _ => by simp at e
  | _ :: _, _ :: _, [], h, _, _ => h.elim
  | [], [], _ :: _, h, _, _ => h.elim
theorem fit_drop {ls L : List Nat} (f : Fit ls L) (i x l : Nat) (h1 : ls[i]? = some x) (h2 : (L.drop (L.length - ls.length))[i]? = some l) : x = l ∨ x = 1 := by
  have hi := (List.getElem?_eq_some_iff.mp h1).1
  have hf := f.1
  rw [List.getElem?_drop] at h2
  have hj := (List.getElem?_eq_some_iff.mp h2).1
  refine f.2 (ls.length - 1 - i) x l ?_ ?_
  · rw [List.getElem?_reverse (by omega), ← h1]
    congr 1
    omega
  · rw [List.getElem?_reverse (by omega), ← h2]
    congr 1
    omega
theorem inb_clip {L ls p : List Nat} (f : Fit ls L) (h : Inb p L) : Inb (clip L ls p) ls := by
  unfold clip
  refine inb_clip1 (inb_drop _ h) ?_ (fit_drop f)
  have hf := f.1
  rw [List.length_drop]
  omega
theorem cell_wide {L ls p : List Nat} {b : Int} {ss : List Int} (f : Fit ls L) (h : Inb p L) (hs : ss.length = ls.length) : cellAt b (wst L ls ss) p = cellAt b ss (clip L ls p) := by
  have hp := h.len
  have hf := f.1
  unfold cellAt wst clip
  rw [dot_zeros _ _ _ (by omega), dot_clip1 ls ss _ hs (by rw [List.length_drop]; omega)]
theorem cells_wide {L ls : List Nat} {b : Int} {ss : List Int} (f : Fit ls L) (hs : ss.length = ls.length) : cells L b (wst L ls ss) = (places L).map fun p => cellAt b ss (clip L ls p) :=
  List.map_congr_left fun p hp => cell_wide f (mem_places.mp hp) hs
theorem within_wide {L ls : List Nat} {b : Int} {ss : List Int} {n : Nat} (f : Fit ls L) (hs : ss.length = ls.length) (h : Within (cells ls b ss) n) : Within (cells L b (wst L ls ss)) n := by
  rw [cells_wide f hs]
  intro c hc
  obtain ⟨p, hp, rfl⟩ := List.mem_map.mp hc
  exact h _ (List.mem_map.mpr ⟨_, mem_places.mpr (inb_clip f (mem_places.mp hp)), rfl⟩)
/-- the numbers V written into the cells C, one behind another -/
def wr (ns C V : List Int) : List Int := (C.zip V).foldl (fun a q => a.set q.1.toNat q.2) ns
theorem wr_len (ns : List Int) : ∀ (Q : List (Int × Int)) , (Q.foldl (fun (a : List Int) q => a.set q.1.toNat q.2) ns).length = ns.length := by
  intro Q
  induction Q generalizing ns with
  | nil => rfl
  | cons q Q ih => rw [List.foldl_cons, ih, List.length_set]
theorem wr_take {ns C V : List Int} {i : Nat} {c v : Int} (hc : C[i]? = some c) (hv : V[i]? = some v) : ((C.zip V).take (i + 1)).foldl (fun (a : List Int) q => a.set q.1.toNat q.2) ns = (((C.zip V).take i).foldl (fun (a : List Int) q => a.set q.1.toNat q.2) ns).set c.toNat v := by
  have h : (C.zip V)[i]? = some (c, v) := by rw [List.getElem?_zip_eq_some]; exact ⟨hc, hv⟩
  rw [List.take_add_one, h]
  simp [List.foldl_append]
end VG
-- VgMath5
set_option linter.all false
namespace VG
/-- numbers in the sides ls, looked at by the sides L -/
def wideN (L ls : List Nat) (xs : List Int) : List Int := (places L).map fun p => xs.getD (idx ls (clip L ls p)) 0
theorem wideN_len (L ls : List Nat) (xs : List Int) : (wideN L ls xs).length = sz L := by
  unfold wideN; rw [List.length_map, places_len]
theorem cells_idx {ls : List Nat} {b : Int} {ss : List Int} {q : List Nat} (h : Inb q ls) : (cells ls b ss)[idx ls q]? = some (cellAt b ss q) := by
  unfold cells; rw [List.getElem?_map, places_idx h]; rfl
theorem pick_wide {L ls : List Nat} {b : Int} {ss ns : List Int} (f : Fit ls L) (hs : ss.length = ls.length) : pick ns (cells L b (wst L ls ss)) = wideN L ls (pick ns (cells ls b ss)) := by
  rw [cells_wide f hs]
  unfold pick wideN
  rw [List.map_map]
  refine List.map_congr_left fun p hp => ?_
  have hi := inb_clip f (mem_places.mp hp)
  show at0 ns (cellAt b ss (clip L ls p)) = _
  rw [List.getD_eq_getElem?_getD, List.getElem?_map, cells_idx hi]
  rfl
theorem clip1_drop : ∀ (m : Nat) (L p : List Nat), (clip1 L p).drop m = clip1 (L.drop m) (p.drop m)
  | 0, _, _ => rfl
  | m + 1, [], p => by cases p <;> simp [clip1]
  | m + 1, l :: L, [] => by simp [clip1]
  | m + 1, l :: L, k :: p => by
    simp only [clip1, List.drop_succ_cons]
    exact clip1_drop m L p
theorem clip1_clip1 : ∀ {ls M p : List Nat}, M.length = ls.length → (∀ (i x l : Nat), ls[i]? = some x → M[i]? = some l → x = l ∨ x = 1) → clip1 ls (clip1 M p) = clip1 ls p
  | [], [], p, _, _ => by cases p <;> rfl
  | l :: ls, m :: M, [], _, _ => rfl
  | l :: ls, m :: M, k :: p, e, f => by
    have ih := clip1_clip1 (ls := ls) (M := M) (p := p) (by simpa using e) fun i x y a b => f (i + 1) x y (by simpa using a) (by simpa using b)
    have h0 := f 0 l m rfl rfl
    simp only [clip1, ih]
    by_cases e1 : l = 1
    · rw [if_pos e1, if_pos e1]
    · rw [if_neg e1, if_neg e1]
      rcases h0 with z | z
      · rw [if_neg (by omega)]
      · exact absurd z e1
  | [], _ :: _, _, e, _ => by simp at e
  | _ :: _, [], _, e, _ => by simp at e
theorem clip_clip {LT L ls p : List Nat} (f1 : Fit ls L) (f2 : Fit L LT) (h : Inb p LT) : clip L ls (clip LT L p) = clip LT ls p := by
  have h1 := f1.1
  have h2 := f2.1
  unfold clip
  rw [clip1_drop, List.drop_drop, clip1_clip1 (by rw [List.length_drop]; omega) (fit_drop f1)]
  congr 2
  omega
theorem Fit.trans {ls L LT : List Nat} (a : Fit ls L) (b : Fit L LT) : Fit ls LT := by
  have h1 := a.1
  have h2 := b.1
  refine ⟨by omega, fun i x l e1 e2 => ?_⟩
  have hi : i < ls.length := by have := (List.getElem?_eq_some_iff.mp e1).1; rw [List.length_reverse] at this; exact this
  obtain ⟨m, hm⟩ : ∃ m, L.reverse[i]? = some m := ⟨L.reverse[i]'(by rw [List.length_reverse]; omega), List.getElem?_eq_getElem _⟩
  rcases a.2 i x m e1 hm with z | z
  · subst z
    exact b.2 i x l hm e2
  · exact .inr z
theorem wideN_wideN {LT L ls : List Nat} {xs : List Int} (f1 : Fit ls L) (f2 : Fit L LT) : wideN LT L (wideN L ls xs) = wideN LT ls xs := by
  unfold wideN
  refine List.map_congr_left fun p hp => ?_
  have hi := inb_clip f2 (mem_places.mp hp)
  rw [List.getD_eq_getElem?_getD (l := (places L).map _), List.getElem?_map, places_idx hi]
  show xs.getD (idx ls (clip L ls (clip LT L p))) 0 = _
  rw [clip_clip f1 f2 (mem_places.mp hp)]
/-- f of the rows' columns -/
def outN (n : Nat) (f : List Int → Int) (rows : List (List Int)) : List Int := (List.range n).map fun j => f (rows.map fun r => r.getD j 0)
theorem outN_len (n : Nat) (f : List Int → Int) (rows : List (List Int)) : (outN n f rows).length = n := by
  unfold outN; rw [List.length_map, List.length_range]
theorem wideN_out {LT L : List Nat} {f : List Int → Int} {rows : List (List Int)} (f2 : Fit L LT) (hr : ∀ r ∈ rows, r.length = sz L) : wideN LT L (outN (sz L) f rows) = outN (sz LT) f (rows.map (wideN LT L)) := by
  apply List.ext_getElem?
  intro i
  unfold wideN outN
  rw [List.getElem?_map, List.getElem?_map]
  cases h : (places LT)[i]? with
  | none =>
    have := List.getElem?_eq_none_iff.mp h
    rw [places_len] at this
    rw [List.getElem?_eq_none (by rw [List.length_range]; exact this)]
    rfl
  | some p =>
    have hi := (List.getElem?_eq_some_iff.mp h).1
    rw [places_len] at hi
    rw [List.getElem?_range hi]
    have hp := mem_places.mp (List.mem_of_getElem? h)
    have hc := inb_clip f2 hp
    have hlt := idx_lt hc
    show some _ = some _
    congr 1
    show (List.map (fun j => f (List.map (fun r => r.getD j 0) rows)) (List.range (sz L))).getD (idx L (clip LT L p)) 0 = _
    rw [List.getD_eq_getElem?_getD, List.getElem?_map, List.getElem?_range hlt]
    show f _ = f _
    congr 1
    rw [List.map_map]
    refine List.map_congr_left fun r hr' => ?_
    show r.getD (idx L (clip LT L p)) 0 = ((places LT).map fun p => r.getD (idx L (clip LT L p)) 0).getD i 0
    rw [List.getD_eq_getElem?_getD (l := (places LT).map _), List.getElem?_map, h]
    rfl
end VG
-- VgWritten
set_option Elab.async false
set_option linter.all false
set_option maxRecDepth 100000
set_option maxHeartbeats 4000000
namespace VG
open PySem PySem.Spec PyProof.Rows L2
section
variable {P : Program} {w : World} {K : PySem.W.Frag} {mg : Str → Option Value} {base : Heap}
/-- a view that may be written, of the room d with the twin e -/
structure Tgt (K : PySem.W.Frag) (H : Hp) (t : Addr) (d e : RD) (L : List Nat) (b : Int) (ss : List Int) : Prop where
  sy : SysD K H d e
  vw : VwD K H t d.a L b ss
  ok : Okl L
  sl : ss.length = L.length
  nt : Inj (cells L b ss)
  wi : Within (cells L b ss) d.ns.length
  sm : d.ns.length ≤ 20000
theorem Tgt.same {H H' : Hp} {t : Addr} {d e : RD} {L : List Nat} {b : Int} {ss : List Int} (g : Tgt K H t d e L b ss) (s : Same H H') : Tgt K H' t d e L b ss := ⟨g.sy.same s, g.vw.same s, g.ok, g.sl, g.nt, g.wi, g.sm⟩
/-- a view that may be read -/
structure Src (K : PySem.W.Frag) (H : Hp) (s r : Addr) (ns : List Int) (ls : List Nat) (b : Int) (ss : List Int) : Prop where
  vw : VwD K H s r ls b ss
  rm : RoomR K H r ns
  sl : ss.length = ls.length
  ok : Okl ls
  wi : Within (cells ls b ss) ns.length
  sm : ns.length ≤ 20000
theorem Src.same {H H' : Hp} {s r : Addr} {ns : List Int} {ls : List Nat} {b : Int} {ss : List Int} (g : Src K H s r ns ls b ss) (sm : Same H H') : Src K H' s r ns ls b ss := ⟨g.vw.same sm, g.rm.same sm, g.sl, g.ok, g.wi, g.sm⟩
/-- the room written -/
def Wrote (K : PySem.W.Frag) (H H' : Hp) (d e d' e' : RD) (ns : List Int) : Prop := SysD K H' d' e' ∧ d'.ns = ns ∧ e'.ns = e.ns ∧ d'.a = d.a ∧ EqE e' e ∧ d'.w = d.w ∧ Frm d.ft d'.ft H H'
theorem Wrote.trans {H H1 H2 : Hp} {d e d1 e1 d2 e2 : RD} {n1 n2 : List Int} (a : Wrote K H H1 d e d1 e1 n1) (b : Wrote K H1 H2 d1 e1 d2 e2 n2) : Wrote K H H2 d e d2 e2 n2 := by
  obtain ⟨a1, a2, a3, a4, a5, a6, a7⟩ := a
  obtain ⟨b1, b2, b3, b4, b5, b6, b7⟩ := b
  exact ⟨b1, b2, b3.trans a3, b4.trans a4, b5.trans a5, b6.trans a6, a7.trans b7⟩
theorem Wrote.of {H H' : Hp} {d e : RD} (sy : SysD K H d e) (s : Same H H') : Wrote K H H' d e d e d.ns := ⟨sy.same s, rfl, rfl, rfl, EqE.refl e, rfl, Frm.of s⟩
theorem VwD.wrote {H H' : Hp} {v r : Addr} {ls : List Nat} {b : Int} {ss : List Int} {d e d' e' : RD} {n : List Int} (h : VwD K H v r ls b ss) (sy : SysD K H d e) (w : Wrote K H H' d e d' e' n) : VwD K H' v r ls b ss := h.frm sy.r0 w.2.2.2.2.2.2
def spWritten (K : PySem.W.Frag) : Sp := fun vs H Q _ => ∃ (t s r : Addr) (d e : RD) (L ls : List Nat) (b sb : Int) (ss sss ns : List Int), vs = [.ref t, .ref s] ∧ Tgt K H t d e L b ss ∧ Src K H s r ns ls sb sss ∧ Fit ls L ∧
  ∀ H' (d' e' : RD), Wrote K H H' d e d' e' (wr d.ns (cells L b ss) (pick ns (cells L sb (wst L ls sss)))) → Q .non H'
theorem ok_written (T : Tx K mg) : Def P w K mg base 8 "written" ["target", "source"] [] (spWritten K) := by
  refine Def.mk0 (f_written T) (g_written T) sc_written (fun _ _ _ _ _ _ us hl => match us, hl with | [_, _], _ => rfl) (fun vs H Q E h => ?_) (fun cdv A outer s H vs Q E hr h => ?_)
  · obtain ⟨t, s, r, d, e, L, ls, b, sb, ss, sss, ns, rfl, _⟩ := h; rfl
  · obtain ⟨t, s, r, d, e, L, ls, b, sb, ss, sss, ns, rfl, G, R, fit, q⟩ := h
    obtain ⟨la0, sa0, ⟨dx, h1⟩, h2, h3⟩ := id G.vw
    refine ⟨_, (pss_cons (ps_set (i := 2) sc_written.nd rfl (Or.inl rfl) (pe_fK (K := K) (P := P) (w := w) (mg := mg) (base := base) ((ok_widened T).mono (by omega)) rfl rfl rfl rfl rfl hr (by rfl) (pa_cons (pv 1) (pa_cons (pe_m0K (K := K) (P := P) (w := w) (mg := mg) (base := base) ((ok_View_sides T).mono (by omega)) (cl_View T) rfl rfl rfl rfl rfl hr (pv 0)) pa_nil))))
    (pss_cons (ps_expr (pe_fK (K := K) (P := P) (w := w) (mg := mg) (base := base) ((ok_need_unlike T).mono (by omega)) rfl rfl rfl rfl rfl hr (by rfl) (pa_cons (pv 0) pa_nil)))
    (pss_cons (ps_expr (pe_fK (K := K) (P := P) (w := w) (mg := mg) (base := base) ((ok_need_open T).mono (by omega)) rfl rfl rfl rfl rfl hr (by rfl) (pa_cons (pe_m0K (K := K) (P := P) (w := w) (mg := mg) (base := base) ((ok_View_room T).mono (by omega)) (cl_View T) rfl rfl rfl rfl rfl hr (pv 0)) pa_nil)))
    (pss_one (ps_for PassesOwn.never rfl (pi_zipS (K := K) rfl (by rfl) (z_zip T) (pa_cons (pe_fK (K := K) (P := P) (w := w) (mg := mg) (base := base) ((ok_places_of T).mono (by omega)) rfl rfl rfl rfl rfl hr (by rfl) (pa_cons (pe_m0K (K := K) (P := P) (w := w) (mg := mg) (base := base) ((ok_View_sides T).mono (by omega)) (cl_View T) rfl rfl rfl rfl rfl hr (pv 0)) pa_nil)) (pa_cons (pe_m0K (K := K) (P := P) (w := w) (mg := mg) (base := base) ((ok_View_numbers T).mono (by omega)) (cl_View T) rfl rfl rfl rfl rfl hr (pv 2)) pa_nil)) (pk_cons pe_bl pk_nil)) (pg_tupK (K := K) (n := 2) rfl rfl (pgs_cons (pg_name (i := 3) sc_written.nd rfl (Or.inl rfl)) (pgs_cons (pg_name (i := 4) sc_written.nd rfl (Or.inl rfl)) pgs_nil)))
    (pss_one (ps_expr (pe_mK (K := K) (P := P) (w := w) (mg := mg) (base := base) ((ok_View_put T).mono (by omega)) (cl_View T) rfl rfl rfl rfl rfl hr (pv 0) (pa_cons (pv 3) (pa_cons (pv 4) pa_nil)))))))))), ?_⟩
    refine ⟨_, rfl, _, rfl, t, dx, _, rfl, h1, view_no (by decide) (by decide) (by decide) (by decide), t, d.a, L, b, ss, rfl, G.vw, fun la hla => ?_⟩
    refine ⟨s, r, la, ls, L, sb, sss, ns, rfl, R.vw, R.sl, hla, G.ok, fit, R.rm, R.sm, fun x H1 s1 hx0 hx => ?_⟩
    have G1 := G.same s1
    refine ⟨_, rfl, t, d.a, L, b, ss, rfl, G1.vw, G.ok, G.sl, G.nt, fun H2 s2 => ?_⟩
    have G2 := G1.same s2
    have s02 := s1.trans s2
    obtain ⟨rx, hro⟩ := G2.sy.r0.ob
    refine ⟨_, rfl, t, dx, _, rfl, s02 _ _ h1, view_no (by decide) (by decide) (by decide) (by decide), t, d.a, L, b, ss, rfl, G2.vw, d.a, _, _, _, _, rfl, ⟨rx, by rw [← G.sy.sh0]; exact hro⟩, ?_⟩
    refine ⟨_, rfl, t, dx, _, rfl, s02 _ _ h1, view_no (by decide) (by decide) (by decide) (by decide), t, d.a, L, b, ss, rfl, G2.vw, fun la2 hla2 => ?_⟩
    refine ⟨la2, L, rfl, SqT.of hla2, G.ok.len, G.ok.each, by have := G.ok.size; omega, fun p H3 s3 hp ⟨as, hp1, tps⟩ => ?_⟩
    have hx3 := (hx.same s2).same s3
    obtain ⟨xla, xsa, ⟨xd, x1⟩, x2, x3⟩ := id hx3
    have hwl := wst_len (S := L) R.sl fit.1
    refine ⟨_, rfl, x, xd, _, rfl, x1, view_no (by decide) (by decide) (by decide) (by decide), x, r, L, _, _, ns, rfl, hx3, G.ok, nst_len hwl, R.rm.same (s02.trans s3), ?_, fun l H4 s4 hl hl2 => ?_⟩
    · rw [cells_norm _ hwl]; exact within_wide fit R.sl R.wi
    rw [cells_norm _ hwl] at hl2
    have s04 := (s02.trans s3).trans s4
    have G4 := G.same s04
    have hp4 := s4 _ _ hp1
    have tp4 := tps.same s4
    have lp : (as.map V.ref).length = sz L := by rw [List.length_map, tps.len, places_len]
    have ll : (ti (pick ns (cells L sb (wst L ls sss)))).length = sz L := by unfold pick; rw [ti_len, List.length_map, cells_len]
    have nft : ∀ y, H y = none → ¬ d.ft y := fun y e f => by
      obtain ⟨o, h, _⟩ := foot_at G.sy.r0 f
      rw [e] at h; cases h
    have npf : ¬ d.ft p := nft p (s02.free hp)
    have nlf : ¬ d.ft l := nft l ((s02.trans s3).free hl)
    have ntf : ∀ y xs, H4 y = some (.tup xs) → ¬ d.ft y := fun y xs e f => by
      obtain ⟨o, h, n, _⟩ := foot_at G4.sy.r0 f
      rw [e] at h; cases h
      exact n _ rfl
    refine ⟨p, l, _, _, rfl, rfl, SqL.of hp4, SqL.of hl2, for_it (walk_zipS lp ll) (fun i σ H5 => (∃ d' e', Wrote K H4 H5 d e d' e' ((((cells L b ss).zip (pick ns (cells L sb (wst L ls sss)))).take i).foldl (fun (a : List Int) q => a.set q.1.toNat q.2) d.ns)) ∧ H5 p = some (.lst (as.map V.ref)) ∧ H5 l = some (.lst (ti (pick ns (cells L sb (wst L ls sss))))) ∧ (∀ y xs, H4 y = some (.tup xs) → H5 y = some (.tup xs)) ∧ ∃ u v, σ = [some (.ref t), some (.ref s), some (.ref x), u, v])
      ⟨⟨d, e, by rw [List.take_zero]; exact Wrote.of G4.sy (Same.refl _)⟩, hp4, hl2, fun _ _ e => e, none, none, rfl⟩ (fun i σ H5 _ h => ⟨SqL.of h.2.1, SqL.of h.2.2.1⟩) ?_ ?_⟩
    · rintro i y σ H5 H6 hi ⟨⟨d', e', W⟩, hp5, hl5, ht5, u, v, rfl⟩ ⟨T1, x1', y1, rfl, hT, rfl, ex, ey⟩
      have ex : (as.map V.ref)[i]? = some x1' := ex
      rw [List.getElem?_map] at ex
      cases ea : as[i]? with
      | none => rw [ea] at ex; cases ex
      | some a =>
      rw [ea] at ex
      cases ex
      obtain ⟨num, hnum, rfl⟩ := ti_at ey
      obtain ⟨pl, hpl, hat⟩ := tp4.get ea
      have hin := mem_places.mp (List.mem_of_getElem? hpl)
      have sT : Same H5 (upd H5 T1 (.tup [.ref a, .int num])) := Same.new hT
      have W1 := W.trans (Wrote.of W.1 sT)
      have hv5 := G4.vw.wrote G4.sy W1
      obtain ⟨la5, sa5, ⟨dx5, g1⟩, g2, g3⟩ := id hv5
      have hcell : (cells L b ss)[i]? = some (cellAt b ss pl) := by unfold cells; rw [List.getElem?_map, hpl]; rfl
      have hwd : Within (cells L b ss) d'.ns.length := by
        rw [W.2.1, wr_len]
        exact G.wi
      refine ⟨T1, _, rfl, SqT.of upd_same, rfl, _, _, rfl, _, _, rfl, rfl, ?_⟩
      refine ⟨_, rfl, t, dx5, _, rfl, g1, view_no (by decide) (by decide) (by decide) (by decide), _, rfl, _, rfl, t, L, b, ss, a, pl, num, d', e', rfl, by rw [W.2.2.2.1]; exact hv5, G.ok, G.sl, sT _ _ (ht5 _ _ hat), hin, W1.1, hwd, fun H7 d2 e2 sy2 n1 n2 a1 a2 w1 fr => ?_⟩
      have W2 : Wrote K H4 H7 d e d2 e2 ((((cells L b ss).zip (pick ns (cells L sb (wst L ls sss)))).take (i + 1)).foldl (fun (a : List Int) q => a.set q.1.toNat q.2) d.ns) := by
        refine W1.trans ⟨sy2, ?_, n2, a1, a2, w1, fr⟩
        rw [n1, W.2.1, wr_take hcell hnum]
      refine ⟨⟨d2, e2, W2⟩, ?_, ?_, fun y xs e => ?_, _, _, rfl⟩
      · exact W2.2.2.2.2.2.2.keep _ _ hp4 npf
      · exact W2.2.2.2.2.2.2.keep _ _ hl2 nlf
      · exact W2.2.2.2.2.2.2.keep _ _ e (ntf _ _ e)
    · rintro σ H5 ⟨⟨d', e', W⟩, hp5, hl5, ht5, u, v, rfl⟩
      refine q H5 d' e' ((Wrote.of G.sy s04).trans ?_)
      rw [List.take_of_length_le (by rw [List.length_zip, cells_len]; omega)] at W
      exact W
end
end VG
-- VgEmpty
set_option Elab.async false
set_option linter.all false
set_option maxRecDepth 100000
set_option maxHeartbeats 4000000
namespace VG
open PySem PySem.Spec PyProof.Rows L2
section
variable {X : Cx} {K : PySem.W.Frag}
def rEqE (K : PySem.W.Frag) : R2 := fun x y H Q => ∃ a b xs, x = .ref a ∧ y = .ref b ∧ SqL K H a xs ∧ SqL K H b [] ∧ Q (.bl xs.isEmpty) H
theorem op_eqE (hK : X.K = K) (hu : X.A.units < cLine) : OpR X (compareOp .Eq) (rEqE K) := by
  subst hK
  intro pins s σ H x y v u Q I rx ry h
  obtain ⟨a, b, xs, rfl, rfl, ha, hb, q⟩ := h
  cases (show v = Value.ref a from rx)
  cases (show u = Value.ref b from ry)
  obtain ⟨its, rv, p, _⟩ := I.list ha
  obtain ⟨its2, rv2, p2, _⟩ := I.list hb
  cases rv2
  cases rv with
  | nil => exact SeqAt.eq_listAt (e := fun _ => true) p.isList p2.isList rfl hu (fun j h1 => by simp at h1) ⟨.bl true, H, I, rfl, q⟩
  | cons r1 r2 => exact SeqAt.eq_list_lengthsAt p.isList p2.isList (by simp) hu ⟨.bl false, H, I, rfl, q⟩
def rNeE (K : PySem.W.Frag) : R2 := fun x y H Q => ∃ a b xs, x = .ref a ∧ y = .ref b ∧ SqL K H a xs ∧ SqL K H b [] ∧ Q (.bl (!xs.isEmpty)) H
theorem op_neE (hK : X.K = K) (hu : X.A.units < cLine) : OpR X (compareOp .NotEq) (rNeE K) := by
  subst hK
  intro pins s σ H x y v u Q I rx ry h
  obtain ⟨a, b, xs, rfl, rfl, ha, hb, q⟩ := h
  cases (show v = Value.ref a from rx)
  cases (show u = Value.ref b from ry)
  obtain ⟨its, rv, p, _⟩ := I.list ha
  obtain ⟨its2, rv2, p2, _⟩ := I.list hb
  cases rv2
  cases rv with
  | nil => exact SeqAt.RcNeAt.lists (e := fun _ => true) p.isList p2.isList rfl hu (fun j h1 => by simp at h1) X.prog X.w X.xe _ ⟨.bl false, H, I, rfl, q⟩
  | cons r1 r2 => exact SeqAt.RcNeAt.lists_lengths p.isList p2.isList (by simp) hu X.prog X.w X.xe _ ⟨.bl true, H, I, rfl, q⟩
end
end VG
-- VgShut
set_option Elab.async false
set_option linter.all false
set_option maxRecDepth 100000
set_option maxHeartbeats 4000000
namespace VG
open PySem PySem.Spec PyProof.Rows L2
/-- all as it was, but for how often rooms are shut -/
def ShutsOnly (K : PySem.W.Frag) (H H1 : Hp) : Prop := ∀ b o, H b = some o → H1 b = some o ∨ ∃ dx n w pl c s s', o = .ins (He.ga K "Room") dx (roomF n w pl c s) ∧ H1 b = some (.ins (He.ga K "Room") dx (roomF n w pl c s'))
theorem ShutsOnly.same {K : PySem.W.Frag} {H H1 : Hp} (s : Same H H1) : ShutsOnly K H H1 := fun b o e => .inl (s b o e)
theorem roomF_inj {n w c s n' w' c' s' : Int} {pl pl' : Addr} (h : roomF n w pl c s = roomF n' w' pl' c' s') : n = n' ∧ w = w' ∧ pl = pl' ∧ c = c' ∧ s = s' := by
  unfold roomF at h
  simp at h
  exact h
theorem ShutsOnly.trans {K : PySem.W.Frag} {H H1 H2 : Hp} (a : ShutsOnly K H H1) (b : ShutsOnly K H1 H2) : ShutsOnly K H H2 := fun y o e => by
  rcases a y o e with h | ⟨dx, n, w, pl, c, s, s', rfl, h⟩
  · exact b y o h
  · rcases b y _ h with h2 | ⟨dx2, n2, w2, pl2, c2, s2, s3, h1, h2⟩
    · exact .inr ⟨dx, n, w, pl, c, s, s', rfl, h2⟩
    · injection h1 with _ h4 h5
      obtain ⟨rfl, rfl, rfl, rfl, _⟩ := roomF_inj h5
      subst h4
      exact .inr ⟨dx, _, _, _, _, s, s3, rfl, h2⟩
section
variable {P : Program} {w : World} {K : PySem.W.Frag} {mg : Str → Option Value} {base : Heap}
def spShut (P : Program) (w : World) (K : PySem.W.Frag) (mg : Str → Option Value) (base : Heap) (kd n : Nat) : Sp := fun vs H Q _ => ∃ (l d : Addr) (rs : List Addr) (G : Hp → Prop) (sp : Sp) (R : V → Hp → Prop), vs = [.ref l, .ref d] ∧ H l = some (.lst (rs.map V.ref)) ∧ rs.length = n ∧ n ≤ 90000 ∧
  (∀ r ∈ rs, ∃ n w pl c s, RmO K H r n w pl c s) ∧ Act P w K mg base kd d G sp ∧ (∀ H1 Q', ShutsOnly K H H1 → (∀ v H2, Same H1 H2 → R v H2 → Q' v H2) → G H1 ∧ sp [] H1 Q' E0) ∧
  ∀ v H2 H3, R v H2 → (∀ b, b ∉ rs → H3 b = H2 b) → (∀ b o, H b = some o → H3 b = some o) → Q v H3
theorem ok_asked_shut (T : Tx K mg) (kd : Nat) : ∀ n, Def P w K mg base (kd + 1 + n) "asked_shut" ["rooms", "deed"] [] (spShut P w K mg base kd n)
  | 0 => by
    refine Def.mk0 (f_asked_shut T) (g_asked_shut T) sc_asked_shut (fun _ _ _ _ _ _ us hl => match us, hl with | [_, _], _ => rfl) (fun vs H Q E h => ?_) (fun cdv A outer s H vs Q E hr h => ?_)
    · obtain ⟨l, d, rs, G, sp, R, rfl, _⟩ := h; rfl
    · obtain ⟨l, d, rs, G, sp, R, rfl, hl, hn, hz, hrm, ha, hd, he⟩ := h
      have ers : rs = [] := List.length_eq_zero_iff.mp hn
      subst ers
      have hu := hr.units0
      refine ⟨_, (pss_cons (ps_if (pt_cmpR (op_eqE (K := K) rfl hu) (pv 0) (pe_lst pa_nil) (nomark _)) (pss_one (ps_ret (pe_act0 (K := K) (P := P) (w := w) (mg := mg) (base := base) (k := kd) (i := 1) rfl rfl rfl rfl rfl hr rfl (Or.inl rfl)))) pss_nil) pss_never), ?_⟩
      refine ⟨_, rfl, sz_ok (Nat.zero_le _), fun t ht => ?_⟩
      have s1 : Same H (upd H t (.lst [])) := Same.new ht
      obtain ⟨g1, h1⟩ := hd (upd H t (.lst [])) Q (.same s1) fun v H2 s2 r => he v H2 H2 r (fun _ _ => rfl) (s1.trans s2)
      exact ⟨l, t, [], rfl, rfl, SqL.of (s1 _ _ hl), SqL.of upd_same, _, rfl, iteT ⟨d, G, sp, rfl, ha, g1, g1, h1⟩⟩
  | n + 1 => by
    have ok_asked_shut' := ok_asked_shut T kd n
    have ok_asked_shut : ∀ (_ : Tx K mg), Def P w K mg base (kd + 1 + n) "asked_shut" ["rooms", "deed"] [] (spShut P w K mg base kd n) := fun _ => ok_asked_shut'
    refine Def.mk0 (f_asked_shut T) (g_asked_shut T) sc_asked_shut (fun _ _ _ _ _ _ us hl => match us, hl with | [_, _], _ => rfl) (fun vs H Q E h => ?_) (fun cdv A outer s H vs Q E hr h => ?_)
    · obtain ⟨l, d, rs, G, sp, R, rfl, _⟩ := h; rfl
    · obtain ⟨l, d, rs, G, sp, R, rfl, hl, hn, hz, hrm, ha, hd, he⟩ := h
      have hu := hr.units0
      refine ⟨_, (pss_cons (ps_if (pt_cmpR (op_eqE (K := K) rfl hu) (pv 0) (pe_lst pa_nil) (nomark _)) (pss_one (ps_ret (pe_act0 (K := K) (P := P) (w := w) (mg := mg) (base := base) (k := kd) (i := 1) rfl rfl rfl rfl rfl (hr.mono (show kd ≤ kd + 1 + n by omega)) rfl (by first | exact Or.inl rfl | exact Or.inr (Or.inl rfl) | exact Or.inr (Or.inr rfl))))) pss_nil)
    (pss_cons (ps_asg (pv 0) (pg_star (K := K) rfl rfl (pgs_cons (pg_name (i := 2) sc_asked_shut.nd rfl (Or.inl rfl)) (pgs_star (pg_name (i := 3) sc_asked_shut.nd rfl (Or.inl rfl)) pgs_nil))))
    (pss_cons (ps_fldaug (pv 2) pe_int in_add)
    (pss_one (ps_retFin (pe_fK (K := K) (P := P) (w := w) (mg := mg) (base := base) (ok_asked_shut T) rfl rfl rfl rfl rfl hr (by rfl) (pa_cons (pv 3) (pa_cons (pv 1) pa_nil))) (pss_one (ps_fldaug (pv 2) pe_int in_sub))))))), ?_⟩
      obtain ⟨r, rest, rfl⟩ : ∃ r rest, rs = r :: rest := by
        cases rs with
        | nil => simp at hn
        | cons r rest => exact ⟨r, rest, rfl⟩
      have hrl : rest.length = n := by simpa using hn
      refine ⟨_, rfl, sz_ok (Nat.zero_le _), fun t ht => ?_⟩
      have s1 : Same H (upd H t (.lst [])) := Same.new ht
      refine ⟨l, t, _, rfl, rfl, SqL.of (s1 _ _ hl), SqL.of upd_same, _, rfl, iteF ?_⟩
      refine ⟨_, rfl, l, _, _, rfl, SqL.of (s1 _ _ hl), by rw [List.length_map]; omega, fun m hm => ?_⟩
      have s2 : Same H (upd (upd H t (.lst [])) m (.lst (rest.map V.ref))) := s1.trans (Same.new hm)
      obtain ⟨rn, rw_, rpl, rc, rs_, rdx, hr0⟩ := hrm r (List.mem_cons_self ..)
      have hr2 := s2 _ _ hr0
      refine ⟨_, _, rfl, _, _, rfl, rfl, _, rfl, r, _, rdx, _, _, rfl, hr2, cl_Room T, no_Room_shuts T, room_shuts, _, _, rfl, rfl, rdx, roomF rn rw_ rpl rc rs_, hr2, (show 5 < 1000 by decide), ?_⟩
      rw [room_put_shuts]
      have nmr : m ≠ r := (ne_of_none ((Same.new ht) _ _ hr0) hm).symm
      have hm2 : (upd (upd (upd H t (.lst [])) m (.lst (rest.map V.ref))) r (.ins (He.ga K "Room") rdx (roomF rn rw_ rpl rc (rs_ + 1)))) m = some (.lst (rest.map V.ref)) := by rw [upd_ne nmr]; exact upd_same
      have sh2 : ShutsOnly K H (upd (upd (upd H t (.lst [])) m (.lst (rest.map V.ref))) r (.ins (He.ga K "Room") rdx (roomF rn rw_ rpl rc (rs_ + 1)))) := fun b o e => by
        by_cases z : b = r
        · rw [z] at e ⊢
          rw [hr0] at e
          cases e
          exact .inr ⟨rdx, rn, rw_, rpl, rc, rs_, rs_ + 1, rfl, upd_same⟩
        · rw [upd_ne z]; exact .inl (s2 b o e)
      have hr3 : (upd (upd (upd H t (.lst [])) m (.lst (rest.map V.ref))) r (.ins (He.ga K "Room") rdx (roomF rn rw_ rpl rc (rs_ + 1)))) r = some (.ins (He.ga K "Room") rdx (roomF rn rw_ rpl rc (rs_ + 1))) := upd_same
      have k3 : ∀ b o, b ≠ r → H b = some o → (upd (upd (upd H t (.lst [])) m (.lst (rest.map V.ref))) r (.ins (He.ga K "Room") rdx (roomF rn rw_ rpl rc (rs_ + 1)))) b = some o := fun b o n e => by rw [upd_ne n]; exact s2 b o e
      refine ⟨_, rfl, _, rfl, m, d, rest, G, sp, R, rfl, hm2, hrl, by omega, fun b hb => ?_, ha, fun H1 Q' sh hq => hd H1 Q' (sh2.trans sh) hq, fun v H2 H3 hR e1 e2 => ?_⟩
      · obtain ⟨n', w', pl', c', s', dx', h'⟩ := hrm b (List.mem_cons_of_mem _ hb)
        by_cases z : b = r
        · exact ⟨_, _, _, _, _, rdx, by rw [z]; exact hr3⟩
        · exact ⟨_, _, _, _, _, dx', k3 b _ z h'⟩
      · have hr4 := e2 _ _ hr3
        refine ⟨_, rfl, r, _, rdx, _, _, rfl, hr4, cl_Room T, no_Room_shuts T, room_shuts, _, _, rfl, rfl, rdx, roomF rn rw_ rpl rc (rs_ + 1), hr4, (show 5 < 1000 by decide), ?_⟩
        rw [room_put_shuts]
        have es : rs_ + 1 - 1 = rs_ := by omega
        rw [es]
        refine he v H2 _ hR (fun b hb => ?_) fun b o e => ?_
        · have z : b ≠ r := fun z => hb (by rw [z]; exact List.mem_cons_self ..)
          rw [upd_ne z]
          exact e1 b fun z' => hb (List.mem_cons_of_mem _ z')
        · by_cases z : b = r
          · rw [z] at e ⊢
            rw [hr0] at e
            cases e
            exact upd_same
          · rw [upd_ne z]; exact e2 b o (k3 b o z e)
end
end VG
-- VgDeeds
set_option Elab.async false
set_option linter.all false
set_option maxRecDepth 100000
set_option maxHeartbeats 4000000
namespace VG
open PySem PySem.Spec PyProof.Rows L2
section
variable {P : Program} {w : World} {K : PySem.W.Frag} {mg : Str → Option Value} {base : Heap}
def spAnswer (P : Program) (w : World) (K : PySem.W.Frag) (mg : Str → Option Value) (base : Heap) (kd : Nat) : Sp := fun vs H Q _ => ∃ (d l : Addr) (xs : List Int) (G : Hp → Prop) (sp : Sp), vs = [.ref d, .ref l] ∧ H l = some (.lst (ti xs)) ∧ (xs.length = 1 ∨ xs.length = 2) ∧ Act P w K mg base kd d G sp ∧ G H ∧ sp (ti xs) H Q E0
theorem ok_answer_of (T : Tx K mg) (kd : Nat) : Def P w K mg base (kd + 1) "answer_of" ["deed", "numbers"] [] (spAnswer P w K mg base kd) := by
  refine Def.mk0 (f_answer_of T) (g_answer_of T) sc_answer_of (fun _ _ _ _ _ _ us hl => match us, hl with | [_, _], _ => rfl) (fun vs H Q E h => ?_) (fun cdv A outer s H vs Q E hr h => ?_)
  · obtain ⟨d, l, xs, G, sp, rfl, _⟩ := h; rfl
  · obtain ⟨d, l, xs, G, sp, rfl, hl, hn, ha, g, hsp⟩ := h
    refine ⟨_, (pss_cons (ps_if (pt_cmpR op_eq (pe_callB (call_lenK (K := K) rfl) (by rfl) (z_len T) (by decide +kernel) (pa_cons (pv 1) pa_nil)) pe_int (nomark _)) (pss_one (ps_ret (pe_act (K := K) (P := P) (w := w) (mg := mg) (base := base) (k := kd) (i := 0) rfl rfl rfl rfl rfl hr rfl (by first | exact Or.inl rfl | exact Or.inr (Or.inl rfl) | exact Or.inr (Or.inr rfl)) (pa_cons (pe_ix (ix_K (K := K) rfl) (pv 1) pe_int (fun _ _ => rfl)) pa_nil)))) pss_nil)
    (pss_cons (ps_if (pt_cmpR op_eq (pe_callB (call_lenK (K := K) rfl) (by rfl) (z_len T) (by decide +kernel) (pa_cons (pv 1) pa_nil)) pe_int (nomark _)) (pss_one (ps_ret (pe_act (K := K) (P := P) (w := w) (mg := mg) (base := base) (k := kd) (i := 0) rfl rfl rfl rfl rfl hr rfl (by first | exact Or.inl rfl | exact Or.inr (Or.inl rfl) | exact Or.inr (Or.inr rfl)) (pa_cons (pe_ix (ix_K (K := K) rfl) (pv 1) pe_int (fun _ _ => rfl)) (pa_cons (pe_ix (ix_K (K := K) rfl) (pv 1) pe_int (fun _ _ => rfl)) pa_nil))))) pss_nil)
    (pss_cons (ps_if (pt_cmpR op_eq (pe_callB (call_lenK (K := K) rfl) (by rfl) (z_len T) (by decide +kernel) (pa_cons (pv 1) pa_nil)) pe_int (nomark _)) (pss_one (ps_ret (pe_act (K := K) (P := P) (w := w) (mg := mg) (base := base) (k := kd) (i := 0) rfl rfl rfl rfl rfl hr rfl (by first | exact Or.inl rfl | exact Or.inr (Or.inl rfl) | exact Or.inr (Or.inr rfl)) (pa_cons (pe_ix (ix_K (K := K) rfl) (pv 1) pe_int (fun _ _ => rfl)) (pa_cons (pe_ix (ix_K (K := K) rfl) (pv 1) pe_int (fun _ _ => rfl)) (pa_cons (pe_ix (ix_K (K := K) rfl) (pv 1) pe_int (fun _ _ => rfl)) pa_nil)))))) pss_nil)
    (pss_one (ps_ret (pe_act (K := K) (P := P) (w := w) (mg := mg) (base := base) (k := kd) (i := 0) rfl rfl rfl rfl rfl hr rfl (by first | exact Or.inl rfl | exact Or.inr (Or.inl rfl) | exact Or.inr (Or.inr rfl)) (pa_cons (pe_ix (ix_K (K := K) rfl) (pv 1) pe_int (fun _ _ => rfl)) (pa_cons (pe_ix (ix_K (K := K) rfl) (pv 1) pe_int (fun _ _ => rfl)) (pa_cons (pe_ix (ix_K (K := K) rfl) (pv 1) pe_int (fun _ _ => rfl)) (pa_cons (pe_ix (ix_K (K := K) rfl) (pv 1) pe_int (fun _ _ => rfl)) pa_nil)))))))))), ?_⟩
    refine ⟨_, rfl, l, _, rfl, .inl (SqL.of hl), rfl, _, rfl, ?_⟩
    rw [ti_len]
    rcases hn with hn | hn
    · obtain ⟨x, rfl⟩ : ∃ x, xs = [x] := by
        match xs, hn with
        | [x], _ => exact ⟨x, rfl⟩
      refine iteT ⟨d, G, sp, rfl, ha, g, _, rfl, ?_⟩
      exact q_ixL (i := 0) (SqL.of hl) rfl ⟨g, hsp⟩
    · obtain ⟨x, y, rfl⟩ : ∃ x y, xs = [x, y] := by
        match xs, hn with
        | [x, y], _ => exact ⟨x, y, rfl⟩
      refine iteF ⟨_, rfl, l, _, rfl, .inl (SqL.of hl), rfl, _, rfl, iteT ⟨d, G, sp, rfl, ha, g, _, rfl, ?_⟩⟩
      refine q_ixL (i := 0) (SqL.of hl) rfl ⟨_, rfl, q_ixL (i := 1) (SqL.of hl) rfl ⟨g, hsp⟩⟩
def spNeedTarget (K : PySem.W.Frag) : Sp := fun vs H Q _ => ∃ (la t : Addr) (ls L : List Nat) (b : Int) (ss : List Int) (d e : RD), vs = [.ref la, .ref t] ∧ H la = some (.tup (tn ls)) ∧ Okl ls ∧ Tgt K H t d e L b ss ∧ Fit ls L ∧ ∀ H', Same H H' → Q .non H'
theorem ok_need_target (T : Tx K mg) : Def P w K mg base 8 "need_target" ["lengths", "into"] [] (spNeedTarget K) := by
  refine Def.mk0 (f_need_target T) (g_need_target T) sc_need_target (fun _ _ _ _ _ _ us hl => match us, hl with | [_, _], _ => rfl) (fun vs H Q E h => ?_) (fun cdv A outer s H vs Q E hr h => ?_)
  · obtain ⟨la, t, ls, L, b, ss, d, e, rfl, _⟩ := h; rfl
  · obtain ⟨la, t, ls, L, b, ss, d, e, rfl, hla, ok, G, fit, q⟩ := h
    have hsz := ok.size
    obtain ⟨la0, sa0, ⟨dx, h1⟩, h2, h3⟩ := id G.vw
    refine ⟨_, (pss_cons (ps_expr (pe_fK (K := K) (P := P) (w := w) (mg := mg) (base := base) ((ok_widened T).mono (by omega)) rfl rfl rfl rfl rfl hr (by rfl) (pa_cons (pe_fK (K := K) (P := P) (w := w) (mg := mg) (base := base) ((ok_new_view T).mono (by omega)) rfl rfl rfl rfl rfl hr (by rfl) (pa_cons (pv 0) (pa_cons (pe_op op_rep (pe_lst (pa_cons pe_int pa_nil)) (pe_fK (K := K) (P := P) (w := w) (mg := mg) (base := base) ((ok_size_of T).mono (by omega)) rfl rfl rfl rfl rfl hr (by rfl) (pa_cons (pv 0) pa_nil))) pa_nil))) (pa_cons (pe_m0K (K := K) (P := P) (w := w) (mg := mg) (base := base) ((ok_View_sides T).mono (by omega)) (cl_View T) rfl rfl rfl rfl rfl hr (pv 1)) pa_nil))))
    (pss_cons (ps_expr (pe_fK (K := K) (P := P) (w := w) (mg := mg) (base := base) ((ok_need_unlike T).mono (by omega)) rfl rfl rfl rfl rfl hr (by rfl) (pa_cons (pv 1) pa_nil)))
    (pss_one (ps_expr (pe_fK (K := K) (P := P) (w := w) (mg := mg) (base := base) ((ok_need_open T).mono (by omega)) rfl rfl rfl rfl rfl hr (by rfl) (pa_cons (pe_m0K (K := K) (P := P) (w := w) (mg := mg) (base := base) ((ok_View_room T).mono (by omega)) (cl_View T) rfl rfl rfl rfl rfl hr (pv 1)) pa_nil)))))), ?_⟩
    refine ⟨_, rfl, sz_ok (by show 1 ≤ 100000; decide), fun z hz => ?_⟩
    have s1 : Same H (upd H z (.lst [.int 0])) := Same.new hz
    refine ⟨_, rfl, la, ls, rfl, SqT.of (s1 _ _ hla), ok.each, z, _, _, rfl, rfl, upd_same, by omega, by omega, sz_ok (by simp; omega), fun m hm => ?_⟩
    have s2 := s1.trans (Same.new (o := .lst (List.replicate ((sz ls : Nat) : Int).toNat [V.int 0]).flatten) hm)
    have em : (List.replicate ((sz ls : Nat) : Int).toNat [V.int 0]).flatten = ti (List.replicate (sz ls) 0) := by
      rw [Int.toNat_natCast]
      unfold ti
      induction sz ls with
      | zero => rfl
      | succ n ih => rw [List.replicate_succ, List.replicate_succ, List.flatten_cons, ih, List.map_cons]; rfl
    refine ⟨la, m, ls, List.replicate (sz ls) 0, rfl, s2 _ _ hla, by rw [upd_same, em], by simp, ok, fun v H3 s3 nv => ?_⟩
    obtain ⟨r, vb, vss, Gf, nd, nl, nc, nr, nfr, nv0⟩ := nv
    have s03 := s2.trans s3
    have G3 := G.same s03
    refine ⟨_, rfl, t, dx, _, rfl, s03 _ _ h1, view_no (by decide) (by decide) (by decide) (by decide), t, d.a, L, b, ss, rfl, G3.vw, fun lt hlt => ?_⟩
    refine ⟨v, r, lt, ls, L, vb, vss, List.replicate (sz ls) 0, rfl, nd, nl, hlt, G.ok, fit, nr.r, by simp; omega, fun x H4 s4 hx0 hx => ?_⟩
    have G4 := G3.same s4
    refine ⟨_, rfl, t, d.a, L, b, ss, rfl, G4.vw, G.ok, G.sl, G.nt, fun H5 s5 => ?_⟩
    have G5 := G4.same s5
    obtain ⟨rx, hro⟩ := G5.sy.r0.ob
    refine ⟨_, rfl, t, dx, _, rfl, s5 _ _ (s4 _ _ (s03 _ _ h1)), view_no (by decide) (by decide) (by decide) (by decide), t, d.a, L, b, ss, rfl, G5.vw, d.a, _, _, _, _, rfl, ⟨rx, by rw [← G.sy.sh0]; exact hro⟩, ?_⟩
    exact q H5 ((s03.trans s4).trans s5)
end
end VG
-- VgTab
set_option Elab.async false
set_option linter.all false
set_option maxRecDepth 100000
set_option maxHeartbeats 4000000
namespace VG
open PySem PySem.Spec PyProof.Rows L2 LamX NdefX
/-- the tables -/
def PsT (K : PySem.W.Frag) : List Addr := tf.map fun p => (He.cT K p).2
/-- the name of the lambda that stands at a place of the text -/
def nmL (l c : Nat) : Str := if l = 377 then "together.<locals>.<lambda>" else if l = 405 then "running.<locals>.<lambda>" else if l = 430 then "least.<locals>.<lambda>" else if l = 594 then "_law_side.<locals>.<lambda>" else "_law_into.<locals>.<lambda>"
/-- the tables stand -/
abbrev Tbs (K : PySem.W.Frag) (H : Hp) : Prop := Tbl (PsT K) nmL H
def TbB (K : PySem.W.Frag) (mg : Str → Option Value) (base : Heap) : Prop := ∀ p ∈ tf, TabB base mg (He.cT K p).1 (He.cT K p).2
section
variable {P : Program} {w : World} {K : PySem.W.Frag} {mg : Str → Option Value} {base : Heap} {k : Nat} {ps : List Str} {sp : Sp}
theorem code_ref {cdv : Value} {q : Str} (h : PySem.W.codeIn K cdv q = true) : ∃ c, cdv = .ref c := by
  cases cdv with
  | ref c => exact ⟨c, rfl⟩
  | _ => simp [PySem.W.codeIn] at h
theorem fn_okC {name qual : Str} {st : Stmt} {N : List Str} {p : He.Defn} {fd : FuncData} {dvs : List V} {kws : List (Str × V)} (F : FunD K name qual (defArgs st) (defBody st) (defScope st) dvs kws (He.fAd K p) fd) (S : FnScope N ps (defScope st))
    (len : ∀ vs H Q E, sp vs H Q E → vs.length = ps.length)
    (body : ∀ (cdv : Value) (A : Around) (outer : List Env) (s : Shared) (H : Hp) (vs : List V) (Q : VK) (E : XK), cdv = .ref (He.cT K p).1 → L2.Room k (A.deeper (envOfC qual (defScope st) s.heap.objs.size (He.fAd K p) cdv)) → sp vs H Q E →
      ∃ t, PSs (cxOf CX0 P w K mg base N qual (defScope st) (He.fAd K p) cdv A outer s H E).nox (defBody st) t ∧ t { nx := fun _ H' => Q .non H', rt := Q } (L2.start N vs) H) : FnOk P w K mg base CX0 (k + 1) (He.fAd K p) fd ps sp := by
  obtain ⟨oc, od, dV, kV, doc, pm, an, cdv, ct, osl, rfl, lk, hcd, _, _⟩ := F.ex
  obtain ⟨c, rfl⟩ := code_ref hcd
  have e : He.codeOf K p = c := He.codeOf_eq lk rfl
  refine fn_of lk hcd S len fun A outer s H vs Q E hr hsp => ?_
  obtain ⟨t, a, b⟩ := body (.ref c) A outer s H vs Q E (by rw [← e]; rfl) hr hsp
  exact ⟨t, a.nox, b⟩
end
end VG
-- VgLams
set_option Elab.async false
set_option linter.all false
set_option maxRecDepth 100000
set_option maxHeartbeats 4000000
namespace VG
open PySem PySem.Spec PyProof.Rows L2 LamX NdefX
def noE : Expr := .Constant .none 0 ⟨0, 0, 0, 0⟩
def valE : Option Stmt → Expr
  | some (.Assign _ v _) => v
  | some (.Return (some v) _) => v
  | some (.Expr v _) => v
  | _ => noE
def argE : Expr → Nat → Expr
  | .Call _ as _ _, i => (as[i]?).getD noE
  | _, _ => noE
def ifB : Option Stmt → List Stmt
  | some (.If _ b _ _) => b
  | _ => []
def ifO : Option Stmt → List Stmt
  | some (.If _ _ b _) => b
  | _ => []
def lamBody : Expr → Expr
  | .Lambda _ b _ _ => b
  | _ => noE
def lamScope : Expr → Scope
  | .Lambda _ _ s _ => s
  | _ => defScope s_is_whole
def lamArgs : Expr → Arguments
  | .Lambda a _ _ _ => a
  | _ => defArgs s_is_whole
def s_lam_together0 : Expr := argE (valE (defBody s_together)[5]?) 1
def s_lam_running0 : Expr := argE (valE (defBody s_running)[2]?) 1
def s_lam_least0 : Expr := argE (valE (defBody s_least)[0]?) 3
def if_into : Option Stmt := (defBody s_l_into)[4]?
def s_lam_l_into0 : Expr := argE (valE (ifB if_into)[0]?) 0
def s_lam_l_into1 : Expr := argE (valE (ifB (ifO if_into)[0]?)[0]?) 0
def s_lam_l_into2 : Expr := argE (valE (ifB (ifO (ifO if_into)[0]?)[0]?)[0]?) 0
def s_lam_l_into3 : Expr := argE (valE (ifO (ifO (ifO if_into)[0]?)[0]?)[0]?) 0
def s_lam_l_side0 : Expr := argE (argE (valE (ifB (defBody s_l_side)[2]?)[0]?) 1) 1
def n_lam_together0 : List Str := ["deed", "rows", "spots", "at", "row"]
theorem sc_lam_together0 : NScope n_lam_together0 [] ["deed", "rows", "spots"] (lamScope s_lam_together0) := nscope_by (by decide +kernel)
def n_lam_running0 : List Str := ["deed", "rows", "row"]
theorem sc_lam_running0 : NScope n_lam_running0 [] ["deed", "rows"] (lamScope s_lam_running0) := nscope_by (by decide +kernel)
def n_lam_least0 : List Str := ["number"]
theorem sc_lam_least0 : NScope n_lam_least0 ["number"] [] (lamScope s_lam_least0) := nscope_by (by decide +kernel)
def n_lam_l_into0 : List Str := ["_law_a"]
theorem sc_lam_l_into0 : NScope n_lam_l_into0 ["_law_a"] [] (lamScope s_lam_l_into0) := nscope_by (by decide +kernel)
def n_lam_l_into1 : List Str := ["_law_a", "_law_b"]
theorem sc_lam_l_into1 : NScope n_lam_l_into1 ["_law_a", "_law_b"] [] (lamScope s_lam_l_into1) := nscope_by (by decide +kernel)
def n_lam_l_into2 : List Str := ["_law_a", "_law_b"]
theorem sc_lam_l_into2 : NScope n_lam_l_into2 ["_law_a", "_law_b"] [] (lamScope s_lam_l_into2) := nscope_by (by decide +kernel)
def n_lam_l_into3 : List Str := ["_law_a", "_law_b"]
theorem sc_lam_l_into3 : NScope n_lam_l_into3 ["_law_a", "_law_b"] [] (lamScope s_lam_l_into3) := nscope_by (by decide +kernel)
def n_lam_l_side0 : List Str := ["_law_a", "_law_b"]
theorem sc_lam_l_side0 : NScope n_lam_l_side0 ["_law_a", "_law_b"] [] (lamScope s_lam_l_side0) := nscope_by (by decide +kernel)
end VG
-- VgTogL
set_option Elab.async false
set_option linter.all false
set_option maxRecDepth 100000
set_option maxHeartbeats 4000000
namespace VG
open PySem PySem.Spec PyProof.Rows L2 LamX NdefX
section
variable {P : Program} {w : World} {K : PySem.W.Frag} {mg : Str → Option Value} {base : Heap}
/-- d answers f of its ar ints, and does nothing else -/
structure Deed (P : Program) (w : World) (K : PySem.W.Frag) (mg : Str → Option Value) (base : Heap) (kd : Nat) (d : Addr) (ar : Nat) (f : List Int → Int) (G : Hp → Prop) (sp : Sp) : Prop where
  act : Act P w K mg base kd d G sp
  stay : ∀ H H', G H → (∀ a φ, H a = some (.ext φ) → H' a = some (.ext φ)) → G H'
  ans : ∀ (xs : List Int) H (Q : VK), xs.length = ar → Q (.int (f xs)) H → sp (ti xs) H Q E0
/-- a lambda made of the expression e, of the def named by q -/
abbrev FL (q : Str) (e : Expr) (cl : List (Str × Addr)) (c : Addr) : NF := ⟨"<lambda>", q, lamArgs e, [], lamScope e, cl, c⟩
theorem less_keep {cs H : Hp} {b : Addr} {o : HO} (hs : ∀ b o, cs b = some o → H b = some o ∧ ∃ ob, o = .frz ob anyO) (e : H b = some o) (n : ∀ ob, o ≠ .frz ob anyO) : less cs H b = some o := by
  cases q : cs b with
  | none => rw [less_out q]; exact e
  | some u =>
    obtain ⟨h1, ob, rfl⟩ := hs b u q
    rw [h1] at e
    exact absurd (Option.some.inj e).symm (n ob)
theorem over_same {cs H H' : Hp} (hs : ∀ b o, cs b = some o → H b = some o ∧ ∃ ob, o = .frz ob anyO) (s : Same (less cs H) H') : Same H (over cs H') := fun b o e => by
  cases q : cs b with
  | some u => rw [over_in q, ← e]; exact (hs b u q).1.symm
  | none => rw [over_out q]; exact s b o (by rw [less_out q]; exact e)
theorem over_new {cs H' : Hp} (nc : ∀ b o, cs b = some o → H' b = none) {l : Addr} {o : HO} (e : H' l = some o) : cs l = none := by
  cases q : cs l with
  | none => rfl
  | some u => rw [nc l u q] at e; cases e
theorem lamG_of {H : Hp} {q : Str} {e b : Expr} {cl : List (Str × Addr)} {c fa : Addr} {fr : List Str} {ws : List V} (h1 : H fa = some (LamO fa (FL q e cl c) b)) (h2 : H c = some (CodeO c q)) (cap : CapH cl fr ws H) : LamG fa (FL q e cl c) b fr ws H := ⟨h1, h2, cap⟩
/-- the k-th of each row -/
def colZ (rows : List (List Int)) (k : Nat) : List Int := rows.map fun r => r.getD k 0
/-- lists of ints -/
def RowsZ (H : Hp) (as : List Addr) (rows : List (List Int)) : Prop := as.length = rows.length ∧ ∀ (i : Nat) a r, as[i]? = some a → rows[i]? = some r → H a = some (.lst (ti r))
def spTogL (P : Program) (w : World) (K : PySem.W.Frag) (mg : Str → Option Value) (base : Heap) (kd : Nat) (d rl sl : Addr) : Sp := fun vs H Q _ => vs = [] ∧ ∃ (as : List Addr) (rows : List (List Int)) (n : Nat) (f : List Int → Int) (G : Hp → Prop) (sp : Sp),
  H rl = some (.lst (as.map V.ref)) ∧ RowsZ H as rows ∧ (rows.length = 1 ∨ rows.length = 2) ∧ (∀ r ∈ rows, r.length = n) ∧ H sl = some (.lst (tn (List.range n))) ∧ n ≤ 600 ∧ Deed P w K mg base kd d rows.length f G sp ∧ G H ∧
  ∀ l H', Same H H' → H l = none → H' l = some (.lst (ti ((List.range n).map fun j => f (colZ rows j)))) → Q (.ref l) H'
theorem act_together (T : Tx K mg) (kd : Nat) {q : Str} {cl : List (Str × Addr)} {c f d rl sl : Addr} :
    Act P w K mg base (kd + 2) f (LamG f (FL q s_lam_together0 cl c) (lamBody s_lam_together0) ["deed", "rows", "spots"] [.ref d, .ref rl, .ref sl]) (spTogL P w K mg base kd d rl sl) := by
  refine act_lam (ps := []) sc_lam_together0 (fun _ _ us hl => match us, hl with | [], _ => rfl) (fun vs H Q E h => by rw [h.1]; rfl) (fun A outer s H cs vs Q hr g hs h => ?_)
  obtain ⟨rfl, as, rows, n, fn, G, sp, hrl, ⟨hal, hrows⟩, h12, hln, hsl, hn, hd, hG, q⟩ := h
  refine ⟨_, (pe_lc (own := [("at", 3)]) (tt := tYes) rfl sc_lam_together0.nd (pi_listK (K := K) rfl (pv 2)) (blkOk_by (own := [("at", 3)]) (sc := lamScope s_lam_together0) (N := n_lam_together0) (by decide +kernel)) (fun _ _ _ _ _ => (pg_name (i := 3) sc_lam_together0.nd rfl (by first | exact Or.inl rfl | exact Or.inr rfl))) (fun _ _ _ _ _ => pts_nil) (fun _ _ _ _ _ => (pe_fK (K := K) (P := P) (w := w) (mg := mg) (base := base) (ok_answer_of T kd) rfl rfl rfl rfl rfl hr (by rfl) (pa_cons (pv 0) (pa_cons (pe_lc (own := [("row", 4)]) (tt := tYes) rfl sc_lam_together0.nd (pi_listK (K := K) rfl (pv 1)) (blkOk_by (own := [("row", 4)]) (N := n_lam_together0) (by rfl)) (fun _ _ _ _ _ => (pg_name (i := 4) sc_lam_together0.nd rfl (by first | exact Or.inl rfl | exact Or.inr rfl))) (fun _ _ _ _ _ => pts_nil) (fun _ _ _ _ _ => (pe_ix (ix_K (K := K) rfl) (pv 4) (pv 3) (fun _ _ => rfl)))) pa_nil))))), ?_⟩
  have rl1 := less_keep hs hrl (by intro ob z; cases z)
  have sl1 := less_keep hs hsl (by intro ob z; cases z)
  have rows1 : ∀ (i : Nat) a r, as[i]? = some a → rows[i]? = some r → less cs H a = some (.lst (ti r)) := fun i a r e1 e2 => less_keep hs (hrows i a r e1 e2) (by intro ob z; cases z)
  have hG1 : G (less cs H) := hd.stay _ _ hG fun a φ e => less_keep hs e (by intro ob z; cases z)
  generalize hH1 : less cs H = H1 at rl1 sl1 rows1 hG1
  refine ⟨_, rfl, sl, rfl, ⟨_, SqL.of sl1⟩, fun D hD => ?_⟩
  have wk : Walk (Itl K sl) n (fun H => SqL K H sl (tn (List.range n))) (fun i H x H' => H' = H ∧ x = .int ((i : Nat) : Int)) := by
    have w1 := walk_list (K := K) (a := sl) (xs := tn (List.range n))
    rw [tn_len, List.length_range] at w1
    refine w1.mono (fun _ q => q) fun i H x H' hi _ y => ⟨y.1, ?_⟩
    obtain ⟨m, hm, rfl⟩ := tn_at y.2
    rw [List.getElem?_range hi] at hm
    cases hm
    rfl
  refine lc_new wk (by omega) hD (fun i y _ => ∃ k : Int, ((List.range n).map fun j => fn (colZ rows j))[i]? = some k ∧ y = .int k) (fun H3 s3 => SqL.of (s3 _ _ sl1)) (fun _ _ _ _ _ h => h) ?_ ?_
  · rintro i x H3 H4 Kt hi s3 hacc ⟨rfl, rfl⟩ kt
    have rl3 := s3 _ _ rl1
    refine ⟨rfl, _, rfl, _, rfl, rl, rfl, ⟨_, SqL.of rl3⟩, fun D2 hD2 => ?_⟩
    refine lc_new (walk_refs hal) (by omega) hD2 (fun j y _ => ∃ k : Int, (colZ rows i)[j]? = some k ∧ y = .int k) (fun H5 s5 => SqL.of (s5 _ _ rl3)) (fun _ _ _ _ _ h => h) ?_ ?_
    · rintro j x H5 H6 Kt2 hj s5 hacc2 ⟨rfl, a, ha, rfl⟩ kt2
      obtain ⟨r, hr'⟩ : ∃ r, rows[j]? = some r := ⟨rows[j]'(by omega), by simp [show j < rows.length by omega]⟩
      have hra := s5 _ _ (s3 _ _ (rows1 j a r ha hr'))
      have hlr := hln r (List.mem_of_getElem? hr')
      have hri : r[i]? = some (r.getD i 0) := by
        rw [List.getD_eq_getElem?_getD, List.getElem?_eq_getElem (by omega)]
        rfl
      refine ⟨rfl, _, rfl, _, rfl, q_ixL (i := i) (SqL.of hra) (ti_get hri) (kt2 _ _ (Same.refl _) ⟨r.getD i 0, ?_, rfl⟩)⟩
      unfold colZ
      rw [List.getElem?_map, hr']
      rfl
    · intro ys H5 s5 hD5 hy hR
      have e := ys_ti (p := colZ rows i) (by rw [hy]; unfold colZ; rw [List.length_map]) hR
      subst e
      have hl : (colZ rows i).length = rows.length := by unfold colZ; rw [List.length_map]
      refine ⟨d, D2, colZ rows i, G, sp, rfl, hD5, by rw [hl]; exact h12, hd.act, hd.stay _ _ hG1 (fun a φ e => s5 _ _ (s3 _ _ e)), hd.ans _ _ _ hl ?_⟩
      refine kt _ _ s5 ⟨_, ?_, rfl⟩
      rw [List.getElem?_map, List.getElem?_range hi]
      rfl
  · intro ys H3 s3 hD3 hy hR nc
    have e := ys_ti (p := (List.range n).map fun j => fn (colZ rows j)) (by rw [hy, List.length_map, List.length_range]) hR
    subst e
    have cD : cs D = none := over_new nc hD3
    refine q D _ (over_same hs (by rw [hH1]; exact s3)) ?_ (by rw [over_out cD]; exact hD3)
    rw [← hH1, less_out cD] at hD
    exact hD
end
end VG
-- VgFrm
set_option Elab.async false
set_option linter.all false
set_option maxRecDepth 100000
set_option maxHeartbeats 4000000
namespace VG
open PySem PySem.Spec PyProof.Rows L2 LamX NdefX
/-- a part of a room is an instance or a list -/
theorem foot_sort {K : PySem.W.Frag} {H : Hp} {a pl : Addr} {wd : Nat} {ns : List Int} {c s : Int} {ps ks : List Addr} {hd : Nat → Int} (r : RmP K H a wd ns pl c s ps ks hd) {b : Addr} (f : foot a pl ps ks b) : ∃ o, H b = some o ∧ ((∃ C dx fs, o = .ins C dx fs) ∨ ∃ xs, o = .lst xs) := by
  rcases f with rfl | rfl | f | f
  · obtain ⟨dx, h⟩ := r.ob
    exact ⟨_, h, .inl ⟨_, _, _, rfl⟩⟩
  · exact ⟨_, r.pl, .inr ⟨_, rfl⟩⟩
  · obtain ⟨j, ej⟩ := List.mem_iff_getElem?.mp f
    have hj := (List.getElem?_eq_some_iff.mp ej).1
    obtain ⟨⟨pd, h⟩, _⟩ := r.pg j b (ks[j]'(by rw [r.lk, ← r.lp]; exact hj)) ej (List.getElem?_eq_getElem _)
    exact ⟨_, h, .inl ⟨_, _, _, rfl⟩⟩
  · obtain ⟨j, ej⟩ := List.mem_iff_getElem?.mp f
    have hj := (List.getElem?_eq_some_iff.mp ej).1
    obtain ⟨_, h⟩ := r.pg j (ps[j]'(by rw [r.lp, ← r.lk]; exact hj)) b (List.getElem?_eq_getElem _) ej
    exact ⟨_, h, .inr ⟨_, rfl⟩⟩
/-- all but the tables stays, nothing is forgotten -/
structure Ext (H H' : Hp) : Prop where
  n : ExtN H H'
  there : ∀ b, H' b = none → H b = none
theorem Ext.refl (H : Hp) : Ext H H := ⟨ExtN.refl H, fun _ h => h⟩
theorem Ext.trans {H H1 H2 : Hp} (a : Ext H H1) (b : Ext H1 H2) : Ext H H2 := ⟨a.n.trans b.n, fun c h => a.there c (b.there c h)⟩
theorem Ext.of {H H' : Hp} (s : Same H H') : Ext H H' := ⟨ExtN.of s, fun _ h => s.free h⟩
section
variable {K : PySem.W.Frag} {H H' : Hp}
theorem RmP.ext {a pl : Addr} {wd : Nat} {ns : List Int} {c s : Int} {ps ks : List Addr} {hd : Nat → Int} (r : RmP K H a wd ns pl c s ps ks hd) (e : Ext H H') : RmP K H' a wd ns pl c s ps ks hd := r.keep fun b o f h => e.n b o h fun q z => by
  obtain ⟨o', h', g⟩ := foot_sort r f
  rw [h] at h'; cases h'
  rcases g with ⟨_, _, _, g⟩ | ⟨_, g⟩ <;> rw [z] at g <;> cases g
theorem RoomR.ext {a : Addr} {ns : List Int} (r : RoomR K H a ns) (e : Ext H H') : RoomR K H' a ns := let ⟨wd, pl, c, s', ps, ks, hd, h⟩ := r; ⟨wd, pl, c, s', ps, ks, hd, h.ext e⟩
theorem SysD.ext {d e : RD} (r : SysD K H d e) (x : Ext H H') : SysD K H' d e := { r with r0 := r.r0.ext x, r1 := r.r1.ext x }
theorem VwD.ext {v r : Addr} {ls : List Nat} {b : Int} {ss : List Int} (h : VwD K H v r ls b ss) (e : Ext H H') : VwD K H' v r ls b ss := by
  obtain ⟨la, sa, ⟨dx, h1⟩, h2, h3⟩ := h
  exact ⟨la, sa, ⟨dx, e.n _ _ h1 (fun q z => by cases z)⟩, e.n _ _ h2 (fun q z => by cases z), e.n _ _ h3 (fun q z => by cases z)⟩
theorem Src.ext {s r : Addr} {ns : List Int} {ls : List Nat} {b : Int} {ss : List Int} (g : Src K H s r ns ls b ss) (e : Ext H H') : Src K H' s r ns ls b ss := ⟨g.vw.ext e, g.rm.ext e, g.sl, g.ok, g.wi, g.sm⟩
theorem Tgt.ext {t : Addr} {d e : RD} {L : List Nat} {b : Int} {ss : List Int} (g : Tgt K H t d e L b ss) (x : Ext H H') : Tgt K H' t d e L b ss := ⟨g.sy.ext x, g.vw.ext x, g.ok, g.sl, g.nt, g.wi, g.sm⟩
/-- what lies outside F and is no table stays -/
structure FrmT (F F' : Addr → Prop) (H H' : Hp) : Prop where
  keep : ∀ b o, H b = some o → ¬ F b → (∀ ps, o ≠ .tbl ps) → H' b = some o
  new : ∀ b, F' b → F b ∨ H b = none
  there : ∀ b, H' b = none → H b = none
theorem FrmT.of {F F' : Addr → Prop} (f : Frm F F' H H') : FrmT F F' H H' := ⟨fun b o e n _ => f.keep b o e n, f.new, f.there⟩
theorem FrmT.ofE {F : Addr → Prop} (e : Ext H H') : FrmT F F H H' := ⟨fun b o h _ n => e.n b o h n, fun _ h => .inl h, e.there⟩
theorem FrmT.trans {F F1 F2 : Addr → Prop} {H H1 H2 : Hp} (a : FrmT F F1 H H1) (b : FrmT F1 F2 H1 H2) : FrmT F F2 H H2 := by
  refine ⟨fun c o e n m => b.keep c o (a.keep c o e n m) (fun z => ?_) m, fun c h => ?_, fun c h => a.there c (b.there c h)⟩
  · rcases a.new c z with h | h
    · exact n h
    · rw [e] at h; cases h
  · rcases b.new c h with h | h
    · exact a.new c h
    · exact .inr (a.there c h)
/-- the room written, tables perhaps longer -/
def WroteT (K : PySem.W.Frag) (H H' : Hp) (d e d' e' : RD) (ns : List Int) : Prop := SysD K H' d' e' ∧ d'.ns = ns ∧ e'.ns = e.ns ∧ d'.a = d.a ∧ EqE e' e ∧ d'.w = d.w ∧ FrmT d.ft d'.ft H H'
theorem WroteT.of {d e d' e' : RD} {ns : List Int} (w : Wrote K H H' d e d' e' ns) : WroteT K H H' d e d' e' ns := ⟨w.1, w.2.1, w.2.2.1, w.2.2.2.1, w.2.2.2.2.1, w.2.2.2.2.2.1, .of w.2.2.2.2.2.2⟩
theorem WroteT.ofE {d e : RD} (sy : SysD K H d e) (x : Ext H H') : WroteT K H H' d e d e d.ns := ⟨sy.ext x, rfl, rfl, rfl, EqE.refl e, rfl, .ofE x⟩
theorem WroteT.trans {H H1 H2 : Hp} {d e d1 e1 d2 e2 : RD} {n1 n2 : List Int} (a : WroteT K H H1 d e d1 e1 n1) (b : WroteT K H1 H2 d1 e1 d2 e2 n2) : WroteT K H H2 d e d2 e2 n2 := by
  obtain ⟨a1, a2, a3, a4, a5, a6, a7⟩ := a
  obtain ⟨b1, b2, b3, b4, b5, b6, b7⟩ := b
  exact ⟨b1, b2, b3.trans a3, b4.trans a4, b5.trans a5, b6.trans a6, a7.trans b7⟩
/-- the tables under a write -/
theorem tabN_keep {nm : Nat → Nat → Str} {p : Addr} (t : TabN H p nm) (k1 : ∀ b ps, H b = some (.tbl ps) → H' b = some (.tbl ps)) (k2 : ∀ b φ, H b = some (.ext φ) → H' b = some (.ext φ)) : TabN H' p nm := by
  obtain ⟨ps, h1, h2, h3⟩ := t
  refine ⟨ps, k1 _ _ h1, h2, fun pos cv hc => ?_⟩
  obtain ⟨c, e1, e2⟩ := h3 pos cv hc
  exact ⟨c, e1, k2 _ _ e2⟩
theorem Tbl.wrote {Ps : List Addr} {nm : Nat → Nat → Str} {d e d' e' : RD} {ns : List Int} (t : Tbl Ps nm H) (sy : SysD K H d e) (w : Wrote K H H' d e d' e' ns) : Tbl Ps nm H' := fun p hp => tabN_keep (t p hp) (fun b ps h => w.2.2.2.2.2.2.keep _ _ h fun f => by
    obtain ⟨o, h', g⟩ := foot_sort sy.r0 f
    rw [h] at h'; cases h'
    rcases g with ⟨_, _, _, g⟩ | ⟨_, g⟩ <;> cases g) fun b φ h => w.2.2.2.2.2.2.keep _ _ h fun f => by
    obtain ⟨o, h', g⟩ := foot_sort sy.r0 f
    rw [h] at h'; cases h'
    rcases g with ⟨_, _, _, g⟩ | ⟨_, g⟩ <;> cases g
theorem ShutsOnly.list {b : Addr} {xs : List V} (s : ShutsOnly K H H') (e : H b = some (.lst xs)) : H' b = some (.lst xs) := by
  rcases s b _ e with h | ⟨_, _, _, _, _, _, _, h, _⟩
  · exact h
  · cases h
theorem ShutsOnly.extO {b : Addr} {φ : Heap → Prop} (s : ShutsOnly K H H') (e : H b = some (.ext φ)) : H' b = some (.ext φ) := by
  rcases s b _ e with h | ⟨_, _, _, _, _, _, _, h, _⟩
  · exact h
  · cases h
theorem ShutsOnly.frz {b : Addr} {ob : Obj} {u : HO} (s : ShutsOnly K H H') (e : H b = some (.frz ob u)) : H' b = some (.frz ob u) := by
  rcases s b _ e with h | ⟨_, _, _, _, _, _, _, h, _⟩
  · exact h
  · cases h
theorem ShutsOnly.free {b : Addr} (s : ShutsOnly K H H') (e : H' b = none) : H b = none := by
  cases z : H b with
  | none => rfl
  | some o =>
    rcases s b o z with h | ⟨_, _, _, _, _, _, _, _, h⟩
    · rw [e] at h; cases h
    · rw [e] at h; cases h
end
end VG
-- VgTogether
set_option Elab.async false
set_option linter.all false
set_option maxRecDepth 100000
set_option maxHeartbeats 4000000
namespace VG
open PySem PySem.Spec PyProof.Rows L2 LamX NdefX
/-- what is told of a view that is read -/
structure SD where
  v : Addr
  r : Addr
  ns : List Int
  ls : List Nat
  b : Int
  ss : List Int
abbrev SD.row (D : SD) : List Int := pick D.ns (cells D.ls D.b D.ss)
abbrev SrcD (K : PySem.W.Frag) (H : Hp) (D : SD) : Prop := Src K H D.v D.r D.ns D.ls D.b D.ss
section
variable {P : Program} {w : World} {K : PySem.W.Frag} {mg : Str → Option Value} {base : Heap}
/-- what together answers -/
def togOut (f : List Int → Int) (L : List Nat) (Ds : List SD) : List Int := outN (sz L) f (Ds.map fun D => wideN L D.ls D.row)
theorem walkD (K : PySem.W.Frag) (vl : Addr) (Ds : List SD) : Walk (Itl K vl) Ds.length (fun H => SqL K H vl (Ds.map fun D => V.ref D.v)) (fun i H x H' => H' = H ∧ ∃ D, Ds[i]? = some D ∧ x = .ref D.v) := by
  have w := walk_list (K := K) (a := vl) (xs := Ds.map fun D => V.ref D.v)
  rw [List.length_map] at w
  refine w.mono (fun _ q => q) fun i H x H' _ _ y => ⟨y.1, ?_⟩
  have e := y.2
  rw [List.getElem?_map] at e
  cases q : Ds[i]? with
  | none => rw [q] at e; cases e
  | some D => rw [q] at e; exact ⟨D, rfl, (Option.some.inj e).symm⟩
theorem refs_of : ∀ {ys : List V} {Pr : Nat → Addr → Prop}, (∀ (i : Nat) y, ys[i]? = some y → ∃ a, y = V.ref a ∧ Pr i a) → ∃ as : List Addr, ys = as.map V.ref ∧ ∀ (i : Nat) a, as[i]? = some a → Pr i a
  | [], _, _ => ⟨[], rfl, fun i a e => by simp at e⟩
  | y :: ys, Pr, h => by
    obtain ⟨a, rfl, h0⟩ := h 0 y rfl
    obtain ⟨as, rfl, h1⟩ := refs_of (ys := ys) (Pr := fun i a => Pr (i + 1) a) fun i z e => h (i + 1) z (by simpa using e)
    refine ⟨a :: as, rfl, fun i b e => ?_⟩
    cases i with
    | zero => cases e; exact h0
    | succ i => exact h1 i b (by simpa using e)
def spTogether (P : Program) (w : World) (K : PySem.W.Frag) (mg : Str → Option Value) (base : Heap) (kd : Nat) : Sp := fun vs H Q _ => ∃ (d vl : Addr) (into : V) (Ds : List SD) (L : List Nat) (f : List Int → Int) (G : Hp → Prop) (sp : Sp), vs = [.ref d, .ref vl, into] ∧
  H vl = some (.lst (Ds.map fun D => V.ref D.v)) ∧ (∀ D ∈ Ds, SrcD K H D) ∧ (Ds.length = 1 ∨ Ds.length = 2) ∧ L ∈ Ds.map (·.ls) ∧ (∀ D ∈ Ds, Fit D.ls L) ∧ Okl L ∧ Deed P w K mg base kd d Ds.length f G sp ∧ G H ∧ Tbs K H ∧
  ((into = .non ∧ ∀ v H', Ext H H' → Tbs K H' → NewV K H H' v L (togOut f L Ds) → Q (.ref v) H') ∨
   (∃ (t : Addr) (d0 e0 : RD) (LT : List Nat) (b : Int) (ss : List Int), into = .ref t ∧ Tgt K H t d0 e0 LT b ss ∧ Fit L LT ∧ ∀ H' d' e', WroteT K H H' d0 e0 d' e' (wr d0.ns (cells LT b ss) (wideN LT L (togOut f L Ds))) → Tbs K H' → Q (.ref t) H'))
theorem fn_together (T : Tx K mg) (kd : Nat) (tb : TbB K mg base) {fd : FuncData} (F : FunR K d_together fd) : FnOk P w K mg base CX0 (kd + 9) (He.fAd K d_together.at_) fd ["deed", "views", "into"] (spTogether P w K mg base kd) := by
  have hp : (("together", none) : He.Defn) ∈ tf := by decide +kernel
  refine fn_okC (p := ("together", none)) F sc_together (fun vs H Q E h => ?_) (fun cdv A outer s H vs Q E hcd hr h => ?_)
  · obtain ⟨d, vl, into, Ds, L, f, G, sp, rfl, _⟩ := h; rfl
  · obtain ⟨d, vl, into, Ds, L, f, G, sp, rfl, hvl, hD, h12, hL, hfit, hok, hd, hG, htb, hq⟩ := h
    subst hcd
    rcases hq with ⟨rfl, q⟩ | ⟨t, d0, e0, LT, b0, ss0, rfl, G0, fitT, q⟩
    · have hsh : ∀ n, n ≤ 3 → Def P w K mg base (kd + 6) "asked_shut" ["rooms", "deed"] [] (spShut P w K mg base (kd + 2) n) := fun n hn => (ok_asked_shut T (kd + 2) n).mono (by omega)
      refine ⟨_, (pss_cons (ps_set (i := 3) sc_together.nd rfl (Or.inr rfl) (pe_fK (K := K) (P := P) (w := w) (mg := mg) (base := base) ((ok_common_sides T).mono (by omega)) rfl rfl rfl rfl rfl hr (by rfl) (pa_cons (pe_lc (own := [("view", 4)]) (tt := tYes) rfl sc_together.nd (pi_listK (K := K) rfl (pv 1)) (blkOk_by (own := [("view", 4)]) (sc := defScope s_together) (N := n_together) (by decide +kernel)) (fun _ _ _ _ _ => (pg_name (i := 4) sc_together.nd rfl (by first | exact Or.inl rfl | exact Or.inr rfl))) (fun _ _ _ _ _ => pts_nil) (fun _ _ _ _ _ => (pe_m0K (K := K) (P := P) (w := w) (mg := mg) (base := base) ((ok_View_sides T).mono (by omega)) (cl_View T) rfl rfl rfl rfl rfl hr (pv 4)))) pa_nil)))
    (pss_cons (ps_setLc (i := 5) (own := [("view", 4)]) (tt := tYes) rfl sc_together.nd rfl rfl (sw_true rfl rfl rfl (by decide +kernel)) (pi_listK (K := K) rfl (pv 1)) (blkOk_by (own := [("view", 4)]) (sc := defScope s_together) (N := n_together) (by decide +kernel)) (fun _ _ _ _ _ => (pg_name (i := 4) sc_together.nd rfl (by first | exact Or.inl rfl | exact Or.inr rfl))) (fun _ _ _ _ _ => pts_nil) (fun _ _ _ _ _ => (pe_m0K (K := K) (P := P) (w := w) (mg := mg) (base := base) ((ok_View_room T).mono (by omega)) (cl_View T) rfl rfl rfl rfl rfl hr (pv 4))))
    (pss_cons (ps_if (pt_cmpR op_notN (pv 2) pe_non (nomark _)) (pss_cons (ps_expr (pe_fK (K := K) (P := P) (w := w) (mg := mg) (base := base) ((ok_need_target T).mono (by omega)) rfl rfl rfl rfl rfl hr (by rfl) (pa_cons (pv 3) (pa_cons (pv 2) pa_nil))))
    (pss_one (ps_expr (pe_bmK (K := K) rfl PySem.F.plainAttrs_list PySem.F.slot_list_append PySem.F.type_list_append mt_append (pv 5) (pa_cons (pe_m0K (K := K) (P := P) (w := w) (mg := mg) (base := base) ((ok_View_room T).mono (by omega)) (cl_View T) rfl rfl rfl rfl rfl hr (pv 2)) pa_nil))))) pss_nil)
    (pss_cons (ps_set (i := 6) sc_together.nd rfl (Or.inr rfl) (pe_lc (own := [("view", 4)]) (tt := tYes) rfl sc_together.nd (pi_listK (K := K) rfl (pv 1)) (blkOk_by (own := [("view", 4)]) (sc := defScope s_together) (N := n_together) (by decide +kernel)) (fun _ _ _ _ _ => (pg_name (i := 4) sc_together.nd rfl (by first | exact Or.inl rfl | exact Or.inr rfl))) (fun _ _ _ _ _ => pts_nil) (fun _ _ _ _ _ => (pe_m0K (K := K) (P := P) (w := w) (mg := mg) (base := base) ((ok_View_numbers T).mono (by omega)) (cl_View T) rfl rfl rfl rfl rfl hr (pe_fK (K := K) (P := P) (w := w) (mg := mg) (base := base) ((ok_widened T).mono (by omega)) rfl rfl rfl rfl rfl hr (by rfl) (pa_cons (pv 4) (pa_cons (pv 3) pa_nil)))))))
    (pss_cons (ps_set (i := 7) sc_together.nd rfl (Or.inr rfl) (pe_listRg rfl (by rfl) (z_list T) (prg_1 (by rfl) (z_range T) (pe_fK (K := K) (P := P) (w := w) (mg := mg) (base := base) ((ok_size_of T).mono (by omega)) rfl rfl rfl rfl rfl hr (by rfl) (pa_cons (pv 3) pa_nil)))))
    (pss_cons (ps_set (i := 8) sc_together.nd rfl (Or.inl rfl) (pe_cap (fr := ["deed", "rows", "spots"]) (js := [0, 6, 7]) ((hsh Ds.length (by omega)).mono (show kd + 6 ≤ kd + 8 by omega)) hr (by rfl) (fun ok => Caps.made (scope := lamScope s_lam_together0) ok (ndef_free (sc := defScope s_together) (nsc := lamScope s_lam_together0) (fr := ["deed", "rows", "spots"]) (by decide +kernel)) (ndef_fr (sc := defScope s_together) (nsc := lamScope s_lam_together0) (fr := ["deed", "rows", "spots"]) (by decide +kernel)) rfl) (fun _ => rfl) (pa_cons (pv 5) (pa_cons (pe_lam (Ps := PsT K) (nm := nmL) (tb _ hp) rfl (List.mem_map.mpr ⟨_, hp, rfl⟩) (by kernel_rfl) (ndef_free (sc := defScope s_together) (nsc := lamScope s_lam_together0) (fr := ["deed", "rows", "spots"]) (by decide +kernel))) pa_nil))))
    (pss_cons (ps_set (i := 11) sc_together.nd rfl (Or.inl rfl) (pe_fK (K := K) (P := P) (w := w) (mg := mg) (base := base) ((ok_new_view T).mono (by omega)) rfl rfl rfl rfl rfl hr (by rfl) (pa_cons (pv 3) (pa_cons (pv 8) pa_nil))))
    (pss_cons (ps_if (pt_cmpR op_isN (pv 2) pe_non (nomark _)) (pss_one (ps_ret (pv 11))) pss_nil)
    (pss_cons (ps_expr (pe_fK (K := K) (P := P) (w := w) (mg := mg) (base := base) ((ok_written T).mono (by omega)) rfl rfl rfl rfl rfl hr (by rfl) (pa_cons (pv 2) (pa_cons (pv 11) pa_nil))))
    (pss_one (ps_ret (pv 2)))))))))))), ?_⟩
      refine ⟨_, rfl, vl, rfl, ⟨_, SqL.of hvl⟩, fun C hC => ?_⟩
      refine lc_new (walkD K vl Ds) (by omega) hC (fun i y H => ∃ a D, Ds[i]? = some D ∧ y = V.ref a ∧ H a = some (.tup (tn D.ls)) ∧ a ≠ C) (fun H3 s3 => SqL.of (s3 _ _ hvl)) (fun i y H H' bt ⟨a, D, e1, e2, e3, e4⟩ => ⟨a, D, e1, e2, bt _ _ e4 e3, e4⟩) ?_ ?_
      · rintro i x H3 H4 Kt hi s3 ⟨acc, hacc⟩ ⟨rfl, D, hDi, rfl⟩ kt
        have hv := (hD D (List.mem_of_getElem? hDi)).vw.same s3
        obtain ⟨la0, sa0, ⟨dx, h1⟩, h2, h3⟩ := id hv
        exact ⟨rfl, _, rfl, D.v, dx, _, rfl, h1, view_no (by decide) (by decide) (by decide) (by decide), D.v, D.r, D.ls, D.b, D.ss, rfl, hv, fun la hla => kt _ _ (Same.refl _) ⟨la, D, hDi, rfl, hla, ne_of hla hacc (by intro z; cases z)⟩⟩
      intro ys H1 s1 hC1 hy hR
      have al : All2 (fun y p => ∃ q, y = V.ref q ∧ H1 q = some (.tup (tn p))) ys (Ds.map (·.ls)) := All2.of_get (by rw [hy, List.length_map]) fun i y p e1 e2 => by
        obtain ⟨a, D, f1, f2, f3, _⟩ := hR i y e1
        rw [List.getElem?_map, f1] at e2
        cases e2
        exact ⟨a, f2, f3⟩
      obtain ⟨bs, rfl, tps⟩ := all2_tups al
      refine ⟨C, bs, Ds.map (·.ls), L, rfl, hC1, tps, by rw [List.length_map]; omega, hL, fun X hX => ?_, hok, fun lt H2 s2 hlt0 hlt => ?_⟩
      · obtain ⟨D, hDm, rfl⟩ := List.mem_map.mp hX
        exact hfit D hDm
      have s02 := s1.trans s2
      have hvl2 := s02 _ _ hvl
      refine ⟨_, rfl, vl, rfl, ⟨_, SqL.of hvl2⟩, fun R0 hR0 => ?_⟩
      refine lc_new (walkD K vl Ds) (by omega) hR0 (fun i y H => ∃ D, Ds[i]? = some D ∧ y = V.ref D.r) (fun H3 s3 => SqL.of (s3 _ _ hvl2)) (fun i y H H' bt h => h) ?_ ?_
      · rintro i x H3 H4 Kt hi s3 hacc ⟨rfl, D, hDi, rfl⟩ kt
        have hv := (hD D (List.mem_of_getElem? hDi)).vw.same (s02.trans s3)
        obtain ⟨la0, sa0, ⟨dx, h1⟩, h2, h3⟩ := id hv
        exact ⟨rfl, _, rfl, D.v, dx, _, rfl, h1, view_no (by decide) (by decide) (by decide) (by decide), D.v, D.r, D.ls, D.b, D.ss, rfl, hv, kt _ _ (Same.refl _) ⟨D, hDi, rfl⟩⟩
      intro ys H3 s3 hR3 hy hR
      have er : ys = (Ds.map (·.r)).map V.ref := by
        apply List.ext_getElem?
        intro i
        cases e : ys[i]? with
        | none => rw [List.getElem?_eq_none (by rw [List.length_map, List.length_map, ← hy]; exact List.getElem?_eq_none_iff.mp e)]
        | some y =>
          obtain ⟨D, f1, f2⟩ := hR i y e
          rw [List.getElem?_map, List.getElem?_map, f1, f2]
          rfl
      subst er
      have s03 := s02.trans s3
      have hR0n : H R0 = none := s02.free hR0
      have hlt3 := s3 _ _ hlt
      refine ⟨_, rfl, rfl, _, rfl, iteF ?_⟩
      have s05 := s03
      have hlt5 := hlt3
      obtain ⟨rs2, ers⟩ : ∃ rs2, rs2 = Ds.map (·.r) := ⟨_, rfl⟩
      have hR5 : H3 R0 = some (.lst (rs2.map V.ref)) := by rw [ers]; exact hR3
      have hrs2l : rs2.length = Ds.length := by rw [ers, List.length_map]
      have hrs2 : ∀ r ∈ rs2, ∃ n w pl c s, RmO K H3 r n w pl c s := fun r hr => by
        rw [ers] at hr
        obtain ⟨D, hDm, rfl⟩ := List.mem_map.mp hr
        obtain ⟨wd, pl, c, s', ps, ks, hd', h⟩ := ((hD D hDm).same s03).rm
        exact ⟨_, _, _, _, _, h.ob⟩
      have hvl5 := s05 _ _ hvl
      refine ⟨_, rfl, vl, rfl, ⟨_, SqL.of hvl5⟩, fun W hW => ?_⟩
      refine lc_new (walkD K vl Ds) (by omega) hW (fun i y H => ∃ a, y = V.ref a ∧ (∀ D, Ds[i]? = some D → H a = some (.lst (ti (wideN L D.ls D.row)))) ∧ a ≠ W) (fun H3 s3 => SqL.of (s3 _ _ hvl5)) (fun i y H H' bt ⟨a, e1, e2, e3⟩ => ⟨a, e1, fun D hDi => bt _ _ e3 (e2 D hDi), e3⟩) ?_ ?_
      · rintro i x H6 H7 Kt hi s6 ⟨acc, hacc⟩ ⟨rfl, D, hDi, rfl⟩ kt
        have S0 := hD D (List.mem_of_getElem? hDi)
        have S7 := S0.same (s05.trans s6)
        have hf := hfit D (List.mem_of_getElem? hDi)
        refine ⟨rfl, _, rfl, _, rfl, D.v, D.r, lt, D.ls, L, D.b, D.ss, D.ns, rfl, S7.vw, S7.sl, s6 _ _ hlt5, hok, hf, S7.rm, S7.sm, fun x H8 s8 hx0 hx => ?_⟩
        obtain ⟨xla, xsa, ⟨xd, x1⟩, x2, x3⟩ := id hx
        have hwl := wst_len (S := L) S7.sl hf.1
        refine ⟨x, xd, _, rfl, x1, view_no (by decide) (by decide) (by decide) (by decide), x, D.r, L, _, _, D.ns, rfl, hx, hok, nst_len hwl, S7.rm.same s8, ?_, fun l H9 s9 hl0 hl => kt _ _ (s8.trans s9) ⟨l, rfl, fun D' hD' => ?_, (ne_of_none (s8 _ _ hacc) hl0).symm⟩⟩
        · rw [cells_norm _ hwl]; exact within_wide hf S7.sl S7.wi
        · rw [hDi] at hD'
          cases hD'
          rw [cells_norm _ hwl, pick_wide hf S7.sl] at hl
          exact hl
      intro ys H6 s6 hW6 hy hR'
      obtain ⟨as, rfl, has⟩ := refs_of hR'
      have lasD : as.length = Ds.length := by rw [← hy, List.length_map]
      have hlt6 := s6 _ _ hlt5
      refine ⟨_, rfl, lt, L, rfl, SqT.of hlt6, hok.each, _, rfl, RgOk.of_le (by omega) (by have := hok.size; omega) (by omega) (by omega), fun S hS => ?_⟩
      rw [rgV_tn]
      have s7 : Same H6 (upd H6 S (.lst (tn (List.range (sz L))))) := Same.new hS
      have hS7 : (upd H6 S (.lst (tn (List.range (sz L))))) S = some (.lst (tn (List.range (sz L)))) := upd_same
      generalize upd H6 S (.lst (tn (List.range (sz L)))) = H7 at s7 hS7
      have s07 : Same H H7 := (s05.trans s6).trans s7
      refine ⟨_, rfl, htb.ext s07, fun fa c' H8 e8 nn8 tb8 f0 hf8 hc8 => ⟨[.ref d, .ref W, .ref S], rfl, fun cs hcs cap => ?_⟩⟩
      have x78 : Ext H7 H8 := ⟨e8, nn8⟩
      have x08 : Ext H H8 := (Ext.of s07).trans x78
      have ls8 : ∀ b xs, H7 b = some (.lst xs) → H8 b = some (.lst xs) := fun b xs h => e8 b _ h (fun _ z => by cases z)
      have ov : ∀ b o, H8 b = some o → over cs H8 b = some o := fun b o h => by
        cases z : cs b with
        | none => rw [over_out z]; exact h
        | some u => rw [(hcs b u z).1] at h; cases h
      have ovn : ∀ b, over cs H8 b = none → cs b = none ∧ H8 b = none := fun b h => by
        cases z : cs b with
        | none => rw [over_out z] at h; exact ⟨rfl, h⟩
        | some u => rw [over_in z] at h; cases h
      have rooms8 : ∀ r ∈ rs2, ∃ n w pl c s, RmO K (over cs H8) r n w pl c s := fun r hr => by
        obtain ⟨n, w, pl, c, s', dx, h⟩ := hrs2 r hr
        exact ⟨n, w, pl, c, s', dx, ov _ _ (e8 _ _ (s7 _ _ (s6 _ _ h)) (fun _ z => by cases z))⟩
      have hW8 := ov _ _ (ls8 _ _ (s7 _ _ hW6))
      have hS8 := ov _ _ (ls8 _ _ hS7)
      have hrows8 : RowsZ (over cs H8) as (Ds.map fun D : SD => wideN L D.ls D.row) := ⟨by rw [lasD, List.length_map], fun i a r e1 e2 => by
        rw [List.getElem?_map] at e2
        cases z : Ds[i]? with
        | none => rw [z] at e2; cases e2
        | some D =>
          rw [z] at e2
          cases e2
          exact ov _ _ (ls8 _ _ (s7 _ _ ((has i a e1).1 D z)))⟩
      obtain ⟨qz, cz, oz, g0⟩ : ∃ q cl c, LamG fa (FL q s_lam_together0 cl c) (lamBody s_lam_together0) ["deed", "rows", "spots"] [.ref d, .ref W, .ref S] (over cs H8) := ⟨_, _, _, lamG_of (ov _ _ hf8) (ov _ _ hc8) cap⟩
      refine ⟨R0, fa, rs2, LamG fa (FL qz s_lam_together0 cz oz) (lamBody s_lam_together0) ["deed", "rows", "spots"] [.ref d, .ref W, .ref S], spTogL P w K mg base kd d W S, fun v H2 => ∃ l', v = .ref l' ∧ over cs H8 l' = none ∧ H2 l' = some (.lst (ti (togOut f L Ds))), rfl,
        ov _ _ (ls8 _ _ (s7 _ _ (s6 _ _ hR5))), hrs2l, by omega, rooms8, act_together T kd, fun H1 Q' sh hq' => ?_, fun v H2 H3 hR3 e1 e2 hcs3 => ?_⟩
      · refine ⟨g0.keep (fun a φ h => sh.extO h) (fun b ob h => sh.frz h), rfl, as, Ds.map (fun D : SD => wideN L D.ls D.row), sz L, f, G, sp, sh.list hW8, ⟨hrows8.1, fun i a r a1 a2 => sh.list (hrows8.2 i a r a1 a2)⟩, by rw [List.length_map]; exact h12, fun r hr => ?_, sh.list hS8, by have := hok.size; omega, by rw [List.length_map]; exact hd, ?_, fun l H' s' hl0 hl => hq' _ _ s' ⟨l, rfl, sh.free hl0, hl⟩⟩
        · obtain ⟨D, _, rfl⟩ := List.mem_map.mp hr
          exact wideN_len _ _ _
        · refine hd.stay _ _ hG fun a φ h => sh.extO (ov _ _ (x08.n _ _ h (fun _ z => by cases z)))
      · obtain ⟨l', rfl, hl0, hl2⟩ := hR3
        obtain ⟨cl', hl8⟩ := ovn _ hl0
        have nrs : l' ∉ rs2 := fun z => by
          obtain ⟨n, w, pl, c, s', dx, h⟩ := rooms8 l' z
          rw [hl0] at h; cases h
        have hl3 : less cs H3 l' = some (.lst (ti (togOut f L Ds))) := by rw [less_out cl', e1 _ nrs]; exact hl2
        have s89 : Same H8 (less cs H3) := fun b o h => by
          have h2 := e2 b o (ov b o h)
          cases z : cs b with
          | none => rw [less_out z]; exact h2
          | some u => rw [(hcs b u z).1] at h; cases h
        generalize less cs H3 = H9 at hl3 s89
        have x09 : Ext H H9 := x08.trans (Ext.of s89)
        have hlt9 : H9 lt = some (.tup (tn L)) := s89 _ _ (e8 _ _ (s7 _ _ hlt6) (fun _ z => by cases z))
        have tb9 : Tbs K H9 := tb8.ext s89
        refine ⟨_, rfl, _, rfl, lt, l', L, togOut f L Ds, rfl, hlt9, hl3, outN_len _ _ _, hok, fun v H10 s10 nv => ?_⟩
        have x010 : Ext H H10 := x09.trans (Ext.of s10)
        have tb10 : Tbs K H10 := tb9.ext s10
        refine ⟨_, rfl, rfl, _, rfl, iteT ⟨_, rfl, q v H10 x010 tb10 ?_⟩⟩
        obtain ⟨r, vb, vss, Gf, a1, a2, a3, a4, a5, a6⟩ := nv
        exact ⟨r, vb, vss, Gf, a1, a2, a3, a4, fun x hx => x09.there _ (a5 x hx), x09.there _ a6⟩
    · have hsh : ∀ n, n ≤ 3 → Def P w K mg base (kd + 6) "asked_shut" ["rooms", "deed"] [] (spShut P w K mg base (kd + 2) n) := fun n hn => (ok_asked_shut T (kd + 2) n).mono (by omega)
      refine ⟨_, (pss_cons (ps_set (i := 3) sc_together.nd rfl (Or.inr rfl) (pe_fK (K := K) (P := P) (w := w) (mg := mg) (base := base) ((ok_common_sides T).mono (by omega)) rfl rfl rfl rfl rfl hr (by rfl) (pa_cons (pe_lc (own := [("view", 4)]) (tt := tYes) rfl sc_together.nd (pi_listK (K := K) rfl (pv 1)) (blkOk_by (own := [("view", 4)]) (sc := defScope s_together) (N := n_together) (by decide +kernel)) (fun _ _ _ _ _ => (pg_name (i := 4) sc_together.nd rfl (by first | exact Or.inl rfl | exact Or.inr rfl))) (fun _ _ _ _ _ => pts_nil) (fun _ _ _ _ _ => (pe_m0K (K := K) (P := P) (w := w) (mg := mg) (base := base) ((ok_View_sides T).mono (by omega)) (cl_View T) rfl rfl rfl rfl rfl hr (pv 4)))) pa_nil)))
    (pss_cons (ps_setLc (i := 5) (own := [("view", 4)]) (tt := tYes) rfl sc_together.nd rfl rfl (sw_true rfl rfl rfl (by decide +kernel)) (pi_listK (K := K) rfl (pv 1)) (blkOk_by (own := [("view", 4)]) (sc := defScope s_together) (N := n_together) (by decide +kernel)) (fun _ _ _ _ _ => (pg_name (i := 4) sc_together.nd rfl (by first | exact Or.inl rfl | exact Or.inr rfl))) (fun _ _ _ _ _ => pts_nil) (fun _ _ _ _ _ => (pe_m0K (K := K) (P := P) (w := w) (mg := mg) (base := base) ((ok_View_room T).mono (by omega)) (cl_View T) rfl rfl rfl rfl rfl hr (pv 4))))
    (pss_cons (ps_if (pt_cmpR op_notN (pv 2) pe_non (nomark _)) (pss_cons (ps_expr (pe_fK (K := K) (P := P) (w := w) (mg := mg) (base := base) ((ok_need_target T).mono (by omega)) rfl rfl rfl rfl rfl hr (by rfl) (pa_cons (pv 3) (pa_cons (pv 2) pa_nil))))
    (pss_one (ps_expr (pe_bmK (K := K) rfl PySem.F.plainAttrs_list PySem.F.slot_list_append PySem.F.type_list_append mt_append (pv 5) (pa_cons (pe_m0K (K := K) (P := P) (w := w) (mg := mg) (base := base) ((ok_View_room T).mono (by omega)) (cl_View T) rfl rfl rfl rfl rfl hr (pv 2)) pa_nil))))) pss_nil)
    (pss_cons (ps_set (i := 6) sc_together.nd rfl (Or.inr rfl) (pe_lc (own := [("view", 4)]) (tt := tYes) rfl sc_together.nd (pi_listK (K := K) rfl (pv 1)) (blkOk_by (own := [("view", 4)]) (sc := defScope s_together) (N := n_together) (by decide +kernel)) (fun _ _ _ _ _ => (pg_name (i := 4) sc_together.nd rfl (by first | exact Or.inl rfl | exact Or.inr rfl))) (fun _ _ _ _ _ => pts_nil) (fun _ _ _ _ _ => (pe_m0K (K := K) (P := P) (w := w) (mg := mg) (base := base) ((ok_View_numbers T).mono (by omega)) (cl_View T) rfl rfl rfl rfl rfl hr (pe_fK (K := K) (P := P) (w := w) (mg := mg) (base := base) ((ok_widened T).mono (by omega)) rfl rfl rfl rfl rfl hr (by rfl) (pa_cons (pv 4) (pa_cons (pv 3) pa_nil)))))))
    (pss_cons (ps_set (i := 7) sc_together.nd rfl (Or.inr rfl) (pe_listRg rfl (by rfl) (z_list T) (prg_1 (by rfl) (z_range T) (pe_fK (K := K) (P := P) (w := w) (mg := mg) (base := base) ((ok_size_of T).mono (by omega)) rfl rfl rfl rfl rfl hr (by rfl) (pa_cons (pv 3) pa_nil)))))
    (pss_cons (ps_set (i := 8) sc_together.nd rfl (Or.inl rfl) (pe_cap (fr := ["deed", "rows", "spots"]) (js := [0, 6, 7]) ((hsh (Ds.length + 1) (by omega)).mono (show kd + 6 ≤ kd + 8 by omega)) hr (by rfl) (fun ok => Caps.made (scope := lamScope s_lam_together0) ok (ndef_free (sc := defScope s_together) (nsc := lamScope s_lam_together0) (fr := ["deed", "rows", "spots"]) (by decide +kernel)) (ndef_fr (sc := defScope s_together) (nsc := lamScope s_lam_together0) (fr := ["deed", "rows", "spots"]) (by decide +kernel)) rfl) (fun _ => rfl) (pa_cons (pv 5) (pa_cons (pe_lam (Ps := PsT K) (nm := nmL) (tb _ hp) rfl (List.mem_map.mpr ⟨_, hp, rfl⟩) (by kernel_rfl) (ndef_free (sc := defScope s_together) (nsc := lamScope s_lam_together0) (fr := ["deed", "rows", "spots"]) (by decide +kernel))) pa_nil))))
    (pss_cons (ps_set (i := 11) sc_together.nd rfl (Or.inl rfl) (pe_fK (K := K) (P := P) (w := w) (mg := mg) (base := base) ((ok_new_view T).mono (by omega)) rfl rfl rfl rfl rfl hr (by rfl) (pa_cons (pv 3) (pa_cons (pv 8) pa_nil))))
    (pss_cons (ps_if (pt_cmpR op_isN (pv 2) pe_non (nomark _)) (pss_one (ps_ret (pv 11))) pss_nil)
    (pss_cons (ps_expr (pe_fK (K := K) (P := P) (w := w) (mg := mg) (base := base) ((ok_written T).mono (by omega)) rfl rfl rfl rfl rfl hr (by rfl) (pa_cons (pv 2) (pa_cons (pv 11) pa_nil))))
    (pss_one (ps_ret (pv 2)))))))))))), ?_⟩
      refine ⟨_, rfl, vl, rfl, ⟨_, SqL.of hvl⟩, fun C hC => ?_⟩
      refine lc_new (walkD K vl Ds) (by omega) hC (fun i y H => ∃ a D, Ds[i]? = some D ∧ y = V.ref a ∧ H a = some (.tup (tn D.ls)) ∧ a ≠ C) (fun H3 s3 => SqL.of (s3 _ _ hvl)) (fun i y H H' bt ⟨a, D, e1, e2, e3, e4⟩ => ⟨a, D, e1, e2, bt _ _ e4 e3, e4⟩) ?_ ?_
      · rintro i x H3 H4 Kt hi s3 ⟨acc, hacc⟩ ⟨rfl, D, hDi, rfl⟩ kt
        have hv := (hD D (List.mem_of_getElem? hDi)).vw.same s3
        obtain ⟨la0, sa0, ⟨dx, h1⟩, h2, h3⟩ := id hv
        exact ⟨rfl, _, rfl, D.v, dx, _, rfl, h1, view_no (by decide) (by decide) (by decide) (by decide), D.v, D.r, D.ls, D.b, D.ss, rfl, hv, fun la hla => kt _ _ (Same.refl _) ⟨la, D, hDi, rfl, hla, ne_of hla hacc (by intro z; cases z)⟩⟩
      intro ys H1 s1 hC1 hy hR
      have al : All2 (fun y p => ∃ q, y = V.ref q ∧ H1 q = some (.tup (tn p))) ys (Ds.map (·.ls)) := All2.of_get (by rw [hy, List.length_map]) fun i y p e1 e2 => by
        obtain ⟨a, D, f1, f2, f3, _⟩ := hR i y e1
        rw [List.getElem?_map, f1] at e2
        cases e2
        exact ⟨a, f2, f3⟩
      obtain ⟨bs, rfl, tps⟩ := all2_tups al
      refine ⟨C, bs, Ds.map (·.ls), L, rfl, hC1, tps, by rw [List.length_map]; omega, hL, fun X hX => ?_, hok, fun lt H2 s2 hlt0 hlt => ?_⟩
      · obtain ⟨D, hDm, rfl⟩ := List.mem_map.mp hX
        exact hfit D hDm
      have s02 := s1.trans s2
      have hvl2 := s02 _ _ hvl
      refine ⟨_, rfl, vl, rfl, ⟨_, SqL.of hvl2⟩, fun R0 hR0 => ?_⟩
      refine lc_new (walkD K vl Ds) (by omega) hR0 (fun i y H => ∃ D, Ds[i]? = some D ∧ y = V.ref D.r) (fun H3 s3 => SqL.of (s3 _ _ hvl2)) (fun i y H H' bt h => h) ?_ ?_
      · rintro i x H3 H4 Kt hi s3 hacc ⟨rfl, D, hDi, rfl⟩ kt
        have hv := (hD D (List.mem_of_getElem? hDi)).vw.same (s02.trans s3)
        obtain ⟨la0, sa0, ⟨dx, h1⟩, h2, h3⟩ := id hv
        exact ⟨rfl, _, rfl, D.v, dx, _, rfl, h1, view_no (by decide) (by decide) (by decide) (by decide), D.v, D.r, D.ls, D.b, D.ss, rfl, hv, kt _ _ (Same.refl _) ⟨D, hDi, rfl⟩⟩
      intro ys H3 s3 hR3 hy hR
      have er : ys = (Ds.map (·.r)).map V.ref := by
        apply List.ext_getElem?
        intro i
        cases e : ys[i]? with
        | none => rw [List.getElem?_eq_none (by rw [List.length_map, List.length_map, ← hy]; exact List.getElem?_eq_none_iff.mp e)]
        | some y =>
          obtain ⟨D, f1, f2⟩ := hR i y e
          rw [List.getElem?_map, List.getElem?_map, f1, f2]
          rfl
      subst er
      have s03 := s02.trans s3
      have hR0n : H R0 = none := s02.free hR0
      have hlt3 := s3 _ _ hlt
      refine ⟨_, rfl, rfl, _, rfl, iteT ?_⟩
      refine ⟨_, rfl, _, rfl, lt, t, L, LT, b0, ss0, d0, e0, rfl, hlt3, hok, G0.same s03, fitT, fun H4 s4 => ?_⟩
      have G4 := (G0.same s03).same s4
      obtain ⟨tla, tsa, ⟨tdx, t1⟩, t2, t3⟩ := id G4.vw
      refine ⟨_, rfl, .inl ⟨rfl, _, SqL.of (s4 _ _ hR3)⟩, _, rfl, t, tdx, _, rfl, t1, view_no (by decide) (by decide) (by decide) (by decide), t, d0.a, LT, b0, ss0, rfl, G4.vw, R0, _, _, rfl, rfl, s4 _ _ hR3, sz_lt (by rw [List.length_map, List.length_map]; omega), ?_⟩
      have s05 : Same H (upd H4 R0 (.lst ((Ds.map (·.r)).map V.ref ++ [.ref d0.a]))) := fun b o e => by
        rw [upd_ne (ne_of_none e hR0n)]; exact s4 _ _ (s03 _ _ e)
      have hlt5 : (upd H4 R0 (.lst ((Ds.map (·.r)).map V.ref ++ [.ref d0.a]))) lt = some (.tup (tn L)) := by rw [upd_ne (ne_of hlt3 hR3 (by intro z; cases z))]; exact s4 _ _ hlt3
      obtain ⟨rs2, ers⟩ : ∃ rs2, rs2 = Ds.map (·.r) ++ [d0.a] := ⟨_, rfl⟩
      have hR5 : (upd H4 R0 (.lst ((Ds.map (·.r)).map V.ref ++ [.ref d0.a]))) R0 = some (.lst (rs2.map V.ref)) := by rw [ers, upd_same, List.map_append]; rfl
      have hrs2l : rs2.length = Ds.length + 1 := by rw [ers, List.length_append, List.length_map]; rfl
      generalize upd H4 R0 (.lst ((Ds.map (·.r)).map V.ref ++ [.ref d0.a])) = H5 at s05 hlt5 hR5
      have hrs2 : ∀ r ∈ rs2, ∃ n w pl c s, RmO K H5 r n w pl c s := fun r hr => by
        rw [ers] at hr
        rcases List.mem_append.mp hr with hr | hr
        · obtain ⟨D, hDm, rfl⟩ := List.mem_map.mp hr
          obtain ⟨wd, pl, c, s', ps, ks, hd', h⟩ := ((hD D hDm).same s05).rm
          exact ⟨_, _, _, _, _, h.ob⟩
        · rw [List.mem_singleton.mp hr]
          exact ⟨_, _, _, _, _, (G0.same s05).sy.r0.ob⟩
      have hvl5 := s05 _ _ hvl
      refine ⟨_, rfl, vl, rfl, ⟨_, SqL.of hvl5⟩, fun W hW => ?_⟩
      refine lc_new (walkD K vl Ds) (by omega) hW (fun i y H => ∃ a, y = V.ref a ∧ (∀ D, Ds[i]? = some D → H a = some (.lst (ti (wideN L D.ls D.row)))) ∧ a ≠ W) (fun H3 s3 => SqL.of (s3 _ _ hvl5)) (fun i y H H' bt ⟨a, e1, e2, e3⟩ => ⟨a, e1, fun D hDi => bt _ _ e3 (e2 D hDi), e3⟩) ?_ ?_
      · rintro i x H6 H7 Kt hi s6 ⟨acc, hacc⟩ ⟨rfl, D, hDi, rfl⟩ kt
        have S0 := hD D (List.mem_of_getElem? hDi)
        have S7 := S0.same (s05.trans s6)
        have hf := hfit D (List.mem_of_getElem? hDi)
        refine ⟨rfl, _, rfl, _, rfl, D.v, D.r, lt, D.ls, L, D.b, D.ss, D.ns, rfl, S7.vw, S7.sl, s6 _ _ hlt5, hok, hf, S7.rm, S7.sm, fun x H8 s8 hx0 hx => ?_⟩
        obtain ⟨xla, xsa, ⟨xd, x1⟩, x2, x3⟩ := id hx
        have hwl := wst_len (S := L) S7.sl hf.1
        refine ⟨x, xd, _, rfl, x1, view_no (by decide) (by decide) (by decide) (by decide), x, D.r, L, _, _, D.ns, rfl, hx, hok, nst_len hwl, S7.rm.same s8, ?_, fun l H9 s9 hl0 hl => kt _ _ (s8.trans s9) ⟨l, rfl, fun D' hD' => ?_, (ne_of_none (s8 _ _ hacc) hl0).symm⟩⟩
        · rw [cells_norm _ hwl]; exact within_wide hf S7.sl S7.wi
        · rw [hDi] at hD'
          cases hD'
          rw [cells_norm _ hwl, pick_wide hf S7.sl] at hl
          exact hl
      intro ys H6 s6 hW6 hy hR'
      obtain ⟨as, rfl, has⟩ := refs_of hR'
      have lasD : as.length = Ds.length := by rw [← hy, List.length_map]
      have hlt6 := s6 _ _ hlt5
      refine ⟨_, rfl, lt, L, rfl, SqT.of hlt6, hok.each, _, rfl, RgOk.of_le (by omega) (by have := hok.size; omega) (by omega) (by omega), fun S hS => ?_⟩
      rw [rgV_tn]
      have s7 : Same H6 (upd H6 S (.lst (tn (List.range (sz L))))) := Same.new hS
      have hS7 : (upd H6 S (.lst (tn (List.range (sz L))))) S = some (.lst (tn (List.range (sz L)))) := upd_same
      generalize upd H6 S (.lst (tn (List.range (sz L)))) = H7 at s7 hS7
      have s07 : Same H H7 := (s05.trans s6).trans s7
      refine ⟨_, rfl, htb.ext s07, fun fa c' H8 e8 nn8 tb8 f0 hf8 hc8 => ⟨[.ref d, .ref W, .ref S], rfl, fun cs hcs cap => ?_⟩⟩
      have x78 : Ext H7 H8 := ⟨e8, nn8⟩
      have x08 : Ext H H8 := (Ext.of s07).trans x78
      have ls8 : ∀ b xs, H7 b = some (.lst xs) → H8 b = some (.lst xs) := fun b xs h => e8 b _ h (fun _ z => by cases z)
      have ov : ∀ b o, H8 b = some o → over cs H8 b = some o := fun b o h => by
        cases z : cs b with
        | none => rw [over_out z]; exact h
        | some u => rw [(hcs b u z).1] at h; cases h
      have ovn : ∀ b, over cs H8 b = none → cs b = none ∧ H8 b = none := fun b h => by
        cases z : cs b with
        | none => rw [over_out z] at h; exact ⟨rfl, h⟩
        | some u => rw [over_in z] at h; cases h
      have rooms8 : ∀ r ∈ rs2, ∃ n w pl c s, RmO K (over cs H8) r n w pl c s := fun r hr => by
        obtain ⟨n, w, pl, c, s', dx, h⟩ := hrs2 r hr
        exact ⟨n, w, pl, c, s', dx, ov _ _ (e8 _ _ (s7 _ _ (s6 _ _ h)) (fun _ z => by cases z))⟩
      have hW8 := ov _ _ (ls8 _ _ (s7 _ _ hW6))
      have hS8 := ov _ _ (ls8 _ _ hS7)
      have hrows8 : RowsZ (over cs H8) as (Ds.map fun D : SD => wideN L D.ls D.row) := ⟨by rw [lasD, List.length_map], fun i a r e1 e2 => by
        rw [List.getElem?_map] at e2
        cases z : Ds[i]? with
        | none => rw [z] at e2; cases e2
        | some D =>
          rw [z] at e2
          cases e2
          exact ov _ _ (ls8 _ _ (s7 _ _ ((has i a e1).1 D z)))⟩
      obtain ⟨qz, cz, oz, g0⟩ : ∃ q cl c, LamG fa (FL q s_lam_together0 cl c) (lamBody s_lam_together0) ["deed", "rows", "spots"] [.ref d, .ref W, .ref S] (over cs H8) := ⟨_, _, _, lamG_of (ov _ _ hf8) (ov _ _ hc8) cap⟩
      refine ⟨R0, fa, rs2, LamG fa (FL qz s_lam_together0 cz oz) (lamBody s_lam_together0) ["deed", "rows", "spots"] [.ref d, .ref W, .ref S], spTogL P w K mg base kd d W S, fun v H2 => ∃ l', v = .ref l' ∧ over cs H8 l' = none ∧ H2 l' = some (.lst (ti (togOut f L Ds))), rfl,
        ov _ _ (ls8 _ _ (s7 _ _ (s6 _ _ hR5))), hrs2l, by omega, rooms8, act_together T kd, fun H1 Q' sh hq' => ?_, fun v H2 H3 hR3 e1 e2 hcs3 => ?_⟩
      · refine ⟨g0.keep (fun a φ h => sh.extO h) (fun b ob h => sh.frz h), rfl, as, Ds.map (fun D : SD => wideN L D.ls D.row), sz L, f, G, sp, sh.list hW8, ⟨hrows8.1, fun i a r a1 a2 => sh.list (hrows8.2 i a r a1 a2)⟩, by rw [List.length_map]; exact h12, fun r hr => ?_, sh.list hS8, by have := hok.size; omega, by rw [List.length_map]; exact hd, ?_, fun l H' s' hl0 hl => hq' _ _ s' ⟨l, rfl, sh.free hl0, hl⟩⟩
        · obtain ⟨D, _, rfl⟩ := List.mem_map.mp hr
          exact wideN_len _ _ _
        · refine hd.stay _ _ hG fun a φ h => sh.extO (ov _ _ (x08.n _ _ h (fun _ z => by cases z)))
      · obtain ⟨l', rfl, hl0, hl2⟩ := hR3
        obtain ⟨cl', hl8⟩ := ovn _ hl0
        have nrs : l' ∉ rs2 := fun z => by
          obtain ⟨n, w, pl, c, s', dx, h⟩ := rooms8 l' z
          rw [hl0] at h; cases h
        have hl3 : less cs H3 l' = some (.lst (ti (togOut f L Ds))) := by rw [less_out cl', e1 _ nrs]; exact hl2
        have s89 : Same H8 (less cs H3) := fun b o h => by
          have h2 := e2 b o (ov b o h)
          cases z : cs b with
          | none => rw [less_out z]; exact h2
          | some u => rw [(hcs b u z).1] at h; cases h
        generalize less cs H3 = H9 at hl3 s89
        have x09 : Ext H H9 := x08.trans (Ext.of s89)
        have hlt9 : H9 lt = some (.tup (tn L)) := s89 _ _ (e8 _ _ (s7 _ _ hlt6) (fun _ z => by cases z))
        have tb9 : Tbs K H9 := tb8.ext s89
        refine ⟨_, rfl, _, rfl, lt, l', L, togOut f L Ds, rfl, hlt9, hl3, outN_len _ _ _, hok, fun v H10 s10 nv => ?_⟩
        have x010 : Ext H H10 := x09.trans (Ext.of s10)
        have tb10 : Tbs K H10 := tb9.ext s10
        refine ⟨_, rfl, rfl, _, rfl, iteF ?_⟩
        obtain ⟨r, vb, vss, Gf, a1, a2, a3, a4, a5, a6⟩ := nv
        have hwi : Within (cells L vb vss) (togOut f L Ds).length := by
          have e : (togOut f L Ds).length = sz L := outN_len _ _ _
          rw [a3, e]
          exact within_range _
        have hsm : (togOut f L Ds).length ≤ 20000 := by
          have e : (togOut f L Ds).length = sz L := outN_len _ _ _
          have := hok.size
          omega
        refine ⟨_, rfl, _, rfl, t, v, r, d0, e0, LT, L, b0, vb, ss0, vss, togOut f L Ds, rfl, G0.ext x010, ⟨a1, a4.r, a2, hok, hwi, hsm⟩, fitT, fun H11 d' e' Wr => ⟨_, rfl, q H11 d' e' ?_ (tb10.wrote (G0.ext x010).sy Wr)⟩⟩
        have ep : pick (togOut f L Ds) (cells LT vb (wst LT L vss)) = wideN LT L (togOut f L Ds) := by
          have e : (togOut f L Ds).length = sz L := outN_len _ _ _
          rw [pick_wide fitT a2, a3, ← e, pick_range]
        rw [← ep]
        exact (WroteT.ofE G0.sy x010).trans (WroteT.of Wr)
end
end VG
-- VgAlong
set_option Elab.async false
set_option linter.all false
set_option maxRecDepth 100000
set_option maxHeartbeats 4000000
namespace VG
open PySem PySem.Spec PyProof.Rows L2 LamX NdefX
section
variable {P : Program} {w : World} {K : PySem.W.Frag} {mg : Str → Option Value} {base : Heap}
theorem ok_together (T : Tx K mg) (kd : Nat) (tb : TbB K mg base) : Def P w K mg base (kd + 9) "together" ["deed", "views", "into"] [V.non] (spTogether P w K mg base kd) := by
  obtain ⟨fd, F⟩ := f_together T
  obtain ⟨ds, h1, h2⟩ := b_together1 F
  exact ⟨⟨_, fd, ds, fn_together T kd tb F, g_together T, F.kp, h2, h1⟩⟩
theorem okw_together (T : Tx K mg) (kd : Nat) (tb : TbB K mg base) : DefK P w K mg base (kd + 9) "together" ["deed", "views", "into"] 2 ["into"] (fun vs zs => vs ++ zs) (spTogether P w K mg base kd) := by
  obtain ⟨fd, F⟩ := f_together T
  obtain ⟨g, h⟩ := b_together2 F
  exact ⟨⟨_, fd, g, fn_together T kd tb F, g_together T, F.kp, h⟩⟩
/-- the other sides -/
def oth (L : List Nat) (at_ : Nat) : List Nat := L.take at_ ++ L.drop (at_ + 1)
def spOthers : Sp := fun vs H Q _ => ∃ (la : Addr) (L : List Nat) (at_ : Nat), vs = [.ref la, .int (at_ : Int)] ∧ H la = some (.tup (tn L)) ∧ L.length ≤ 5 ∧ ∀ t H', Same H H' → H' t = some (.tup (tn (oth L at_))) → Q (.ref t) H'
theorem ok_others_of (T : Tx K mg) : Def P w K mg base 1 "others_of" ["lengths", "at"] [] spOthers := by
  refine Def.mk0 (f_others_of T) (g_others_of T) sc_others_of (fun _ _ _ _ _ _ us hl => match us, hl with | [_, _], _ => rfl) (fun vs H Q E h => ?_) (fun cdv A outer s H vs Q E hr h => ?_)
  · obtain ⟨la, L, at_, rfl, _⟩ := h; rfl
  · obtain ⟨la, L, at_, rfl, hla, h5, q⟩ := h
    refine ⟨_, (pss_one (ps_ret (pe_op (op_catK (K := K) rfl) (pe_slice (sl_TK (K := K) rfl) (pv 0) po_none (po_some (pv 1))) (pe_slice (sl_TK (K := K) rfl) (pv 0) (po_some (pe_op op_add (pv 1) pe_int)) po_none)))), ?_⟩
    refine ⟨_, rfl, _, rfl, _, rfl, q_slT hla fun p H1 s1 hp => ?_⟩
    rw [cut_to] at hp
    refine ⟨_, rfl, _, rfl, _, _, rfl, rfl, _, rfl, ?_⟩
    have ea : ((at_ : Int) + 1) = ((at_ + 1 : Nat) : Int) := by omega
    rw [ea]
    dsimp only [tNoPart]
    refine q_slT (s1 _ _ hla) fun p2 H2 s2 hp2 => ?_
    rw [cut_from] at hp2
    refine q_cat (s2 _ _ hp) hp2 (by rw [List.length_take, List.length_drop, tn_len]; omega) fun t H3 s3 ht => ?_
    refine q t H3 ((s1.trans s2).trans s3) ?_
    rw [ht]
    unfold oth tn
    rw [List.map_append, List.map_take, List.map_drop]
/-- a place of the other sides and a spot -/
def ins (q : List Nat) (at_ k : Nat) : List Nat := q.take at_ ++ [k] ++ q.drop at_
theorem inb_take : ∀ (m : Nat) {p L : List Nat}, Inb p L → Inb (p.take m) (L.take m)
  | 0, _, _, _ => trivial
  | m + 1, [], [], _ => trivial
  | m + 1, _ :: _, _ :: _, h => ⟨h.1, inb_take m h.2⟩
  | m + 1, [], _ :: _, h => h.elim
  | m + 1, _ :: _, [], h => h.elim
theorem inb_app : ∀ {p L p2 L2 : List Nat}, Inb p L → Inb p2 L2 → Inb (p ++ p2) (L ++ L2)
  | [], [], _, _, _, h => h
  | _ :: _, _ :: _, _, _, h, g => ⟨h.1, inb_app h.2 g⟩
  | [], _ :: _, _, _, h, _ => h.elim
  | _ :: _, [], _, _, h, _ => h.elim
theorem inb_ins : ∀ {L : List Nat} {at_ n k : Nat} {q : List Nat}, Inb q (oth L at_) → L[at_]? = some n → k < n → Inb (ins q at_ k) L
  | [], at_, _, _, _, _, h, _ => by simp at h
  | l :: L, 0, n, k, q, hq, h, hk => by
    simp [oth] at hq
    simp at h
    subst h
    exact ⟨hk, by simpa [ins] using hq⟩
  | l :: L, at_ + 1, n, k, [], hq, _, _ => by simp [oth, Inb] at hq
  | l :: L, at_ + 1, n, k, a :: q, hq, h, hk => by
    have hq2 : a < l ∧ Inb q (oth L at_) := by simpa [oth, Inb] using hq
    have ih := inb_ins (L := L) (at_ := at_) hq2.2 (by simpa using h) hk
    have e : ins (a :: q) (at_ + 1) k = a :: ins q at_ k := by simp [ins]
    rw [e]
    exact ⟨hq2.1, ih⟩
/-- the rows along a side -/
def alongN (L : List Nat) (at_ : Nat) (xs : List Int) : List (List Int) := (places (oth L at_)).map fun q => (List.range (L.getD at_ 0)).map fun k => xs.getD (idx L (ins q at_ k)) 0
theorem oth_okl {L : List Nat} {at_ : Nat} (hl : L.length ≤ 5) (he : ∀ l ∈ L, l ≤ 600) : (oth L at_).length ≤ 5 ∧ ∀ l ∈ oth L at_, l ≤ 600 := by
  refine ⟨?_, fun l h => ?_⟩
  · unfold oth; rw [List.length_append, List.length_take, List.length_drop]; omega
  · unfold oth at h
    rcases List.mem_append.mp h with z | z
    · exact he l (List.mem_of_mem_take z)
    · exact he l (List.mem_of_mem_drop z)
theorem alongN_at {L : List Nat} {at_ : Nat} {xs : List Int} {i : Nat} {q : List Nat} (h : (places (oth L at_))[i]? = some q) : (alongN L at_ xs)[i]? = some ((List.range (L.getD at_ 0)).map fun k => xs.getD (idx L (ins q at_ k)) 0) := by
  unfold alongN
  rw [List.getElem?_map, h]
  rfl
theorem at_pick {ns : List Int} {L p : List Nat} {b : Int} {ss : List Int} (h : Inb p L) : at0 ns (cellAt b ss p) = (pick ns (cells L b ss)).getD (idx L p) 0 := by
  unfold pick
  rw [List.getD_eq_getElem?_getD, List.getElem?_map, cells_idx h]
  rfl
def spAlong (K : PySem.W.Frag) : Sp := fun vs H Q _ => ∃ (v r : Addr) (L : List Nat) (b : Int) (ss ns : List Int) (at_ : Nat), vs = [.ref v, .int (at_ : Int)] ∧ Src K H v r ns L b ss ∧ at_ < L.length ∧ sz (oth L at_) ≤ 600 ∧
  ∀ l as H', Same H H' → H' l = some (.lst (as.map V.ref)) → RowsZ H' as (alongN L at_ (pick ns (cells L b ss))) → Q (.ref l) H'
theorem ok_along (T : Tx K mg) : Def P w K mg base 6 "along" ["view", "at"] [] (spAlong K) := by
  refine Def.mk0 (f_along T) (g_along T) sc_along (fun _ _ _ _ _ _ us hl => match us, hl with | [_, _], _ => rfl) (fun vs H Q E h => ?_) (fun cdv A outer s H vs Q E hr h => ?_)
  · obtain ⟨v, r, L, b, ss, ns, at_, rfl, _⟩ := h; rfl
  · obtain ⟨v, r, L, b, ss, ns, at_, rfl, S0, hat, hso, q⟩ := h
    obtain ⟨la0, sa0, ⟨dx, h1⟩, h2, h3⟩ := id S0.vw
    have h5 := S0.ok.len
    refine ⟨_, (pss_cons (ps_set (i := 2) sc_along.nd rfl (Or.inl rfl) (pe_m0K (K := K) (P := P) (w := w) (mg := mg) (base := base) ((ok_View_sides T).mono (by omega)) (cl_View T) rfl rfl rfl rfl rfl hr (pv 0)))
    (pss_cons (ps_set (i := 3) sc_along.nd rfl (Or.inr rfl) (pe_listRg rfl (by rfl) (z_list T) (prg_1 (by rfl) (z_range T) (pe_ix (ix_K (K := K) rfl) (pv 2) (pv 1) (fun _ _ => rfl)))))
    (pss_cons (ps_set (i := 4) sc_along.nd rfl (Or.inl rfl) (pe_fK (K := K) (P := P) (w := w) (mg := mg) (base := base) ((ok_places_of T).mono (by omega)) rfl rfl rfl rfl rfl hr (by rfl) (pa_cons (pe_fK (K := K) (P := P) (w := w) (mg := mg) (base := base) ((ok_others_of T).mono (by omega)) rfl rfl rfl rfl rfl hr (by rfl) (pa_cons (pv 2) (pa_cons (pv 1) pa_nil))) pa_nil)))
    (pss_one (ps_ret (pe_lc (own := [("place", 6)]) (tt := tYes) rfl sc_along.nd (pi_listK (K := K) rfl (pv 4)) (blkOk_by (own := [("place", 6)]) (sc := defScope s_along) (N := n_along) (by decide +kernel)) (fun _ _ _ _ _ => (pg_name (i := 6) sc_along.nd rfl (by first | exact Or.inl rfl | exact Or.inr rfl))) (fun _ _ _ _ _ => pts_nil) (fun _ _ _ _ _ => (pe_lc (own := [("spot", 5)]) (tt := tYes) rfl sc_along.nd (pi_listK (K := K) rfl (pv 3)) (blkOk_by (own := [("spot", 5)]) (N := n_along) (by rfl)) (fun _ _ _ _ _ => (pg_name (i := 5) sc_along.nd rfl (by first | exact Or.inl rfl | exact Or.inr rfl))) (fun _ _ _ _ _ => pts_nil) (fun _ _ _ _ _ => (pe_mK (K := K) (P := P) (w := w) (mg := mg) (base := base) ((ok_View_at T).mono (by omega)) (cl_View T) rfl rfl rfl rfl rfl hr (pv 0) (pa_cons (pe_op (op_catK (K := K) rfl) (pe_op (op_catK (K := K) rfl) (pe_slice (sl_TK (K := K) rfl) (pv 6) po_none (po_some (pv 1))) (pe_tup (pa_cons (pv 5) pa_nil))) (pe_slice (sl_TK (K := K) rfl) (pv 6) (po_some (pv 1)) po_none)) pa_nil))))))))))), ?_⟩
    refine ⟨_, rfl, v, dx, _, rfl, h1, view_no (by decide) (by decide) (by decide) (by decide), v, r, L, b, ss, rfl, S0.vw, fun la hla => ?_⟩
    have hn : L[at_]? = some (L.getD at_ 0) := by rw [List.getD_eq_getElem?_getD, List.getElem?_eq_getElem hat]; rfl
    have hn6 := S0.ok.each _ (List.mem_of_getElem? hn)
    generalize hnn : L.getD at_ 0 = n at hn hn6
    refine ⟨_, rfl, _, rfl, q_ixT hla (tn_get hn) ⟨_, rfl, RgOk.of_le (by omega) (by omega) (by omega) (by omega), fun sp hsp => ?_⟩⟩
    rw [rgV_tn]
    have s1 : Same H (upd H sp (.lst (tn (List.range n)))) := Same.new hsp
    have sp1 : (upd H sp (.lst (tn (List.range n)))) sp = some (.lst (tn (List.range n))) := upd_same
    generalize upd H sp (.lst (tn (List.range n))) = H1 at s1 sp1
    refine ⟨_, rfl, _, rfl, la, L, at_, rfl, s1 _ _ hla, h5, fun t H2 s2 ht => ?_⟩
    have ho := oth_okl (at_ := at_) h5 S0.ok.each
    refine ⟨t, oth L at_, rfl, SqT.of ht, ho.1, ho.2, by omega, fun pl H3 s3 hpl ⟨as, hpl1, tps⟩ => ?_⟩
    have s03 := (s1.trans s2).trans s3
    have sp3 := s3 _ _ (s2 _ _ sp1)
    refine ⟨_, rfl, pl, rfl, ⟨_, SqL.of hpl1⟩, fun D hD => ?_⟩
    refine lc_new (walk_refs tps.len) (by rw [places_len]; omega) hD (fun i y H => ∃ a, y = V.ref a ∧ (∀ r, (alongN L at_ (pick ns (cells L b ss)))[i]? = some r → H a = some (.lst (ti r))) ∧ a ≠ D) (fun H4 s4 => SqL.of (s4 _ _ hpl1)) (fun i y H H' bt ⟨a, e1, e2, e3⟩ => ⟨a, e1, fun r hr => bt _ _ e3 (e2 r hr), e3⟩) ?_ ?_
    · rintro i x H4 H5 Kt hi s4 ⟨acc, hacc⟩ ⟨rfl, pa, hpa, rfl⟩ kt
      obtain ⟨pq, hpq, hpt⟩ := tps.get hpa
      have hin := mem_places.mp (List.mem_of_getElem? hpq)
      have hpt4 := s4 _ _ hpt
      have hrow := alongN_at (xs := pick ns (cells L b ss)) hpq
      rw [hnn] at hrow
      refine ⟨rfl, _, rfl, sp, rfl, ⟨_, SqL.of (s4 _ _ sp3)⟩, fun D2 hD2 => ?_⟩
      have wk : Walk (Itl K sp) n (fun H => SqL K H sp (tn (List.range n))) (fun i H x H' => H' = H ∧ x = .int ((i : Nat) : Int)) := by
        have w1 := walk_list (K := K) (a := sp) (xs := tn (List.range n))
        rw [tn_len, List.length_range] at w1
        refine w1.mono (fun _ q => q) fun i H x H' hi _ y => ⟨y.1, ?_⟩
        obtain ⟨m, hm, rfl⟩ := tn_at y.2
        rw [List.getElem?_range hi] at hm
        cases hm
        rfl
      refine lc_new wk (by omega) hD2 (fun j y _ => ∃ k : Int, ((List.range n).map fun k => (pick ns (cells L b ss)).getD (idx L (ins pq at_ k)) 0)[j]? = some k ∧ y = .int k) (fun H6 s6 => SqL.of (s6 _ _ (s4 _ _ sp3))) (fun _ _ _ _ _ h => h) ?_ ?_
      · rintro j x H6 H7 Kt2 hj s6 hacc2 ⟨rfl, rfl⟩ kt2
        have hi2 := inb_ins hin hn hj
        have s06 := (s03.trans s4).trans s6
        have S6 := S0.same s06
        obtain ⟨la6, sa6, ⟨dx6, g1⟩, g2, g3⟩ := id S6.vw
        have hp6 := s6 _ _ hpt4
        have hpl5 := hin.len
        refine ⟨rfl, _, rfl, v, dx6, _, rfl, g1, view_no (by decide) (by decide) (by decide) (by decide), _, rfl, _, rfl, _, rfl, q_slT hp6 fun p1 H8 s8 hp1 => ?_⟩
        rw [cut_to] at hp1
        refine ⟨_, rfl, sz_ok (by show 1 ≤ 100000; decide), fun p2 hp2 => ?_⟩
        have s9 : Same H8 (upd H8 p2 (.tup [.int ((j : Nat) : Int)])) := Same.new hp2
        refine q_cat (s9 _ _ hp1) upd_same (by rw [List.length_take, tn_len]; show _ + 1 ≤ 100000; omega) fun p3 H10 s10 hp3 => ?_
        refine ⟨_, rfl, _, rfl, _, rfl, ?_⟩
        dsimp only [tNoPart]
        refine q_slT (s10 _ _ (s9 _ _ (s8 _ _ hp6))) fun p4 H11 s11 hp4 => ?_
        rw [cut_from] at hp4
        refine q_cat (s11 _ _ hp3) hp4 (by rw [List.length_append, List.length_take, List.length_drop, tn_len]; show _ + 1 + _ ≤ 100000; omega) fun p5 H12 s12 hp5 => ?_
        have s612 := (((s8.trans s9).trans s10).trans s11).trans s12
        have S12 := S6.same s612
        have e5 : (tn pq).take at_ ++ [V.int ((j : Nat) : Int)] ++ (tn pq).drop at_ = tn (ins pq at_ j) := by
          unfold ins tn
          rw [List.map_append, List.map_append, List.map_take, List.map_drop]
          rfl
        rw [e5] at hp5
        refine ⟨v, r, L, b, ss, p5, ins pq at_ j, ns, rfl, S12.vw, S12.ok, S12.sl, hp5, hi2, S12.rm, S12.wi, fun H13 s13 => kt2 _ _ (s612.trans s13) ⟨_, ?_, rfl⟩⟩
        rw [List.getElem?_map, List.getElem?_range hj, at_pick hi2]
        rfl
      · intro ys H6 s6 hD6 hy hR
        have e := ys_ti (p := (List.range n).map fun k => (pick ns (cells L b ss)).getD (idx L (ins pq at_ k)) 0) (by rw [hy, List.length_map, List.length_range]) hR
        subst e
        exact kt _ _ s6 ⟨D2, rfl, fun r hr => by rw [hrow] at hr; cases hr; exact hD6, (ne_of_none hacc hD2).symm⟩
    · intro ys H4 s4 hD4 hy hR
      obtain ⟨bs, rfl, hbs⟩ := refs_of hR
      refine q D bs H4 (s03.trans s4) hD4 ⟨?_, fun i a r e1 e2 => (hbs i a e1).1 r e2⟩
      rw [List.length_map] at hy
      rw [hy]
      unfold alongN
      rw [List.length_map]
end
end VG
-- VgLaid
set_option Elab.async false
set_option linter.all false
set_option maxRecDepth 100000
set_option maxHeartbeats 4000000
namespace VG
open PySem PySem.Spec PyProof.Rows L2 LamX NdefX
section
variable {P : Program} {w : World} {K : PySem.W.Frag} {mg : Str → Option Value} {base : Heap}
theorem inb_oth {p L : List Nat} (at_ : Nat) (h : Inb p L) : Inb (oth p at_) (oth L at_) := inb_app (inb_take at_ h) (inb_drop (at_ + 1) h)
/-- rows laid along a side -/
def laidN (L : List Nat) (at_ : Nat) (rows : List (List Int)) : List Int := (places L).map fun p => (rows.getD (idx (oth L at_) (oth p at_)) []).getD (p.getD at_ 0) 0
theorem inb_at : ∀ {p L : List Nat} {at_ : Nat}, Inb p L → at_ < L.length → p[at_]? = some (p.getD at_ 0) ∧ p.getD at_ 0 < L.getD at_ 0
  | [], [], _, _, h => by simp at h
  | a :: p, l :: L, 0, h, _ => ⟨rfl, h.1⟩
  | a :: p, l :: L, at_ + 1, h, k => by
    have ih := inb_at (at_ := at_) h.2 (by simpa using k)
    simpa using ih
  | [], _ :: _, _, h, _ => h.elim
  | _ :: _, [], _, h, _ => h.elim
theorem NewV.back {H0 H1 H : Hp} {v : Addr} {ls : List Nat} {ns : List Int} (nv : NewV K H1 H v ls ns) (s : Same H0 H1) : NewV K H0 H v ls ns := by
  obtain ⟨r, b, ss, G, h1, h2, h3, h4, h5, h6⟩ := nv
  exact ⟨r, b, ss, G, h1, h2, h3, h4, fun x g => s.free (h5 x g), s.free h6⟩
def spLaid (K : PySem.W.Frag) : Sp := fun vs H Q _ => ∃ (la rl : Addr) (L : List Nat) (at_ : Nat) (as : List Addr) (rows : List (List Int)), vs = [.ref la, .int (at_ : Int), .ref rl] ∧ H la = some (.tup (tn L)) ∧ H rl = some (.lst (as.map V.ref)) ∧ RowsZ H as rows ∧ (0 < sz L → rows.length = sz (oth L at_) ∧ ∀ r ∈ rows, r.length = L.getD at_ 0) ∧ at_ < L.length ∧ Okl L ∧
  ∀ v H', Same H H' → NewV K H H' v L (laidN L at_ rows) → Q (.ref v) H'
theorem ok_laid_along (T : Tx K mg) : Def P w K mg base 8 "laid_along" ["lengths", "at", "rows"] [] (spLaid K) := by
  refine Def.mk0 (f_laid_along T) (g_laid_along T) sc_laid_along (fun _ _ _ _ _ _ us hl => match us, hl with | [_, _, _], _ => rfl) (fun vs H Q E h => ?_) (fun cdv A outer s H vs Q E hr h => ?_)
  · obtain ⟨la, rl, L, at_, as, rows, rfl, _⟩ := h; rfl
  · obtain ⟨la, rl, L, at_, as, rows, rfl, hla, hrl, hrows, hrnz, hat, hok, q⟩ := h
    have h5 := hok.len
    have hsz := hok.size
    refine ⟨_, (pss_cons (ps_set (i := 3) sc_laid_along.nd rfl (Or.inr rfl) (pe_fK (K := K) (P := P) (w := w) (mg := mg) (base := base) ((ok_others_of T).mono (by omega)) rfl rfl rfl rfl rfl hr (by rfl) (pa_cons (pv 0) (pa_cons (pv 1) pa_nil))))
    (pss_one (ps_ret (pe_fK (K := K) (P := P) (w := w) (mg := mg) (base := base) ((ok_new_view T).mono (by omega)) rfl rfl rfl rfl rfl hr (by rfl) (pa_cons (pv 0) (pa_cons (pe_lc (own := [("place", 4)]) (tt := tYes) rfl sc_laid_along.nd (pi_listK (K := K) rfl (pe_fK (K := K) (P := P) (w := w) (mg := mg) (base := base) ((ok_places_of T).mono (by omega)) rfl rfl rfl rfl rfl hr (by rfl) (pa_cons (pv 0) pa_nil))) (blkOk_by (own := [("place", 4)]) (sc := defScope s_laid_along) (N := n_laid_along) (by decide +kernel)) (fun _ _ _ _ _ => (pg_name (i := 4) sc_laid_along.nd rfl (by first | exact Or.inl rfl | exact Or.inr rfl))) (fun _ _ _ _ _ => pts_nil) (fun _ _ _ _ _ => (pe_ix (ix_K (K := K) rfl) (pe_ix (ix_K (K := K) rfl) (pv 2) (pe_fK (K := K) (P := P) (w := w) (mg := mg) (base := base) ((ok_number_of T).mono (by omega)) rfl rfl rfl rfl rfl hr (by rfl) (pa_cons (pv 3) (pa_cons (pe_op (op_catK (K := K) rfl) (pe_slice (sl_TK (K := K) rfl) (pv 4) po_none (po_some (pv 1))) (pe_slice (sl_TK (K := K) rfl) (pv 4) (po_some (pe_op op_add (pv 1) pe_int)) po_none)) pa_nil))) (fun _ _ => rfl)) (pe_ix (ix_K (K := K) rfl) (pv 4) (pv 1) (fun _ _ => rfl)) (fun _ _ => rfl)))) pa_nil)))))), ?_⟩
    refine ⟨_, rfl, _, rfl, la, L, at_, rfl, hla, h5, fun t H1 s1 ht => ?_⟩
    have ho := oth_okl (at_ := at_) h5 hok.each
    have hla1 := s1 _ _ hla
    refine ⟨_, rfl, _, rfl, la, L, rfl, SqT.of hla1, h5, hok.each, by omega, fun pl H2 s2 hpl ⟨bs, hpl1, tps⟩ => ?_⟩
    have s02 := s1.trans s2
    refine ⟨pl, rfl, ⟨_, SqL.of hpl1⟩, fun D hD => ?_⟩
    refine lc_new (walk_refs tps.len) (by rw [places_len]; omega) hD (fun i y _ => ∃ k : Int, (laidN L at_ rows)[i]? = some k ∧ y = .int k) (fun H3 s3 => SqL.of (s3 _ _ hpl1)) (fun _ _ _ _ _ h => h) ?_ ?_
    · rintro i x H3 H4 Kt hi s3 hacc ⟨rfl, pa, hpa, rfl⟩ kt
      obtain ⟨p, hpq, hpt⟩ := tps.get hpa
      have hin := mem_places.mp (List.mem_of_getElem? hpq)
      have hpt3 := s3 _ _ hpt
      obtain ⟨hrn, hrz⟩ := hrnz (by have := idx_lt hin; omega)
      have hrl3 := s3 _ _ (s02 _ _ hrl)
      have ho2 := inb_oth at_ hin
      have hlt := idx_lt ho2
      refine ⟨rfl, _, rfl, _, rfl, _, rfl, _, rfl, _, rfl, q_slT hpt3 fun p1 H5 s5 hp1 => ?_⟩
      rw [cut_to] at hp1
      refine ⟨_, rfl, _, rfl, _, _, rfl, rfl, _, rfl, ?_⟩
      have ea : ((at_ : Int) + 1) = ((at_ + 1 : Nat) : Int) := by omega
      rw [ea]
      dsimp only [tNoPart]
      refine q_slT (s5 _ _ hpt3) fun p2 H6 s6 hp2 => ?_
      rw [cut_from] at hp2
      refine q_cat (s6 _ _ hp1) hp2 (by rw [List.length_take, List.length_drop, tn_len]; have := hin.len; omega) fun p3 H7 s7 hp3 => ?_
      have e3 : (tn p).take at_ ++ (tn p).drop (at_ + 1) = tn (oth p at_) := by
        unfold oth tn
        rw [List.map_append, List.map_take, List.map_drop]
      rw [e3] at hp3
      have s37 := ((s3.trans s5).trans s6).trans s7
      refine ⟨t, p3, oth L at_, oth p at_, rfl, s37 _ _ (s2 _ _ ht), hp3, ho2, ho.1, ho.2, fun H8 s8 => ?_⟩
      have s38 := s37.trans s8
      have s08 := s02.trans s38
      have hi8 : idx (oth L at_) (oth p at_) < rows.length := by omega
      have hr8 : rows[idx (oth L at_) (oth p at_)]? = some (rows.getD (idx (oth L at_) (oth p at_)) []) := by
        rw [List.getD_eq_getElem?_getD, List.getElem?_eq_getElem hi8]; rfl
      generalize hrr : rows.getD (idx (oth L at_) (oth p at_)) [] = r at hr8
      obtain ⟨a, ha⟩ : ∃ a, as[idx (oth L at_) (oth p at_)]? = some a := ⟨as[idx (oth L at_) (oth p at_)]'(by rw [hrows.1]; exact hi8), by simp [show idx (oth L at_) (oth p at_) < as.length by rw [hrows.1]; exact hi8]⟩
      have hra := s08 _ _ (hrows.2 _ a r ha hr8)
      obtain ⟨hpa1, hpa2⟩ := inb_at hin hat
      refine q_ixL (i := idx (oth L at_) (oth p at_)) (SqL.of (s08 _ _ hrl)) (by rw [List.getElem?_map, ha]; rfl) ⟨_, rfl, _, rfl, q_ixT (s38 _ _ hpt) (tn_get hpa1) ?_⟩
      have hrl8 := hrz r (List.mem_of_getElem? hr8)
      have hri : r[p.getD at_ 0]? = some (r.getD (p.getD at_ 0) 0) := by
        have hlt2 : p.getD at_ 0 < r.length := by rw [hrl8]; exact hpa2
        generalize p.getD at_ 0 = k at hlt2
        rw [List.getD_eq_getElem?_getD, List.getElem?_eq_getElem hlt2]; rfl
      refine q_ixL (i := p.getD at_ 0) (SqL.of hra) (ti_get hri) (kt _ _ (((s5.trans s6).trans s7).trans s8) ⟨r.getD (p.getD at_ 0) 0, ?_, rfl⟩)
      unfold laidN
      rw [List.getElem?_map, hpq, ← hrr]
      rfl
    · intro ys H3 s3 hD3 hy hR
      have e := ys_ti (p := laidN L at_ rows) (by rw [hy]; unfold laidN; rw [List.length_map]) hR
      subst e
      have s03 := s02.trans s3
      refine ⟨la, D, L, laidN L at_ rows, rfl, s03 _ _ hla, hD3, by unfold laidN; rw [List.length_map, places_len], hok, fun v H4 s4 nv => q v H4 (s03.trans s4) ?_⟩
      exact nv.back s03
/-- a row folded -/
def scanN (f : List Int → Int) : Int → List Int → List Int
  | _, [] => []
  | a, y :: ys => f [a, y] :: scanN f (f [a, y]) ys
def runN (f : List Int → Int) : List Int → List Int
  | [] => []
  | x :: xs => x :: scanN f x xs
theorem scanN_len (f : List Int → Int) : ∀ (a : Int) (xs : List Int), (scanN f a xs).length = xs.length
  | _, [] => rfl
  | a, y :: ys => by show (scanN f (f [a, y]) ys).length + 1 = _; rw [scanN_len]; rfl
theorem runN_len (f : List Int → Int) : ∀ xs : List Int, (runN f xs).length = xs.length
  | [] => rfl
  | x :: xs => by show (scanN f x xs).length + 1 = _; rw [scanN_len]; rfl
theorem scanN_step (f : List Int → Int) : ∀ (a : Int) (xs : List Int) (i : Nat) (y : Int), xs[i]? = some y → ∀ z, (a :: scanN f a xs)[i]? = some z → (a :: scanN f a xs).take (i + 2) = (a :: scanN f a xs).take (i + 1) ++ [f [z, y]]
  | a, [], i, y, h, _, _ => by simp at h
  | a, x :: xs, 0, y, h, z, hz => by
    simp at h hz
    subst h hz
    simp [scanN]
  | a, x :: xs, i + 1, y, h, z, hz => by
    have ih := scanN_step f (f [a, x]) xs i y (by simpa using h) z (by simpa [scanN] using hz)
    show a :: (f [a, x] :: scanN f (f [a, x]) xs).take (i + 2) = a :: (f [a, x] :: scanN f (f [a, x]) xs).take (i + 1) ++ [f [z, y]]
    rw [ih]
    rfl
def spRunRow (P : Program) (w : World) (K : PySem.W.Frag) (mg : Str → Option Value) (base : Heap) (kd : Nat) : Sp := fun vs H Q _ => ∃ (d rl : Addr) (xs : List Int) (f : List Int → Int) (G : Hp → Prop) (sp : Sp), vs = [.ref d, .ref rl] ∧ H rl = some (.lst (ti xs)) ∧ xs.length ≤ 600 ∧ Deed P w K mg base kd d 2 f G sp ∧ G H ∧
  ∀ l H', Same H H' → H l = none → H' l = some (.lst (ti (runN f xs))) → Q (.ref l) H'
theorem ok_run_row (T : Tx K mg) (kd : Nat) : Def P w K mg base (kd + 1) "run_row" ["deed", "row"] [] (spRunRow P w K mg base kd) := by
  refine Def.mk0 (f_run_row T) (g_run_row T) sc_run_row (fun _ _ _ _ _ _ us hl => match us, hl with | [_, _], _ => rfl) (fun vs H Q E h => ?_) (fun cdv A outer s H vs Q E hr h => ?_)
  · obtain ⟨d, rl, xs, f, G, sp, rfl, _⟩ := h; rfl
  · obtain ⟨d, rl, xs, f, G, sp, rfl, hrl, hn, hd, hG, q⟩ := h
    refine ⟨_, (pss_cons (ps_set (i := 2) sc_run_row.nd rfl (Or.inl rfl) (pe_slice (sl_LK (K := K) rfl) (pv 1) po_none (po_some pe_int)))
    (pss_cons (ps_for PassesOwn.never rfl (pi_listK (K := K) rfl (pe_slice (sl_LK (K := K) rfl) (pv 1) (po_some pe_int) po_none)) (pg_name (i := 3) sc_run_row.nd rfl (Or.inl rfl))
    (pss_one (ps_expr (pe_bmK (K := K) rfl PySem.F.plainAttrs_list PySem.F.slot_list_append PySem.F.type_list_append mt_append (pv 2) (pa_cons (pe_act (K := K) (P := P) (w := w) (mg := mg) (base := base) (k := kd) (i := 0) rfl rfl rfl rfl rfl hr rfl (by first | exact Or.inl rfl | exact Or.inr (Or.inl rfl) | exact Or.inr (Or.inr rfl)) (pa_cons (pe_ix (ix_K (K := K) rfl) (pv 2) (pe_un un_neg pe_int) (fun _ _ => rfl)) (pa_cons (pv 3) pa_nil))) pa_nil)))))
    (pss_one (ps_ret (pv 2))))), ?_⟩
    have e1 : cutV (ti xs) none (some (1 : Int)) = (ti xs).take 1 := cut_to 1
    have e2 : cutV (ti xs) (some (1 : Int)) none = (ti xs).drop 1 := cut_from 1
    refine ⟨_, rfl, _, rfl, rl, ti xs, rfl, SqL.of hrl, fun fl hfl => ?_⟩
    rw [e1]
    have s1 : Same H (upd H fl (.lst ((ti xs).take 1))) := Same.new hfl
    have hf1 : (upd H fl (.lst ((ti xs).take 1))) fl = some (.lst ((ti xs).take 1)) := upd_same
    generalize upd H fl (.lst ((ti xs).take 1)) = H1 at s1 hf1
    refine ⟨_, rfl, _, rfl, ?_⟩
    dsimp only [tNoPart]
    refine ⟨rl, ti xs, rfl, SqL.of (s1 _ _ hrl), fun tl htl => ?_⟩
    rw [e2]
    have s2 : Same H1 (upd H1 tl (.lst ((ti xs).drop 1))) := Same.new htl
    have ht2 : (upd H1 tl (.lst ((ti xs).drop 1))) tl = some (.lst ((ti xs).drop 1)) := upd_same
    generalize upd H1 tl (.lst ((ti xs).drop 1)) = H2 at s2 ht2
    have hf2 := s2 _ _ hf1
    have s02 := s1.trans s2
    have dr : (ti xs).drop 1 = ti (xs.drop 1) := by unfold ti; rw [List.map_drop]
    have tk : (ti xs).take 1 = ti ((runN f xs).take 1) := by
      unfold ti
      cases xs with
      | nil => rfl
      | cons x xs => rfl
    rw [dr] at ht2
    rw [tk] at hf2
    have nft : tl ≠ fl := (ne_of_none hf1 htl).symm
    refine ⟨tl, rfl, ⟨_, SqL.of ht2⟩, ?_⟩
    refine for_it (D := { nx := tRet (tVar 2) { nx := fun _ H' => Q V.non H', rt := Q }, rt := Q }) (walk_list (K := K) (a := tl) (xs := ti (xs.drop 1))) (fun i σ H3 => But fl H2 H3 ∧ H3 fl = some (.lst (ti ((runN f xs).take (i + 1)))) ∧ ∃ u, σ = [some (.ref d), some (.ref rl), some (.ref fl), u]) ⟨Same.but fl (Same.refl H2), hf2, none, rfl⟩ (fun i σ H3 _ h => ?_) ?_ ?_
    · exact SqL.of (h.1 _ _ nft ht2)
    · rintro i x σ H4 H3 hi ⟨bt, hf3, u, rfl⟩ ⟨rfl, hx⟩
      rw [ti_len, List.length_drop] at hi
      obtain ⟨x0, rest, rfl⟩ : ∃ x0 rest, xs = x0 :: rest := by
        cases xs with
        | nil => simp at hi
        | cons a b => exact ⟨a, b, rfl⟩
      obtain ⟨y, hy, rfl⟩ := ti_at hx
      have hy2 : rest[i]? = some y := hy
      have hir : i < rest.length := by simpa using hi
      have hlt : i < (runN f (x0 :: rest)).length := by rw [runN_len]; simp; omega
      obtain ⟨z, hz⟩ : ∃ z, (runN f (x0 :: rest))[i]? = some z := ⟨_, List.getElem?_eq_getElem hlt⟩
      have hst := scanN_step f x0 rest i y hy2 z hz
      have hlz : ((runN f (x0 :: rest)).take (i + 1)).length = i + 1 := by rw [List.length_take]; omega
      have hG3 : G H3 := hd.stay _ _ hG fun a φ e => bt a _ (ne_of_none e hfl) (s02 a _ e)
      refine ⟨_, rfl, .inl ⟨rfl, _, SqL.of hf3⟩, d, G, sp, rfl, hd.act, hG3, _, rfl, _, rfl, ?_⟩
      have ez : atI (ti ((runN f (x0 :: rest)).take (i + 1))) (-1) = some (.int z) := by
        refine atI_back (i := 0) ?_
        unfold ti
        rw [← List.map_reverse, List.getElem?_map, List.getElem?_reverse (by rw [hlz]; omega), hlz]
        show ((((runN f (x0 :: rest)).take (i + 1))[i + 1 - 1 - 0]?).map V.int) = some (V.int z)
        rw [List.getElem?_take_of_lt (by omega)]
        show (((runN f (x0 :: rest))[i]?).map V.int) = some (V.int z)
        rw [hz]
        rfl
      refine .inl ⟨fl, _, _, _, rfl, rfl, SqL.of hf3, ez, _, rfl, hG3, hd.ans [z, y] _ _ rfl ?_⟩
      refine ⟨fl, _, _, rfl, rfl, hf3, sz_lt (by rw [ti_len, hlz]; simp at hn; omega), ?_⟩
      refine ⟨fun b o n e => by rw [upd_ne n]; exact bt b o n e, ?_, _, rfl⟩
      have e9 : (runN f (x0 :: rest)).take (i + 1 + 1) = (runN f (x0 :: rest)).take (i + 1) ++ [f [z, y]] := hst
      rw [upd_same, e9]; unfold ti; rw [List.map_append]
      rfl
    · rintro σ H3 ⟨bt, hf3, u, rfl⟩
      refine ⟨_, rfl, q fl H3 ?_ hfl ?_⟩
      · exact But.same hfl ((Same.but fl s02).trans bt)
      · rw [hf3, ti_len, List.length_drop, List.take_of_length_le (by rw [runN_len]; omega)]
end
end VG
-- VgRun
set_option Elab.async false
set_option linter.all false
set_option maxRecDepth 100000
set_option maxHeartbeats 4000000
namespace VG
open PySem PySem.Spec PyProof.Rows L2 LamX NdefX
section
variable {P : Program} {w : World} {K : PySem.W.Frag} {mg : Str → Option Value} {base : Heap}
theorem cr_lenViewK {X : Cx} {k : Nat} (T : Tx K mg) (h1 : X.prog = P) (h2 : X.w = w) (h3 : X.K = K) (h4 : X.mg = mg) (h5 : X.base = base) (hk : 2 ≤ k) (hr : L2.Room (k + 1) X.A) : CallR X (.builtin "len") (rLenOwn (He.ga K "View") (spVLen K)) := by
  subst h1 h2 h3 h4 h5
  obtain ⟨f, fd, F, hm, hb⟩ := ((ok_View_len (P := X.prog) (w := X.w) (base := X.base) T).mono hk).ex
  exact cr_lenOwn hm F hb hr
def spRunL (P : Program) (w : World) (K : PySem.W.Frag) (mg : Str → Option Value) (base : Heap) (kd : Nat) (d rl : Addr) : Sp := fun vs H Q _ => vs = [] ∧ ∃ (as : List Addr) (rows : List (List Int)) (f : List Int → Int) (G : Hp → Prop) (sp : Sp),
  H rl = some (.lst (as.map V.ref)) ∧ RowsZ H as rows ∧ rows.length ≤ 600 ∧ (∀ r ∈ rows, r.length ≤ 600) ∧ Deed P w K mg base kd d 2 f G sp ∧ G H ∧
  ∀ l bs H', Same H H' → H l = none → H' l = some (.lst (bs.map V.ref)) → RowsZ H' bs (rows.map (runN f)) → (∀ b ∈ bs, H b = none) → Q (.ref l) H'
theorem act_running (T : Tx K mg) (kd : Nat) {q : Str} {cl : List (Str × Addr)} {c f d rl : Addr} :
    Act P w K mg base (kd + 3) f (LamG f (FL q s_lam_running0 cl c) (lamBody s_lam_running0) ["deed", "rows"] [.ref d, .ref rl]) (spRunL P w K mg base kd d rl) := by
  refine act_lam (ps := []) sc_lam_running0 (fun _ _ us hl => match us, hl with | [], _ => rfl) (fun vs H Q E h => by rw [h.1]; rfl) (fun A outer s H cs vs Q hr g hs h => ?_)
  obtain ⟨rfl, as, rows, fn, G, sp, hrl, ⟨hal, hrows⟩, hn, hln, hd, hG, q⟩ := h
  refine ⟨_, (pe_lc (own := [("row", 2)]) (tt := tYes) rfl sc_lam_running0.nd (pi_listK (K := K) rfl (pv 1)) (blkOk_by (own := [("row", 2)]) (sc := lamScope s_lam_running0) (N := n_lam_running0) (by decide +kernel)) (fun _ _ _ _ _ => (pg_name (i := 2) sc_lam_running0.nd rfl (by first | exact Or.inl rfl | exact Or.inr rfl))) (fun _ _ _ _ _ => pts_nil) (fun _ _ _ _ _ => (pe_fK (K := K) (P := P) (w := w) (mg := mg) (base := base) ((ok_run_row T kd).mono (show kd + 1 ≤ kd + 2 by omega)) rfl rfl rfl rfl rfl hr (by rfl) (pa_cons (pv 0) (pa_cons (pv 2) pa_nil))))), ?_⟩
  have rl1 := less_keep hs hrl (by intro ob z; cases z)
  have rows1 : ∀ (i : Nat) a r, as[i]? = some a → rows[i]? = some r → less cs H a = some (.lst (ti r)) := fun i a r e1 e2 => less_keep hs (hrows i a r e1 e2) (by intro ob z; cases z)
  have hG1 : G (less cs H) := hd.stay _ _ hG fun a φ e => less_keep hs e (by intro ob z; cases z)
  have ln : ∀ b, less cs H b = none → (∀ o, cs b ≠ some o) → H b = none := fun b e n => by
    cases z : cs b with
    | some u => exact absurd z (n u)
    | none => rw [less_out z] at e; exact e
  generalize hH1 : less cs H = H1 at rl1 rows1 hG1 ln
  refine ⟨_, rfl, rl, rfl, ⟨_, SqL.of rl1⟩, fun D hD => ?_⟩
  refine lc_new (walk_refs hal) (by omega) hD (fun i y H => ∃ a, y = V.ref a ∧ (∀ r, rows[i]? = some r → H a = some (.lst (ti (runN fn r)))) ∧ H1 a = none ∧ a ≠ D) (fun H3 s3 => SqL.of (s3 _ _ rl1)) (fun i y H H' bt ⟨a, e1, e2, e3, e4⟩ => ⟨a, e1, fun r hr => bt _ _ e4 (e2 r hr), e3, e4⟩) ?_ ?_
  · rintro i x H3 H4 Kt hi s3 ⟨acc, hacc⟩ ⟨rfl, a, ha, rfl⟩ kt
    obtain ⟨r, hr'⟩ : ∃ r, rows[i]? = some r := ⟨rows[i]'(by omega), by simp [show i < rows.length by omega]⟩
    have hra := s3 _ _ (rows1 i a r ha hr')
    refine ⟨rfl, _, rfl, _, rfl, d, a, r, fn, G, sp, rfl, hra, hln r (List.mem_of_getElem? hr'), hd, hd.stay _ _ hG1 (fun a φ e => s3 _ _ e), fun l H5 s5 hl0 hl => kt _ _ s5 ⟨l, rfl, fun r' hr2 => ?_, s3.free hl0, (ne_of_none hacc hl0).symm⟩⟩
    rw [hr'] at hr2
    cases hr2
    exact hl
  · intro ys H3 s3 hD3 hy hR nc
    obtain ⟨bs, rfl, hbs⟩ := refs_of (Pr := fun i a => (∀ r, rows[i]? = some r → H3 a = some (.lst (ti (runN fn r)))) ∧ H1 a = none ∧ a ≠ D) hR
    have lbs : bs.length = rows.length := by rw [← hy, List.length_map]
    have cD : cs D = none := over_new nc hD3
    have hrz : ∀ (i : Nat) a r, bs[i]? = some a → rows[i]? = some r → H3 a = some (.lst (ti (runN fn r))) := fun i a r e1 e2 => (hbs i a e1).1 r e2
    refine q D bs _ (over_same hs (by rw [hH1]; exact s3)) (ln D hD (by rw [cD]; intro o z; cases z)) (by rw [over_out cD]; exact hD3) ⟨by rw [List.length_map, lbs], fun i a r e1 e2 => ?_⟩ fun b hb => ?_
    · rw [List.getElem?_map] at e2
      cases z : rows[i]? with
      | none => rw [z] at e2; cases e2
      | some r0 =>
        rw [z] at e2
        cases e2
        have h3 := hrz i a r0 e1 z
        rw [over_out (over_new nc h3)]
        exact h3
    · obtain ⟨i, hi⟩ := List.getElem?_of_mem hb
      obtain ⟨r0, hr0⟩ : ∃ r, rows[i]? = some r := by
        have := (List.getElem?_eq_some_iff.mp hi).1
        exact ⟨rows[i]'(by omega), by simp [show i < rows.length by omega]⟩
      have h3 := hrz i b r0 hi hr0
      exact ln b (hbs i b hi).2.1 (by rw [over_new nc h3]; intro o z; cases z)
/-- what running answers -/
def runningN (f : List Int → Int) (L : List Nat) (at_ : Nat) (row : List Int) : List Int := laidN L at_ ((alongN L at_ row).map (runN f))
theorem sz_oth_le : ∀ {L : List Nat} {at_ : Nat}, 0 < sz L → at_ < L.length → sz (oth L at_) ≤ sz L
  | [], _, _, h => by simp at h
  | l :: L, 0, h, _ => by
    have e : oth (l :: L) 0 = L := by simp [oth]
    rw [e]
    show sz L ≤ l * sz L
    have hl : 0 < l := Nat.pos_of_ne_zero fun z => by rw [z] at h; exact absurd h (by show ¬ 0 < 0 * sz L; rw [Nat.zero_mul]; omega)
    exact Nat.le_mul_of_pos_left _ hl
  | l :: L, at_ + 1, h, k => by
    have e : oth (l :: L) (at_ + 1) = l :: oth L at_ := by simp [oth]
    rw [e]
    show l * sz (oth L at_) ≤ l * sz L
    have h2 : 0 < sz L := Nat.pos_of_ne_zero fun z => by
      have h3 : 0 < l * sz L := h
      rw [z, Nat.mul_zero] at h3; omega
    exact Nat.mul_le_mul_left _ (sz_oth_le h2 (by simpa using k))
def spRunning (P : Program) (w : World) (K : PySem.W.Frag) (mg : Str → Option Value) (base : Heap) (kd : Nat) : Sp := fun vs H Q _ => ∃ (v r d : Addr) (L : List Nat) (b : Int) (ss ns : List Int) (at_ : Nat) (f : List Int → Int) (G : Hp → Prop) (sp : Sp), vs = [.ref v, .ref d, .int (at_ : Int)] ∧
  Src K H v r ns L b ss ∧ at_ < L.length ∧ Deed P w K mg base kd d 2 f G sp ∧ G H ∧ Tbs K H ∧ ∀ x H', Ext H H' → Tbs K H' → NewV K H H' x L (runningN f L at_ (pick ns (cells L b ss))) → Q (.ref x) H'
theorem fn_running (T : Tx K mg) (kd : Nat) (tb : TbB K mg base) {fd : FuncData} (F : FunR K d_running fd) : FnOk P w K mg base CX0 (kd + 9) (He.fAd K d_running.at_) fd ["view", "deed", "side"] (spRunning P w K mg base kd) := by
  have hp : (("running", none) : He.Defn) ∈ tf := by decide +kernel
  refine fn_okC (p := ("running", none)) F sc_running (fun vs H Q E h => ?_) (fun cdv A outer s H vs Q E hcd hr h => ?_)
  · obtain ⟨v, r, d, L, b, ss, ns, at_, f, G, sp, rfl, _⟩ := h; rfl
  · obtain ⟨v, r, d, L, b, ss, ns, at_, f, G, sp, rfl, S0, hat, hd, hG, htb, q⟩ := h
    subst hcd
    have hsh : Def P w K mg base (kd + 5) "asked_shut" ["rooms", "deed"] [] (spShut P w K mg base (kd + 3) 1) := (ok_asked_shut T (kd + 3) 1).mono (by omega)
    refine ⟨_, (pss_cons (ps_set (i := 3) sc_running.nd rfl (Or.inl rfl) (pe_fK (K := K) (P := P) (w := w) (mg := mg) (base := base) ((ok_side_of T).mono (by omega)) rfl rfl rfl rfl rfl hr (by rfl) (pa_cons (pv 2) (pa_cons (pe_callB (call_lenK (K := K) rfl) (by rfl) (z_len T) (by decide +kernel) (pa_cons (pe_m0K (K := K) (P := P) (w := w) (mg := mg) (base := base) ((ok_View_sides T).mono (by omega)) (cl_View T) rfl rfl rfl rfl rfl hr (pv 0)) pa_nil)) pa_nil))))
    (pss_cons (ps_set (i := 4) sc_running.nd rfl (Or.inr rfl) (pe_ifExp (pt_cmpR op_gt (pe_callB (cr_lenViewK (k := kd + 7) T rfl rfl rfl rfl rfl (by omega) hr) (by rfl) (z_len T) (by decide +kernel) (pa_cons (pv 0) pa_nil)) pe_int (nomark _)) (pe_fK (K := K) (P := P) (w := w) (mg := mg) (base := base) ((ok_along T).mono (by omega)) rfl rfl rfl rfl rfl hr (by rfl) (pa_cons (pv 0) (pa_cons (pv 3) pa_nil))) (pe_lst pa_nil)))
    (pss_cons (ps_set (i := 5) sc_running.nd rfl (Or.inl rfl) (pe_cap (fr := ["deed", "rows"]) (js := [1, 4]) (hsh.mono (show kd + 5 ≤ kd + 8 by omega)) hr (by rfl) (fun ok => Caps.made (scope := lamScope s_lam_running0) ok (ndef_free (sc := defScope s_running) (nsc := lamScope s_lam_running0) (fr := ["deed", "rows"]) (by decide +kernel)) (ndef_fr (sc := defScope s_running) (nsc := lamScope s_lam_running0) (fr := ["deed", "rows"]) (by decide +kernel)) rfl) (fun _ => rfl) (pa_cons (pe_lst (pa_cons (pe_m0K (K := K) (P := P) (w := w) (mg := mg) (base := base) ((ok_View_room T).mono (by omega)) (cl_View T) rfl rfl rfl rfl rfl hr (pv 0)) pa_nil)) (pa_cons (pe_lam (Ps := PsT K) (nm := nmL) (tb _ hp) rfl (List.mem_map.mpr ⟨_, hp, rfl⟩) (by kernel_rfl) (ndef_free (sc := defScope s_running) (nsc := lamScope s_lam_running0) (fr := ["deed", "rows"]) (by decide +kernel))) pa_nil))))
    (pss_one (ps_ret (pe_fK (K := K) (P := P) (w := w) (mg := mg) (base := base) ((ok_laid_along T).mono (by omega)) rfl rfl rfl rfl rfl hr (by rfl) (pa_cons (pe_m0K (K := K) (P := P) (w := w) (mg := mg) (base := base) ((ok_View_sides T).mono (by omega)) (cl_View T) rfl rfl rfl rfl rfl hr (pv 0)) (pa_cons (pv 3) (pa_cons (pv 5) pa_nil))))))))), ?_⟩
    obtain ⟨la0, sa0, ⟨dx, h1⟩, h2, h3⟩ := id S0.vw
    refine ⟨_, rfl, _, rfl, v, dx, _, rfl, h1, view_no (by decide) (by decide) (by decide) (by decide), v, r, L, b, ss, rfl, S0.vw, fun la hla => ⟨la, _, rfl, .inr (SqT.of hla), ?_⟩⟩
    rw [tn_len]
    refine ⟨at_, L.length, rfl, hat, ?_⟩
    refine ⟨_, rfl, v, dx, _, rfl, h1, v, r, L, b, ss, rfl, S0.vw, S0.ok, fun H1 s1 => ⟨sz L, rfl, by have := S0.ok.size; omega, ?_⟩⟩
    have S1 := S0.same s1
    by_cases hz : 0 < sz L
    · refine ⟨_, _, rfl, rfl, _, rfl, ?_⟩
      rw [show decide ((0 : Int) < ((sz L : Nat) : Int)) = true from decide_eq_true (by omega)]
      have hso := sz_oth_le hz hat
      have hok6 := S0.ok.size
      refine iteT ⟨_, rfl, _, rfl, v, r, L, b, ss, ns, at_, rfl, S1, hat, by omega, fun rl as H2 s2 hrl hrows => ?_⟩
      obtain ⟨rows, hrw⟩ : ∃ rows, rows = alongN L at_ (pick ns (cells L b ss)) := ⟨_, rfl⟩
      rw [← hrw] at hrows
      have s02 := s1.trans s2
      have hlen : 0 < sz L → rows.length = sz (oth L at_) ∧ ∀ r ∈ rows, r.length = L.getD at_ 0 := fun _ => by
        rw [hrw]
        unfold alongN
        refine ⟨by rw [List.length_map, places_len], fun r hr => ?_⟩
        obtain ⟨q, _, rfl⟩ := List.mem_map.mp hr
        rw [List.length_map, List.length_range]
      have hn6 : rows.length ≤ 600 := by rw [(hlen hz).1]; omega
      have hn7 : ∀ r ∈ rows, r.length ≤ 600 := fun r hr => by
        rw [(hlen hz).2 r hr]
        refine S0.ok.each _ ?_
        rw [List.getD_eq_getElem?_getD, List.getElem?_eq_getElem hat]
        exact List.getElem_mem hat
      have hlaid : laidN L at_ (rows.map (runN f)) = runningN f L at_ (pick ns (cells L b ss)) := by rw [hrw]; rfl
      have S2 := S0.same s02
      obtain ⟨la2, sa2, ⟨dx2, g1⟩, g2, g3⟩ := id S2.vw
      refine ⟨_, rfl, v, dx2, _, rfl, g1, view_no (by decide) (by decide) (by decide) (by decide), v, r, L, b, ss, rfl, S2.vw, sz_ok (by show 1 ≤ 100000; decide), fun R0 hR0 => ?_⟩
      have s7 : Same H2 (upd H2 R0 (.lst [.ref r])) := Same.new hR0
      have hR7 : (upd H2 R0 (.lst [.ref r])) R0 = some (.lst ([r].map V.ref)) := upd_same
      generalize upd H2 R0 (.lst [.ref r]) = H7 at s7 hR7
      have s07 : Same H H7 := s02.trans s7
      refine ⟨htb.ext s07, fun fa c' H8 e8 nn8 tb8 f0 hf8 hc8 => ⟨[.ref d, .ref rl], rfl, fun cs hcs cap => ?_⟩⟩
      have x78 : Ext H7 H8 := ⟨e8, nn8⟩
      have x08 : Ext H H8 := (Ext.of s07).trans x78
      have ls8 : ∀ b xs, H7 b = some (.lst xs) → H8 b = some (.lst xs) := fun b xs h => e8 b _ h (fun _ z => by cases z)
      have ov : ∀ b o, H8 b = some o → over cs H8 b = some o := fun b o h => by
        cases z : cs b with
        | none => rw [over_out z]; exact h
        | some u => rw [(hcs b u z).1] at h; cases h
      have ovn : ∀ b, over cs H8 b = none → cs b = none ∧ H8 b = none := fun b h => by
        cases z : cs b with
        | none => rw [over_out z] at h; exact ⟨rfl, h⟩
        | some u => rw [over_in z] at h; cases h
      have rooms8 : ∀ r' ∈ [r], ∃ n w pl c s, RmO K (over cs H8) r' n w pl c s := fun r' hr' => by
        rw [List.mem_singleton.mp hr']
        obtain ⟨wd, pl, c, s', ps, ks, hd', h⟩ := S2.rm
        obtain ⟨rx, hro⟩ := h.ob
        exact ⟨_, _, _, _, _, rx, ov _ _ (e8 _ _ (s7 _ _ hro) (fun _ z => by cases z))⟩
      have hrl8 := ov _ _ (ls8 _ _ (s7 _ _ hrl))
      have hrows8 : RowsZ (over cs H8) as rows := ⟨hrows.1, fun i a x e1 e2 => ov _ _ (ls8 _ _ (s7 _ _ (hrows.2 i a x e1 e2)))⟩
      obtain ⟨qz, cz, oz, g0⟩ : ∃ q cl c, LamG fa (FL q s_lam_running0 cl c) (lamBody s_lam_running0) ["deed", "rows"] [.ref d, .ref rl] (over cs H8) := ⟨_, _, _, lamG_of (ov _ _ hf8) (ov _ _ hc8) cap⟩
      refine ⟨R0, fa, [r], LamG fa (FL qz s_lam_running0 cz oz) (lamBody s_lam_running0) ["deed", "rows"] [.ref d, .ref rl], spRunL P w K mg base kd d rl, fun y H2 => ∃ l' bs, y = .ref l' ∧ over cs H8 l' = none ∧ H2 l' = some (.lst (bs.map V.ref)) ∧ RowsZ H2 bs (rows.map (runN f)) ∧ ∀ b ∈ bs, over cs H8 b = none, rfl,
        ov _ _ (ls8 _ _ hR7), rfl, by omega, rooms8, act_running T kd, fun H1 Q' sh hq' => ?_, fun y H2 H3 hR3 e1 e2 hcs3 => ?_⟩
      · refine ⟨g0.keep (fun a φ h => sh.extO h) (fun b ob h => sh.frz h), rfl, as, rows, f, G, sp, sh.list hrl8, ⟨hrows8.1, fun i a x a1 a2 => sh.list (hrows8.2 i a x a1 a2)⟩, hn6, hn7, hd, ?_, fun l bs H' s' hl0 hl hbs hb0 => hq' _ _ s' ⟨l, bs, rfl, sh.free hl0, hl, hbs, fun b hb => sh.free (hb0 b hb)⟩⟩
        refine hd.stay _ _ hG fun a φ h => sh.extO (ov _ _ (x08.n _ _ h (fun _ z => by cases z)))
      · obtain ⟨l', bs, rfl, hl0, hl2, hrz2, hb0⟩ := hR3
        have nrs : ∀ b, over cs H8 b = none → b ∉ [r] := fun b hb z => by
          obtain ⟨n, w, pl, c, s', dx, h⟩ := rooms8 b z
          rw [hb] at h; cases h
        have back : ∀ b o, over cs H8 b = none → H2 b = some o → less cs H3 b = some o := fun b o hb h => by
          rw [less_out (ovn b hb).1, e1 _ (nrs b hb)]; exact h
        have hl3 := back _ _ hl0 hl2
        have hrz3 : RowsZ (less cs H3) bs (rows.map (runN f)) := ⟨hrz2.1, fun i a x a1 a2 => back _ _ (hb0 a (List.mem_of_getElem? a1)) (hrz2.2 i a x a1 a2)⟩
        have s89 : Same H8 (less cs H3) := fun b o h => by
          have h2 := e2 b o (ov b o h)
          cases z : cs b with
          | none => rw [less_out z]; exact h2
          | some u => rw [(hcs b u z).1] at h; cases h
        generalize less cs H3 = H9 at hl3 hrz3 s89
        have x09 : Ext H H9 := x08.trans (Ext.of s89)
        have S9 := S0.ext x09
        obtain ⟨la9, sa9, ⟨dx9, k1⟩, k2, k3⟩ := id S9.vw
        refine ⟨_, rfl, v, dx9, _, rfl, k1, view_no (by decide) (by decide) (by decide) (by decide), v, r, L, b, ss, rfl, S9.vw, fun la' hla' => ?_⟩
        refine ⟨_, rfl, _, rfl, la', l', L, at_, bs, rows.map (runN f), rfl, hla', hl3, hrz3, fun hz => ?_, hat, S0.ok, fun x H10 s10 nv => ?_⟩
        · rw [List.length_map]
          exact ⟨(hlen hz).1, fun x hx => by
            obtain ⟨y, hy, rfl⟩ := List.mem_map.mp hx
            rw [runN_len]
            exact (hlen hz).2 y hy⟩
        have x010 : Ext H H10 := x09.trans (Ext.of s10)
        have tb9 : Tbs K H9 := tb8.ext s89
        refine q x H10 x010 (tb9.ext s10) ?_
        rw [← hlaid]
        obtain ⟨r1, b1, ss1, G1, a1, a2, a3, a4, a5, a6⟩ := nv
        exact ⟨r1, b1, ss1, G1, a1, a2, a3, a4, fun y hy => x09.there _ (a5 y hy), x09.there _ a6⟩
    · refine ⟨_, _, rfl, rfl, _, rfl, ?_⟩
      rw [show decide ((0 : Int) < ((sz L : Nat) : Int)) = false from decide_eq_false (by omega)]
      refine iteF ⟨sz_ok (Nat.zero_le _), fun rl hrl0 => ?_⟩
      have hz0 : sz L = 0 := by omega
      have s2 : Same H1 (upd H1 rl (.lst [])) := Same.new hrl0
      have hrl : (upd H1 rl (.lst [])) rl = some (.lst (([] : List Addr).map V.ref)) := upd_same
      generalize upd H1 rl (.lst []) = H2 at s2 hrl
      have s02 := s1.trans s2
      obtain ⟨as, has⟩ : ∃ as : List Addr, as = [] := ⟨_, rfl⟩
      obtain ⟨rows, hrw⟩ : ∃ rows : List (List Int), rows = [] := ⟨_, rfl⟩
      rw [← has] at hrl
      have hrows : RowsZ H2 as rows := by rw [has, hrw]; exact ⟨rfl, fun i a x e => by simp at e⟩
      have hlen : 0 < sz L → rows.length = sz (oth L at_) ∧ ∀ r ∈ rows, r.length = L.getD at_ 0 := fun z => absurd z hz
      have hn6 : rows.length ≤ 600 := by rw [hrw]; simp
      have hn7 : ∀ r ∈ rows, r.length ≤ 600 := fun r hr => by rw [hrw] at hr; cases hr
      have hlaid : laidN L at_ (rows.map (runN f)) = runningN f L at_ (pick ns (cells L b ss)) := by unfold runningN laidN; rw [places_zero hz0]; rfl
      have S2 := S0.same s02
      obtain ⟨la2, sa2, ⟨dx2, g1⟩, g2, g3⟩ := id S2.vw
      refine ⟨_, rfl, v, dx2, _, rfl, g1, view_no (by decide) (by decide) (by decide) (by decide), v, r, L, b, ss, rfl, S2.vw, sz_ok (by show 1 ≤ 100000; decide), fun R0 hR0 => ?_⟩
      have s7 : Same H2 (upd H2 R0 (.lst [.ref r])) := Same.new hR0
      have hR7 : (upd H2 R0 (.lst [.ref r])) R0 = some (.lst ([r].map V.ref)) := upd_same
      generalize upd H2 R0 (.lst [.ref r]) = H7 at s7 hR7
      have s07 : Same H H7 := s02.trans s7
      refine ⟨htb.ext s07, fun fa c' H8 e8 nn8 tb8 f0 hf8 hc8 => ⟨[.ref d, .ref rl], rfl, fun cs hcs cap => ?_⟩⟩
      have x78 : Ext H7 H8 := ⟨e8, nn8⟩
      have x08 : Ext H H8 := (Ext.of s07).trans x78
      have ls8 : ∀ b xs, H7 b = some (.lst xs) → H8 b = some (.lst xs) := fun b xs h => e8 b _ h (fun _ z => by cases z)
      have ov : ∀ b o, H8 b = some o → over cs H8 b = some o := fun b o h => by
        cases z : cs b with
        | none => rw [over_out z]; exact h
        | some u => rw [(hcs b u z).1] at h; cases h
      have ovn : ∀ b, over cs H8 b = none → cs b = none ∧ H8 b = none := fun b h => by
        cases z : cs b with
        | none => rw [over_out z] at h; exact ⟨rfl, h⟩
        | some u => rw [over_in z] at h; cases h
      have rooms8 : ∀ r' ∈ [r], ∃ n w pl c s, RmO K (over cs H8) r' n w pl c s := fun r' hr' => by
        rw [List.mem_singleton.mp hr']
        obtain ⟨wd, pl, c, s', ps, ks, hd', h⟩ := S2.rm
        obtain ⟨rx, hro⟩ := h.ob
        exact ⟨_, _, _, _, _, rx, ov _ _ (e8 _ _ (s7 _ _ hro) (fun _ z => by cases z))⟩
      have hrl8 := ov _ _ (ls8 _ _ (s7 _ _ hrl))
      have hrows8 : RowsZ (over cs H8) as rows := ⟨hrows.1, fun i a x e1 e2 => ov _ _ (ls8 _ _ (s7 _ _ (hrows.2 i a x e1 e2)))⟩
      obtain ⟨qz, cz, oz, g0⟩ : ∃ q cl c, LamG fa (FL q s_lam_running0 cl c) (lamBody s_lam_running0) ["deed", "rows"] [.ref d, .ref rl] (over cs H8) := ⟨_, _, _, lamG_of (ov _ _ hf8) (ov _ _ hc8) cap⟩
      refine ⟨R0, fa, [r], LamG fa (FL qz s_lam_running0 cz oz) (lamBody s_lam_running0) ["deed", "rows"] [.ref d, .ref rl], spRunL P w K mg base kd d rl, fun y H2 => ∃ l' bs, y = .ref l' ∧ over cs H8 l' = none ∧ H2 l' = some (.lst (bs.map V.ref)) ∧ RowsZ H2 bs (rows.map (runN f)) ∧ ∀ b ∈ bs, over cs H8 b = none, rfl,
        ov _ _ (ls8 _ _ hR7), rfl, by omega, rooms8, act_running T kd, fun H1 Q' sh hq' => ?_, fun y H2 H3 hR3 e1 e2 hcs3 => ?_⟩
      · refine ⟨g0.keep (fun a φ h => sh.extO h) (fun b ob h => sh.frz h), rfl, as, rows, f, G, sp, sh.list hrl8, ⟨hrows8.1, fun i a x a1 a2 => sh.list (hrows8.2 i a x a1 a2)⟩, hn6, hn7, hd, ?_, fun l bs H' s' hl0 hl hbs hb0 => hq' _ _ s' ⟨l, bs, rfl, sh.free hl0, hl, hbs, fun b hb => sh.free (hb0 b hb)⟩⟩
        refine hd.stay _ _ hG fun a φ h => sh.extO (ov _ _ (x08.n _ _ h (fun _ z => by cases z)))
      · obtain ⟨l', bs, rfl, hl0, hl2, hrz2, hb0⟩ := hR3
        have nrs : ∀ b, over cs H8 b = none → b ∉ [r] := fun b hb z => by
          obtain ⟨n, w, pl, c, s', dx, h⟩ := rooms8 b z
          rw [hb] at h; cases h
        have back : ∀ b o, over cs H8 b = none → H2 b = some o → less cs H3 b = some o := fun b o hb h => by
          rw [less_out (ovn b hb).1, e1 _ (nrs b hb)]; exact h
        have hl3 := back _ _ hl0 hl2
        have hrz3 : RowsZ (less cs H3) bs (rows.map (runN f)) := ⟨hrz2.1, fun i a x a1 a2 => back _ _ (hb0 a (List.mem_of_getElem? a1)) (hrz2.2 i a x a1 a2)⟩
        have s89 : Same H8 (less cs H3) := fun b o h => by
          have h2 := e2 b o (ov b o h)
          cases z : cs b with
          | none => rw [less_out z]; exact h2
          | some u => rw [(hcs b u z).1] at h; cases h
        generalize less cs H3 = H9 at hl3 hrz3 s89
        have x09 : Ext H H9 := x08.trans (Ext.of s89)
        have S9 := S0.ext x09
        obtain ⟨la9, sa9, ⟨dx9, k1⟩, k2, k3⟩ := id S9.vw
        refine ⟨_, rfl, v, dx9, _, rfl, k1, view_no (by decide) (by decide) (by decide) (by decide), v, r, L, b, ss, rfl, S9.vw, fun la' hla' => ?_⟩
        refine ⟨_, rfl, _, rfl, la', l', L, at_, bs, rows.map (runN f), rfl, hla', hl3, hrz3, fun hz => ?_, hat, S0.ok, fun x H10 s10 nv => ?_⟩
        · rw [List.length_map]
          exact ⟨(hlen hz).1, fun x hx => by
            obtain ⟨y, hy, rfl⟩ := List.mem_map.mp hx
            rw [runN_len]
            exact (hlen hz).2 y hy⟩
        have x010 : Ext H H10 := x09.trans (Ext.of s10)
        have tb9 : Tbs K H9 := tb8.ext s89
        refine q x H10 x010 (tb9.ext s10) ?_
        rw [← hlaid]
        obtain ⟨r1, b1, ss1, G1, a1, a2, a3, a4, a5, a6⟩ := nv
        exact ⟨r1, b1, ss1, G1, a1, a2, a3, a4, fun y hy => x09.there _ (a5 y hy), x09.there _ a6⟩
end
end VG
-- VgDictT
set_option Elab.async false
set_option linter.all false
set_option maxRecDepth 100000
set_option maxHeartbeats 4000000
namespace VG
open PySem PySem.Spec PyProof.Rows L2
section
variable {X : Cx} {pins : List (Addr × Obj)} {σ : L2.St} {H : Hp} {s : Shared}
/-- one put, the key a tuple -/
theorem put_tup {E : Value → Shared → Prop} {D b : Addr} {ws : List (List Key × V)} {k : List Key} {z : V} {zr : Value} {Q : Unit → Shared → Prop} (units : X.A.units < cLine) (I : Inv X pins σ H s) (at_D : H D = some (.dT ws)) (at_b : H b = some (.tup (k.map kV))) (small : ws.length < sizeLine) (rz : RelV z zr)
    (goes : ∀ s', Inv X pins σ (upd H D (.dT (putK ws k z))) s' → Q () s') : wpAny (model X.prog X.w) X.A (dictSet D (.ref b) zr) Q E s := by
  obtain ⟨_, notmods, xs, both, dict⟩ := dt_of I.hok at_D
  have room : xs.length ≤ sizeLine := by rw [← Paired.length both]; omega
  have room2 : (putK ws k z).length ≤ sizeLine := by have := length_putK ws k z; omega
  refine wpAny_dictSet_heap (hsz := room) units (key_of I.hok at_b) dict fun h2 dict2 same => goes _ ?_
  obtain ⟨ob, es, ep, g1, g2, g3, g4, _, g5⟩ := dict2
  refine d_write I (by rw [at_D]; trivial) same ⟨ob, g1⟩ ⟨room2, notmods, _, (both.put k at_b rz).keeps fun c ys hc => ?_, ob, es, ep, g1, g2, g3, g4, g5⟩
  exact (upd_ne (ne_of hc at_D fun q => nomatch q)).trans hc
/-- one turn's end: the key, the number, the put -/
def tPutT (D : Addr) (tk tv : TE) (next : Hp → Prop) : L2.St → Hp → Prop := fun σ2 H3 => tk σ2 H3 fun y H4 => tv σ2 H4 fun z H5 => ∃ ws k b, y = .ref b ∧ H5 b = some (.tup (k.map kV)) ∧ H5 D = some (.dT ws) ∧ ws.length < sizeLine ∧ next (upd H5 D (.dT (putK ws k z)))
/-- one turn -/
def tTurnT (D : Addr) (g : TG) (tt : TT) (tk tv : TE) (σ : L2.St) (vs : List Nat) (next : Hp → Prop) (x : V) (H : Hp) : Prop :=
  g x (wipe σ vs) H fun σ2 H2 => wipe σ2 vs = wipe σ vs ∧ tt σ2 H2 fun yes H3 => if yes = true then tPutT D tk tv next σ2 H3 else next H3
/-- {k: v for target in iter if ..}, the keys tuples of ints and texts -/
def tDcT (wi : TI) (g : TG) (tt : TT) (tk tv : TE) (vs : List Nat) : TE := fun σ H Q => wi σ H fun J H1 => ∀ D, H1 D = none → ∃ W : Nat → Nat → Hp → Prop, (∃ m, W 0 m (upd H1 D (.dT []))) ∧
  ∀ i m H, W i m H → (J.stop i H ∧ Q (.ref D) H) ∨ (J.go i H ∧ ∃ Nx : Hp → Prop, (∀ H', Nx H' → ∃ m', m' < m ∧ W (i + 1) m' H') ∧ ∀ x H', J.yld i H x H' → tTurnT D g tt tk tv σ vs Nx x H')
variable {kx vx tg iter : Expr} {ifs : List Expr} {scope : Scope} {own : List (Str × Nat)} {pos : Pos} {wi : TI} {g : TG} {tt : TT} {tk tv : TE}
/-- a state of the loop, seen from the block -/
structure LoopAt (X : Cx) (fp : List Addr) (tn : Nat → Heap → Prop) (W : Nat → Nat → Hp → Prop) (τ : L2.St) (n : Nat) (s : Shared) : Prop where
  at_ : ∃ i H, Inv X [] τ H s ∧ tn i s.heap ∧ (∀ b ∈ fp, H b = none) ∧ W i n H
theorem pe_dcT (units : X.A.units < cLine) (hc : X.calm = true) (hN : X.N.Nodup) (hi : PI X tg iter wi) (ok : BlkOk X.N X.env.scope scope own)
    (hg : ∀ (s : Shared) (H : Hp) (C : Addr) (cl : List (Str × Addr)) (fp : List Addr), PG (X.blk s H scope (compEnvC scope cl C X.env) fp) tg g)
    (ht : ∀ (s : Shared) (H : Hp) (C : Addr) (cl : List (Str × Addr)) (fp : List Addr), PTs (X.blk s H scope (compEnvC scope cl C X.env) fp) ifs tt)
    (hk : ∀ (s : Shared) (H : Hp) (C : Addr) (cl : List (Str × Addr)) (fp : List Addr), PE (X.blk s H scope (compEnvC scope cl C X.env) fp) kx tk)
    (hv : ∀ (s : Shared) (H : Hp) (C : Addr) (cl : List (Str × Addr)) (fp : List Addr), PE (X.blk s H scope (compEnvC scope cl C X.env) fp) vx tv) (plain : ∀ x, foldedSetIterable iter X.env x = pure x := by intro _; rfl) :
    PE X (.DictComp kx vx [⟨tg, iter, ifs, 0⟩] scope pos) (tDcT wi g tt tk tv (own.map (·.2))) := by
  refine ⟨fun pins s σ H Q I h => ?_⟩
  rw [arm_eval_DictComp]
  have clo : ∀ y ∈ scope.names, y.2 = .free → ∃ c, X.env.cells.lookup y.1 = some c := fun y hy e => (ok.free y hy e).elim (fun z => I.ok.has _ (.inl z)) fun z => I.ok.has _ (.inr z)
  refine wpAny_comprehension_free rfl plain (closure_ok clo) ok.kind (fun y hy e => (ok.uniq y hy).trans (congrArg some e)) (thn (hi.run pins s σ H _ I h) fun xv s1 h1 => thn h1 fun itv s2 h2 => ?_)
  obtain ⟨it, fp, tn, J, H2, rfl, I2, T, st2, f2, q⟩ := h2
  refine wpAny_newObj_type (newEnv_comp ?_)
  -- the new dict D
  obtain ⟨D, hD⟩ : ∃ D, D = s2.heap.objs.size := ⟨_, rfl⟩
  rw [← hD]
  obtain ⟨W, ⟨m0, w0⟩, turn⟩ := q D (I2.hok.fresh (Nat.le_of_eq hD.symm))
  obtain ⟨s3, hs3⟩ : ∃ s3 : Shared, s3 = { s2 with heap := s2.heap.push { cls := .type "dict", data := .dict #[] } } := ⟨_, rfl⟩
  have eh : s3.heap = s2.heap.push { cls := .type "dict", data := .dict #[] } := by rw [hs3]
  have I3 : Inv X pins σ (upd H2 D (.dT [])) s3 := hs3 ▸
    I2.laid (t' := s2.toks) (fun b o e => Heap.get?_push_of_some _ e) (Nat.le_of_eq hD.symm) (hD ▸ dt_empty s2.heap I2.big)
  have old : ∀ b ∈ fp, b < s2.heap.objs.size := fun b hb => Heap.lt_size (T.obj _ _ st2 b hb).choose_spec.1
  have f3 : ∀ b ∈ fp, FpOk X pins (upd H2 D (.dT [])) b ∧ b < s3.heap.objs.size := fun b hb =>
    ⟨⟨(upd_ne (by rw [hD]; exact Nat.ne_of_lt (old b hb))).trans (f2 b hb).1, (f2 b hb).2⟩, by rw [eh, Heap.size_push]; exact Nat.lt_succ_of_lt (old b hb)⟩
  have I4 := block_start I3 ok hN f3
  generalize upd H2 D (.dT []) = H3 at I3 I4 w0 f3
  obtain ⟨C, hC⟩ : ∃ C, C = s3.heap.objs.size := ⟨_, rfl⟩
  obtain ⟨cl, hcl⟩ : ∃ cl, cl = cellsFrom (s3.heap.objs.size + 1) scope.names (cloFrom X.env.cells scope.names []) := ⟨_, rfl⟩
  obtain ⟨s4, hs4⟩ : ∃ s4 : Shared, s4 = { s3 with heap := pushCells (s3.heap.push { cls := .type "dict", data := .dict #[] }) scope.names } := ⟨_, rfl⟩
  rw [← hcl, ← hC] at I4
  rw [← hs4] at I4
  have st4 : tn 0 s4.heap := T.keep _ _ _ st2 fun b _ o e => by
    rw [hs4]
    refine pushCells_keeps _ _ _ _ (Heap.get?_push_of_some _ ?_)
    rw [eh]
    exact Heap.get?_push_of_some _ e
  suffices loop : codeAny (model X.prog X.w) X.A (.compLoop (.DictComp kx vx [⟨tg, iter, ifs, 0⟩] scope pos) 0 (.ref it) (.ref D) (compEnvC scope cl C X.env)) (compPost (model X.prog X.w) X.A X.xe none (fun u s' => ∃ v H', Inv X pins σ H' s' ∧ RelV v u ∧ Q v H') (.ref D) C) s4 by
    have z := codeAny_compStart_dict loop (T.self X.A 0 _ _ _ st4 loop)
    subst hs4 hcl hC hs3
    exact z
  have pg := hg s3 H3 C cl fp
  have pt := ht s3 H3 C cl fp
  have pk := hk s3 H3 C cl fp
  have pv := hv s3 H3 C cl fp
  have cL : (compEnvC scope cl C X.env).locals = C := rfl
  generalize compEnvC scope cl C X.env = ce at I4 pg pt pk pv cL ⊢
  have held : ∀ {τ : L2.St} {H' : Hp} {s' : Shared}, Inv (X.blk s3 H3 scope ce fp) [] τ H' s' → (∀ b ∈ fp, H' b = none) → ∀ b ∈ fp, FpOk (X.blk s3 H3 scope ce fp) [] H' b := fun J' no b hb =>
    ⟨no b hb, (J'.ok.exf b hb).1, J'.ok.exfs b hb, .inl hb, fun x c e => (J'.ok.exf b hb).2 x c e, fun p hp => by cases hp⟩
  refine compLoop_anyD (fun n s' => LoopAt (X.blk s3 H3 scope ce fp) fp tn W (wipe σ (own.map (·.2))) n s') ?_ m0 ⟨⟨0, H3, I4, st4, fun b hb => (f3 b hb).1.1, w0⟩⟩
  rintro n s5 ⟨⟨i, H5, I5, st5, n5, w5⟩⟩
  rcases turn i n H5 w5 with ⟨stop, qq⟩ | ⟨go, Nx, hNx, step⟩
  · refine thnF (T.done (X.blk s3 H3 scope ce fp) rfl rfl rfl hc i [] s5 _ H5 (fun _ _ => False) I5 (held I5 n5) st5 stop) fun r s6 ⟨hr, I6⟩ => ?_
    subst hr
    have I7 : Inv X pins σ H5 s6 := I3.call' (ch := fp) I6.os I6.base I6.hok I6.bare fun b hb => ⟨(f3 b hb).1.2.2.2.1, (f3 b hb).1.2.1, (f3 b hb).1.2.2.2.2.1, (f3 b hb).1.2.2.2.2.2⟩
    have noC : H5 C = none := by rw [← cL]; exact I6.free
    obtain ⟨m, names, _⟩ := I6.loc
    obtain ⟨f0, f1, f2', f3', f4, f5⟩ := I3.fpOk (hC ▸ Nat.le_refl _) noC
    refine ⟨m, by rw [← cL]; exact names, fun h'' sb => ⟨.ref D, H5, I7.turned (t' := s6.toks) (fun b o hb e => (sb.2 b hb).trans e) f0 f1 f3' f4 f5, rfl, qq⟩⟩
  · refine thnF (T.item (X.blk s3 H3 scope ce fp) rfl rfl rfl hc i [] s5 _ H5 (fun _ _ => False) I5 (held I5 n5) st5 go) fun r s6 ⟨u, hr, h6⟩ => ?_
    subst hr
    refine thnF h6 fun _ s7 ⟨x, H7, I7, r7, y7, st7, n7⟩ => ?_
    refine thnF (pg.run _ s7 _ H7 x u _ (I7.pinned (held I7 n7) (T.obj _ _ st7)) r7 (step x H7 y7)) fun _ s8 ⟨σ8, H8, I8, hw8, q8⟩ => ?_
    refine thnF (pt.run _ s8 σ8 H8 _ I8 q8) fun yes s9 ⟨H9, I9, q9⟩ => ?_
    have close : ∀ {s' : Shared} {H' : Hp}, Inv (X.blk s3 H3 scope ce fp) ([] ++ pinsAt fp s7.heap) σ8 H' s' → Nx H' → ∃ m, m < n ∧ LoopAt (X.blk s3 H3 scope ce fp) fp tn W (wipe σ (own.map (·.2))) m s' := fun {s' H'} J' nx => by
      obtain ⟨m', lt, w'⟩ := hNx H' nx
      have still : ∀ b ∈ fp, ∀ o, s7.heap.get? b = some o → s'.heap.get? b = some o ∧ H' b = none := fun b hb o e =>
        have z := J'.pin (b, o) (List.mem_append_right _ (List.mem_append_right _ (mem_pinsAt hb e)))
        ⟨z.1, z.2.1⟩
      refine ⟨m', lt, ⟨⟨i + 1, H', (J'.unpinned (pins := [])).weak (by rw [← hw8, wipe_length]) fun j v e => (wipe_some (hw8 ▸ e)).1, T.keep _ _ _ st7 fun b hb o e => (still b hb o e).1, fun b hb => ?_, w'⟩⟩⟩
      obtain ⟨o, e, _⟩ := T.obj _ _ st7 b hb
      exact (still b hb o e).2
    cases yes with
    | false =>
      rw [if_neg (by simp)] at q9 ⊢
      exact close I9 q9
    | true =>
      rw [if_pos rfl] at q9 ⊢
      refine thnF (pk.run _ s9 σ8 H9 _ I9 q9) fun z s10 ⟨yk, H10, I10, r10, q10⟩ => ?_
      refine thnF (pv.run _ s10 σ8 H10 _ I10 q10) fun z2 s11 ⟨yv, H11, I11, r11, ws, k, b, ek, hb11, hD11, hz11, nx⟩ => ?_
      subst ek
      cases r10
      exact put_tup (X := X.blk s3 H3 scope ce fp) units I11 hD11 hb11 hz11 r11 fun s12 I12 => close I12 nx
/-- such a comprehension over a walk: Pv by the turn and the heap -/
theorem dcT_it {J : It} {n : Nat} {G : Hp → Prop} {Y : Nat → Hp → V → Hp → Prop} (walk : Walk J n G Y) {vs : List Nat} {H1 : Hp} {D : Addr} {Qd : Hp → Prop} (Pv : Nat → Hp → Prop) (start : Pv 0 (upd H1 D (.dT []))) (here : ∀ i H, i ≤ n → Pv i H → G H)
    (each : ∀ i x H H', i < n → Pv i H → Y i H x H' → tTurnT D g tt tk tv σ vs (Pv (i + 1)) x H') (done : ∀ H, Pv n H → Qd H) :
    ∃ W : Nat → Nat → Hp → Prop, (∃ m, W 0 m (upd H1 D (.dT []))) ∧ ∀ i m H, W i m H → (J.stop i H ∧ Qd H) ∨ (J.go i H ∧ ∃ Nx : Hp → Prop, (∀ H', Nx H' → ∃ m', m' < m ∧ W (i + 1) m' H') ∧ ∀ x H', J.yld i H x H' → tTurnT D g tt tk tv σ vs Nx x H') := by
  refine ⟨fun i m H => i ≤ n ∧ m + i = n ∧ Pv i H, ⟨n, Nat.zero_le _, by omega, start⟩, ?_⟩
  rintro i m H ⟨le, sum, p⟩
  have now := here i H le p
  rcases Nat.lt_or_ge i n with lt | ge
  · exact .inr ⟨walk.goes i H lt now, Pv (i + 1), fun H' p' => ⟨m - 1, by omega, lt, by omega, p'⟩, fun x H' y => each i x H H' lt p (walk.yields i H x H' lt now y)⟩
  · obtain rfl : i = n := by omega
    exact .inl ⟨walk.stops H now, done H p⟩
end
end VG
-- VgMath6
set_option Elab.async false
set_option linter.all false
set_option maxRecDepth 100000
set_option maxHeartbeats 4000000
namespace VG
open PySem PySem.Spec PyProof.Rows L2
/-- sides with those in c made one; places with those in c made nought -/
def leftN (c : Nat → Bool) (L : List Nat) : List Nat := L.mapIdx fun i l => if c i = true then 1 else l
def projN (c : Nat → Bool) (p : List Nat) : List Nat := p.mapIdx fun i k => if c i = true then 0 else k
theorem inb_proj : ∀ {p L : List Nat} (c : Nat → Bool), Inb p L → Inb (projN c p) (leftN c L)
  | [], [], _, _ => trivial
  | a :: p, l :: L, c, h => by
    have ih := inb_proj (fun i => c (i + 1)) h.2
    unfold projN leftN at ih ⊢
    rw [List.mapIdx_cons, List.mapIdx_cons]
    refine ⟨?_, ih⟩
    by_cases z : c 0 = true
    · rw [if_pos z, if_pos z]; omega
    · rw [if_neg z, if_neg z]; exact h.1
  | [], _ :: _, _, h => h.elim
  | _ :: _, [], _, h => h.elim
/-- a place as a key -/
def tk (q : List Nat) : List Key := q.map fun (n : Nat) => Sum.inl (n : Int)
theorem tk_V (q : List Nat) : (tk q).map kV = tn q := by
  unfold tk tn
  rw [List.map_map]
  rfl
theorem tk_inj : ∀ {p q : List Nat}, tk p = tk q → p = q
  | [], [], _ => rfl
  | a :: p, b :: q, h => by
    unfold tk at h
    rw [List.map_cons, List.map_cons] at h
    injection h with h1 h2
    injection h1 with h3
    rw [tk_inj (p := p) (q := q) h2, Int.ofNat.inj h3]
  | [], _ :: _, h => by simp [tk] at h
  | _ :: _, [], h => by simp [tk] at h
/-- a dict of numbers by places -/
def dictN (qs : List (List Nat)) (t : List Nat → Int) : List (List Key × V) := qs.map fun q => (tk q, .int (t q))
theorem dictN_get {t : List Nat → Int} : ∀ {qs : List (List Nat)} {q : List Nat}, q ∈ qs → valV (dictN qs t) (tk q) = some (.int (t q))
  | a :: qs, q, h => by
    unfold dictN
    rw [List.map_cons]
    by_cases e : a = q
    · subst e; exact valV_pos rfl
    · rw [valV_neg fun z => e (tk_inj z)]
      exact dictN_get (by rcases List.mem_cons.mp h with z | z; exact absurd z.symm e; exact z)
theorem dictN_none {t : List Nat → Int} : ∀ {qs : List (List Nat)} {q : List Nat}, q ∉ qs → valV (dictN qs t) (tk q) = none
  | [], q, h => rfl
  | a :: qs, q, h => by
    unfold dictN
    rw [List.map_cons, valV_neg fun z => h (by rw [tk_inj z]; exact List.mem_cons_self ..)]
    exact dictN_none fun z => h (List.mem_cons_of_mem _ z)
theorem dictN_put {t : List Nat → Int} {qs : List (List Nat)} {q : List Nat} {z : Int} (h : q ∈ qs) : putK (dictN qs t) (tk q) (.int z) = dictN qs fun p => if p = q then z else t p := by
  unfold putK
  rw [valV_any, dictN_get h]
  show (if true = true then _ else _) = _
  rw [if_pos rfl]
  unfold dictN
  rw [List.map_map]
  refine List.map_congr_left fun p _ => ?_
  show (if tk p = tk q then (tk p, V.int z) else (tk p, V.int (t p))) = (tk p, V.int (if p = q then z else t p))
  by_cases e : p = q
  · rw [if_pos (by rw [e]), if_pos e]
  · rw [if_neg fun z => e (tk_inj z), if_neg e]
theorem dictN_new {t : List Nat → Int} {qs : List (List Nat)} {q : List Nat} (h : q ∉ qs) : putK (dictN qs t) (tk q) (.int (t q)) = dictN (qs ++ [q]) t := by
  unfold putK
  rw [valV_any, dictN_none h]
  show (if false = true then _ else _) = _
  rw [if_neg (by intro z; cases z)]
  unfold dictN
  rw [List.map_append]
  rfl
theorem places_fresh {L q : List Nat} {i : Nat} (h : (places L)[i]? = some q) : q ∉ (places L).take i := fun z => by
  obtain ⟨j, hj⟩ := List.getElem?_of_mem z
  have lt : j < i := by
    have := (List.getElem?_eq_some_iff.mp hj).1
    rw [List.length_take] at this
    omega
  rw [List.getElem?_take_of_lt lt] at hj
  have e1 := idx_at hj
  have e2 := idx_at h
  omega
/-- the total at q of the first i places -/
def totN (c : Nat → Bool) (L : List Nat) (row : List Int) (i : Nat) (q : List Nat) : Int := ((((places L).take i).filter fun p => projN c p == q).map fun p => row.getD (idx L p) 0).sum
theorem totN_zero (c : Nat → Bool) (L : List Nat) (row : List Int) : totN c L row 0 = fun _ => 0 := by
  funext q
  unfold totN
  rw [List.take_zero]
  rfl
theorem totN_step {c : Nat → Bool} {L : List Nat} {row : List Int} {i : Nat} {p : List Nat} (h : (places L)[i]? = some p) : totN c L row (i + 1) = fun q => if q = projN c p then totN c L row i (projN c p) + row.getD (idx L p) 0 else totN c L row i q := by
  funext q
  unfold totN
  rw [List.take_add_one, h, Option.toList_some, List.filter_append, List.map_append, List.sum_append]
  by_cases e : q = projN c p
  · rw [if_pos e, e, List.filter_cons, if_pos (by simp)]
    simp
  · rw [if_neg e, List.filter_cons, if_neg (by simp; exact fun z => e z.symm)]
    simp
/-- the sums at the places left -/
def sumsN (c : Nat → Bool) (L : List Nat) (row : List Int) : List Int := (places (leftN c L)).map fun q => totN c L row (sz L) q
end VG
-- VgSums
set_option Elab.async false
set_option linter.all false
set_option maxRecDepth 100000
set_option maxHeartbeats 4000000
namespace VG
open PySem PySem.Spec PyProof.Rows L2 LamX NdefX
section
variable {P : Program} {w : World} {K : PySem.W.Frag} {mg : Str → Option Value} {base : Heap}
theorem inV_tn (i : Nat) : ∀ gone : List Nat, inV (.int (i : Int)) (tn gone) = decide (i ∈ gone)
  | [] => rfl
  | a :: g => by
    show (eqV (.int (a : Int)) (.int (i : Int)) || inV (.int (i : Int)) (tn g)) = _
    rw [inV_tn i g]
    by_cases e : i = a
    · subst e
      simp [eqV]
    · have e2 : ¬ ((a : Int) = (i : Int)) := by omega
      simp [eqV, e, e2]
theorem flat_tn : ∀ g : List Nat, (tn g).all flatV = true
  | [] => rfl
  | _ :: g => flat_tn g
theorem leftN_ones {c : Nat → Bool} {L : List Nat} (h : ∀ i, i < L.length → c i = true) : sz (leftN c L) = 1 := by
  have e : leftN c L = List.replicate L.length 1 := by
    apply List.ext_getElem?
    intro i
    unfold leftN
    rw [List.getElem?_mapIdx, List.getElem?_replicate]
    by_cases hi : i < L.length
    · rw [List.getElem?_eq_getElem hi, if_pos hi, Option.map_some, h i hi]; rfl
    · rw [List.getElem?_eq_none (by omega), if_neg hi]; rfl
  rw [e]
  induction L.length with
  | zero => rfl
  | succ n ih => rw [List.replicate_succ, sz, ih]
theorem un1 {k : Nat} {A : Around} (r : L2.Room k A) : A.units + 1 < cLine := by have := r.un; omega
def spSums (K : PySem.W.Frag) : Sp := fun vs H Q _ => ∃ (v r : Addr) (x : V) (kp : Bool) (L gone stay : List Nat) (b : Int) (ss ns : List Int), vs = [.ref v, x, .int 0, .bl kp] ∧ Src K H v r ns L b ss ∧
  ((x = .non ∧ kp = false ∧ gone = List.range L.length ∧ stay = []) ∨ ∃ (a : Addr) (at_ : Nat), x = .ref a ∧ H a = some (.tup (tn [at_])) ∧ at_ < L.length ∧ kp = true ∧ gone = [at_] ∧ stay = leftN (fun i => decide (i ∈ gone)) L) ∧ Okl (leftN (fun i => decide (i ∈ gone)) L) ∧
  ∀ y H', Same H H' → NewV K H H' y stay (sumsN (fun i => decide (i ∈ gone)) L (pick ns (cells L b ss))) → Q (.ref y) H'
theorem fn_sums (T : Tx K mg) {fd : FuncData} (F : FunR K d_sums fd) : FnOk P w K mg base CX0 9 (He.fAd K d_sums.at_) fd ["view", "some", "start", "keep"] (spSums K) := by
  refine fn_ok F sc_sums (fun vs H Q E h => ?_) (fun cdv A outer s H vs Q E hr h => ?_)
  · obtain ⟨v, r, x, kp, L, gone, stay, b, ss, ns, rfl, _⟩ := h; rfl
  · obtain ⟨v, r, x, kp, L, gone, stay, b, ss, ns, rfl, S0, hx, okl, q⟩ := h
    have hu := un1 hr
    refine ⟨_, (pss_cons (ps_set (i := 4) sc_sums.nd rfl (Or.inl rfl) (pe_m0K (K := K) (P := P) (w := w) (mg := mg) (base := base) ((ok_View_sides T).mono (by omega)) (cl_View T) rfl rfl rfl rfl rfl hr (pv 0)))
    (pss_cons (ps_set (i := 5) sc_sums.nd rfl (Or.inr rfl) (pe_fK (K := K) (P := P) (w := w) (mg := mg) (base := base) ((ok_unlike_sides T).mono (by omega)) rfl rfl rfl rfl rfl hr (by rfl) (pa_cons (pv 1) (pa_cons (pe_callB (call_lenK (K := K) rfl) (by rfl) (z_len T) (by decide +kernel) (pa_cons (pv 4) pa_nil)) pa_nil))))
    (pss_cons (ps_set (i := 6) sc_sums.nd rfl (Or.inl rfl) (pe_callTy (call_tupK (K := K) rfl) (by rfl) (z_tuple T) (by decide +kernel) (pa_cons (pe_lc (own := [("at", 7), ("length", 8)]) (tt := tYes) rfl sc_sums.nd (pi_enumK (K := K) rfl (by rfl) (z_enumerate T) (pa_cons (pv 4) pa_nil)) (blkOk_by (own := [("at", 7), ("length", 8)]) (sc := defScope s_sums) (N := n_sums) (by decide +kernel)) (fun _ _ _ _ _ => (pg_tupK (K := K) (n := 2) rfl rfl (pgs_cons (pg_name (i := 7) sc_sums.nd rfl (by first | exact Or.inl rfl | exact Or.inr rfl)) (pgs_cons (pg_name (i := 8) sc_sums.nd rfl (by first | exact Or.inl rfl | exact Or.inr rfl)) pgs_nil)))) (fun _ _ _ _ _ => pts_nil) (fun _ _ _ _ _ => (pe_ifExp (pt_cmpR (op_inK (K := K) rfl) (pv 7) (pv 5) (by rfl)) pe_int (pv 8)))) pa_nil)))
    (pss_cons (ps_set (i := 9) sc_sums.nd rfl (Or.inl rfl) (pe_ifExp (pt_truthK (K := K) rfl (pv 3) (by intro _; rfl)) (pv 6) (pe_callTy (call_tupK (K := K) rfl) (by rfl) (z_tuple T) (by decide +kernel) (pa_cons (pe_lc (own := [("at", 7), ("length", 8)]) rfl sc_sums.nd (pi_enumK (K := K) rfl (by rfl) (z_enumerate T) (pa_cons (pv 4) pa_nil)) (blkOk_by (own := [("at", 7), ("length", 8)]) (sc := defScope s_sums) (N := n_sums) (by decide +kernel)) (fun _ _ _ _ _ => (pg_tupK (K := K) (n := 2) rfl rfl (pgs_cons (pg_name (i := 7) sc_sums.nd rfl (by first | exact Or.inl rfl | exact Or.inr rfl)) (pgs_cons (pg_name (i := 8) sc_sums.nd rfl (by first | exact Or.inl rfl | exact Or.inr rfl)) pgs_nil)))) (fun _ _ _ _ _ => pts_one (pt_cmpR (op_notInK (K := K) rfl) (pv 7) (pv 5) (by rfl))) (fun _ _ _ _ _ => (pv 8))) pa_nil))))
    (pss_cons (ps_expr (pe_fK (K := K) (P := P) (w := w) (mg := mg) (base := base) ((ok_vet_size T).mono (by omega)) rfl rfl rfl rfl rfl hr (by rfl) (pa_cons (pv 9) pa_nil)))
    (pss_cons (ps_set (i := 10) sc_sums.nd rfl (Or.inr rfl) (pe_dcT (own := [("place", 11)]) (tt := tYes) hr.units0 rfl sc_sums.nd (pi_listK (K := K) rfl (pe_fK (K := K) (P := P) (w := w) (mg := mg) (base := base) ((ok_places_of T).mono (by omega)) rfl rfl rfl rfl rfl hr (by rfl) (pa_cons (pv 6) pa_nil))) (blkOk_by (own := [("place", 11)]) (sc := defScope s_sums) (N := n_sums) (by decide +kernel)) (fun _ _ _ _ _ => (pg_name (i := 11) sc_sums.nd rfl (Or.inl rfl))) (fun _ _ _ _ _ => pts_nil) (fun _ _ _ _ _ => (pv 11)) (fun _ _ _ _ _ => (pv 2))))
    (pss_cons (ps_for PassesOwn.never rfl (pi_listK (K := K) rfl (pe_fK (K := K) (P := P) (w := w) (mg := mg) (base := base) ((ok_places_of T).mono (by omega)) rfl rfl rfl rfl rfl hr (by rfl) (pa_cons (pv 4) pa_nil))) (pg_name (i := 11) sc_sums.nd rfl (Or.inl rfl))
    (pss_one (ps_daug hu (pv 10) (pe_callTy (call_tupK (K := K) rfl) (by rfl) (z_tuple T) (by decide +kernel) (pa_cons (pe_lc (own := [("at", 7), ("number", 12)]) (tt := tYes) rfl sc_sums.nd (pi_enumK (K := K) rfl (by rfl) (z_enumerate T) (pa_cons (pv 11) pa_nil)) (blkOk_by (own := [("at", 7), ("number", 12)]) (sc := defScope s_sums) (N := n_sums) (by decide +kernel)) (fun _ _ _ _ _ => (pg_tupK (K := K) (n := 2) rfl rfl (pgs_cons (pg_name (i := 7) sc_sums.nd rfl (by first | exact Or.inl rfl | exact Or.inr rfl)) (pgs_cons (pg_name (i := 12) sc_sums.nd rfl (by first | exact Or.inl rfl | exact Or.inr rfl)) pgs_nil)))) (fun _ _ _ _ _ => pts_nil) (fun _ _ _ _ _ => (pe_ifExp (pt_cmpR (op_inK (K := K) rfl) (pv 7) (pv 5) (by rfl)) pe_int (pv 12)))) pa_nil)) (pe_mK (K := K) (P := P) (w := w) (mg := mg) (base := base) ((ok_View_at T).mono (by omega)) (cl_View T) rfl rfl rfl rfl rfl hr (pv 0) (pa_cons (pv 11) pa_nil)) in_add (fun _ _ _ => rfl))))
    (pss_one (ps_ret (pe_fK (K := K) (P := P) (w := w) (mg := mg) (base := base) ((ok_new_view T).mono (by omega)) rfl rfl rfl rfl rfl hr (by rfl) (pa_cons (pv 9) (pa_cons (pe_lc (own := [("place", 11)]) (tt := tYes) rfl sc_sums.nd (pi_listK (K := K) rfl (pe_fK (K := K) (P := P) (w := w) (mg := mg) (base := base) ((ok_places_of T).mono (by omega)) rfl rfl rfl rfl rfl hr (by rfl) (pa_cons (pv 6) pa_nil))) (blkOk_by (own := [("place", 11)]) (sc := defScope s_sums) (N := n_sums) (by decide +kernel)) (fun _ _ _ _ _ => (pg_name (i := 11) sc_sums.nd rfl (by first | exact Or.inl rfl | exact Or.inr rfl))) (fun _ _ _ _ _ => pts_nil) (fun _ _ _ _ _ => (pe_dget hu (pv 10) (pv 11) (fun _ _ => rfl)))) pa_nil)))))))))))), ?_⟩
    obtain ⟨la0, sa0, ⟨dx, h1⟩, h2, h3⟩ := id S0.vw
    have h5 := S0.ok.len
    obtain ⟨c, hc⟩ : ∃ c : Nat → Bool, c = fun i => decide (i ∈ gone) := ⟨_, rfl⟩
    rw [← hc] at okl q
    refine ⟨_, rfl, v, dx, _, rfl, h1, view_no (by decide) (by decide) (by decide) (by decide), v, r, L, b, ss, rfl, S0.vw, fun la hla => ?_⟩
    refine ⟨_, rfl, _, rfl, la, _, rfl, .inr (SqT.of hla), ?_⟩
    rw [tn_len]
    refine ⟨x, L.length, gone, rfl, h5, ?_, fun g H1 s1 hg0 hg => ?_⟩
    · rcases hx with ⟨h1, _, h2, _⟩ | ⟨a, at_, h1, h2, h3, _, h4, _⟩
      · exact .inl ⟨h1, h2⟩
      · exact .inr ⟨a, at_, h1, h2, h3, h4⟩
    have hla1 := s1 _ _ hla
    refine ⟨_, rfl, la, _, rfl, SqT.of hla1, fun D hD => ?_⟩
    refine lc_new walk_enumT (by rw [tn_len]; omega) hD (fun i y _ => ∃ k : Nat, (leftN c L)[i]? = some k ∧ y = .int (k : Int)) (fun H3 s3 => SqT.of (s3 _ _ hla1)) (fun _ _ _ _ _ h => h) ?_ ?_
    · rintro i x H3 H4 Kt hi s3 hacc ⟨T1, x1, y1, rfl, hT, rfl, e1, e2⟩ kt
      cases e1
      obtain ⟨l, hl, rfl⟩ := tn_at e2
      have hcl : (leftN c L)[i]? = some (if c i = true then 1 else l) := by unfold leftN; rw [List.getElem?_mapIdx, hl]; rfl
      refine ⟨T1, _, rfl, SqT.of upd_same, rfl, _, _, rfl, _, _, rfl, rfl, rfl, _, rfl, _, rfl, g, tn gone, rfl, .inl (SqL.of ((Same.new hT) _ _ (s3 _ _ hg))), rfl, flat_tn gone, _, rfl, ?_⟩
      have ei : (if false = true then !inV (V.int (i : Int)) (tn gone) else inV (V.int (i : Int)) (tn gone)) = c i := by rw [if_neg (by simp), inV_tn, hc]
      rw [ei]
      cases hci : c i with
      | true => exact iteT (kt _ _ (Same.new hT) ⟨1, by rw [hcl, hci]; rfl, rfl⟩)
      | false => exact iteF ⟨_, rfl, kt _ _ (Same.new hT) ⟨l, by rw [hcl, hci]; rfl, rfl⟩⟩
    · intro ys H3 s3 hD3 hy hR
      have e := ys_tn (p := leftN c L) (by rw [hy, tn_len]; unfold leftN; rw [List.length_mapIdx]) hR
      subst e
      have s13 := s1.trans s3
      have hg3 := s3 _ _ hg
      refine ⟨D, _, rfl, .inl ⟨SqL.of hD3, fun lf hlf => ?_⟩⟩
      have s4 : Same H3 (upd H3 lf (.tup (tn (leftN c L)))) := Same.new hlf
      have hlf4 : (upd H3 lf (.tup (tn (leftN c L)))) lf = some (.tup (tn (leftN c L))) := upd_same
      generalize upd H3 lf (.tup (tn (leftN c L))) = H4 at s4 hlf4
      have s14 := s13.trans s4
      rcases hx with ⟨rfl, rfl, hgone, rfl⟩ | ⟨a, at_, rfl, ha, hat, rfl, hgone, hst⟩
      · have okst : Okl [] := ⟨by simp, by simp [sz], by simp⟩
        refine ⟨_, rfl, _, rfl, iteF ?_⟩
        have hla4 := s14 _ _ hla
        refine ⟨_, rfl, la, _, rfl, SqT.of hla4, fun D2 hD2 => ?_⟩
        refine lc_flt (β := Nat) (tn L) (fun _ => none) walk_enumT (by rw [tn_len]; omega) hD2 (fun y k _ => y = .int (k : Int)) (fun H5 s5 => SqT.of (s5 _ _ hla4)) (fun _ _ _ _ _ h => h) ?_ ?_
        · rintro i a z H6 H7 Kt Kn hi s6 hacc ⟨T1, x1, y1, rfl, hT, rfl, e1, e2⟩ kt kn
          cases e1
          refine ⟨T1, _, rfl, SqT.of upd_same, rfl, _, _, rfl, _, _, rfl, rfl, rfl, _, rfl, _, rfl, g, tn gone, rfl, .inl (SqL.of ((Same.new hT) _ _ (s6 _ _ (s4 _ _ hg3)))), rfl, flat_tn gone, _, rfl, ?_⟩
          have hli := (List.getElem?_eq_some_iff.mp hi).1
          rw [tn_len] at hli
          have ei : (if true = true then !inV (V.int (i : Int)) (tn gone) else inV (V.int (i : Int)) (tn gone)) = false := by
            rw [if_pos rfl, inV_tn, hgone, decide_eq_true (List.mem_range.mpr hli)]; rfl
          rw [ei]
          exact kn _ (Same.new hT) rfl
        intro ys H5 s5a hD5 hal
        have e : ys = [] := by
          have zz : ∀ l : List V, l.filterMap (fun _ => (none : Option Nat)) = [] := by
            intro l
            induction l with
            | nil => rfl
            | cons a l ih => exact ih
          rw [zz] at hal
          exact List.length_eq_zero_iff.mp hal.len
        subst e
        refine ⟨D2, _, rfl, .inl ⟨SqL.of hD5, fun sl hsl0 => ?_⟩⟩
        have s5 : Same H4 (upd H5 sl (.tup [])) := s5a.trans (Same.new hsl0)
        have hsl : (upd H5 sl (.tup [])) sl = some (.tup (tn [])) := upd_same
        generalize upd H5 sl (.tup []) = H5 at s5 hsl
        have hst : sz [] = sz (leftN c L) := (leftN_ones (fun i hi => by rw [hc, hgone]; exact decide_eq_true (List.mem_range.mpr hi))).symm
        generalize hstay : ([] : List Nat) = stay at hsl okst hst q
        have s15 := s14.trans s5
        refine ⟨_, rfl, _, stay, rfl, SqT.of hsl, okst, ?_⟩
        have hlf5 := s5 _ _ hlf4
        refine ⟨_, rfl, _, leftN c L, rfl, SqT.of hlf5, okl.len, okl.each, by have := okl.size; omega, fun pl H6 s6 hpl0 ⟨as, hpl, tps⟩ => ?_⟩
        refine ⟨pl, rfl, ⟨_, SqL.of hpl⟩, fun Dt hDt => ?_⟩
        have s16 := s15.trans s6
        have hg6 := s6 _ _ (s5 _ _ (s4 _ _ hg3))
        have lenP : as.length = sz (leftN c L) := by rw [tps.len, places_len]
        refine dcT_it (walk_refs tps.len) (fun i H => But Dt H6 H ∧ H Dt = some (.dT (dictN ((places (leftN c L)).take i) fun _ => 0))) ⟨Same.but Dt (Same.new hDt), by rw [upd_same, List.take_zero]; rfl⟩ (fun i H _ h => SqL.of (h.1 _ _ (ne_of_none hpl hDt) hpl)) ?_ ?_
        · rintro i z H7 H8 hi ⟨bt, hd7⟩ ⟨rfl, qa, hqa, rfl⟩
          obtain ⟨pq, hpq, hpt⟩ := tps.get hqa
          have hq8 := bt _ _ (ne_of_none hpt hDt) hpt
          rw [← tk_V] at hq8
          have lt9 : ((places (leftN c L)).take i).length < sizeLine := by
            have h9 := okl.size
            refine sz_lt ?_
            rw [List.length_take, places_len]; omega
          refine ⟨rfl, _, rfl, _, rfl, _, tk pq, qa, rfl, hq8, hd7, by unfold dictN; rw [List.length_map]; exact lt9, bt.trans But.put, ?_⟩
          rw [upd_same, dictN_new (t := fun _ => 0) (places_fresh hpq), List.take_add_one, hpq]
          rfl
        intro H7 ⟨bt, hd7⟩
        have s7 : Same H6 H7 := But.same hDt bt
        have s17 := s16.trans s7
        rw [List.take_of_length_le (by rw [places_len]; omega)] at hd7
        have hla7 := s17 _ _ hla
        refine ⟨_, rfl, la, L, rfl, SqT.of hla7, h5, S0.ok.each, by have := S0.ok.size; omega, fun pl2 H8 s8 hpl20 ⟨as2, hpl2, tps2⟩ => ?_⟩
        refine ⟨pl2, rfl, ⟨_, SqL.of hpl2⟩, ?_⟩
        have s18 := s17.trans s8
        have hd8 := s8 _ _ hd7
        obtain ⟨row, hrow⟩ : ∃ row, row = pick ns (cells L b ss) := ⟨_, rfl⟩
        rw [← hrow] at q
        rw [show (fun _ => (0 : Int)) = totN c L row 0 from (totN_zero c L row).symm] at hd8
        refine for_it (D := { nx := tRet (tCall (spNewView K) [] E0 (tCons (tVar 9) (tCons (tLc (iList K (tCall (spPlaces K) [] E0 (tCons (tVar 6) tNil))) (gName 11) tYes (tDGet (tVar 10) (tVar 11)) [11]) tNil))) { nx := fun _ H' => Q V.non H', rt := Q }, rt := Q }) (walk_refs tps2.len) (fun i σ H9 => But Dt H8 H9 ∧ H9 Dt = some (.dT (dictN (places (leftN c L)) (totN c L row i))) ∧ ∃ sl x0 k0 u7 u8 u11 u12, H5 sl = some (.tup (tn stay)) ∧ σ = [some (.ref v), some x0, some (.int 0), some (.bl k0), some (.ref la), some (.ref g), some (.ref lf), u7, u8, some (.ref sl), some (.ref Dt), u11, u12]) ⟨Same.but Dt (Same.refl H8), hd8, _, _, _, none, none, none, none, hsl, rfl⟩ (fun i σ H9 _ h => ?_) ?_ ?_
        · have nd : pl2 ≠ Dt := ne_of hpl2 hd8 (by intro z; cases z)
          exact SqL.of (h.1 _ _ nd hpl2)
        · rintro i z σ H9 H10 hi ⟨bt9, hd9, sl9, x0, k0, u7, u8, u11, u12, hsl9, rfl⟩ ⟨rfl, pa, hpa, rfl⟩
          obtain ⟨p, hp, hpt⟩ := tps2.get hpa
          have hin := mem_places.mp (List.mem_of_getElem? hp)
          have keep : ∀ b o, H8 b = some o → (∀ kvs, o ≠ .dT kvs) → H10 b = some o := fun b o e n => bt9 b o (fun z => by rw [z, hd8] at e; exact n _ (Option.some.inj e).symm) e
          have hpt9 := keep _ _ hpt (by intro kvs z; cases z)
          have hg9 := keep _ _ (s8 _ _ (s7 _ _ hg6)) (by intro kvs z; cases z)
          refine ⟨_, rfl, _, rfl, pa, _, rfl, SqT.of hpt9, fun D3 hD3' => ?_⟩
          refine lc_new walk_enumT (by rw [tn_len, hin.len]; omega) hD3' (fun i y _ => ∃ k : Nat, (projN c p)[i]? = some k ∧ y = .int (k : Int)) (fun H3 s3 => SqT.of (s3 _ _ hpt9)) (fun _ _ _ _ _ h => h) ?_ ?_
          · rintro j x H11 H12 Kt hj s11 hacc ⟨T1, x1, y1, rfl, hT, rfl, e1, e2⟩ kt
            cases e1
            obtain ⟨l, hl, rfl⟩ := tn_at e2
            have hcl : (projN c p)[j]? = some (if c j = true then 0 else l) := by unfold projN; rw [List.getElem?_mapIdx, hl]; rfl
            refine ⟨T1, _, rfl, SqT.of upd_same, rfl, _, _, rfl, _, _, rfl, rfl, rfl, _, rfl, _, rfl, g, tn gone, rfl, .inl (SqL.of ((Same.new hT) _ _ (s11 _ _ hg9))), rfl, flat_tn gone, _, rfl, ?_⟩
            have ei : (if false = true then !inV (V.int (j : Int)) (tn gone) else inV (V.int (j : Int)) (tn gone)) = c j := by rw [if_neg (by simp), inV_tn, hc]
            rw [ei]
            cases hci : c j with
            | true => exact iteT (kt _ _ (Same.new hT) ⟨0, by rw [hcl, hci]; rfl, rfl⟩)
            | false => exact iteF ⟨_, rfl, kt _ _ (Same.new hT) ⟨l, by rw [hcl, hci]; rfl, rfl⟩⟩
          · intro ys H11 s11 hD11 hy hR
            have e := ys_tn (p := projN c p) (by rw [hy, tn_len]; unfold projN; rw [List.length_mapIdx]) hR
            subst e
            refine ⟨D3, _, rfl, .inl ⟨SqL.of hD11, fun kt hkt => ?_⟩⟩
            have s12 : Same H11 (upd H11 kt (.tup (tn (projN c p)))) := Same.new hkt
            have hk12 : (upd H11 kt (.tup (tn (projN c p)))) kt = some (.tup (tn (projN c p))) := upd_same
            generalize upd H11 kt (.tup (tn (projN c p))) = H12 at s12 hk12
            have s1012 := s11.trans s12
            rw [← tk_V] at hk12
            have hq := mem_places.mpr (inb_proj c hin)
            have s19 : Same H H10 := But.same (s16.free hDt) ((Same.but Dt s18).trans bt9)
            have S12 := S0.same (s19.trans s1012)
            obtain ⟨la12, sa12, ⟨dx12, k1⟩, k2, k3⟩ := id S12.vw
            refine ⟨Dt, _, rfl, (dictN_get hq) ▸ DGet.t (s1012 _ _ hd9) hk12, ?_⟩
            refine ⟨_, rfl, v, dx12, _, rfl, k1, view_no (by decide) (by decide) (by decide) (by decide), _, rfl, v, r, L, b, ss, pa, p, ns, rfl, S12.vw, S12.ok, S12.sl, s1012 _ _ hpt9, hin, S12.rm, S12.wi, fun H13 s13 => ⟨_, _, rfl, rfl, ?_⟩⟩
            have lt9 : (dictN (places (leftN c L)) (totN c L row i)).length < sizeLine := by
              have h9 := okl.size
              refine sz_lt ?_
              unfold dictN
              rw [List.length_map, places_len]; omega
            refine ⟨_, DPut.t (s13 _ _ (s1012 _ _ hd9)) (s13 _ _ hk12) lt9, ?_⟩
            refine ⟨fun b o n e => by rw [upd_ne n]; exact s13 _ _ (s1012 _ _ (bt9 b o n e)), ?_, _, _, _, _, _, _, _, hsl9, rfl⟩
            rw [upd_same, dictN_put hq, totN_step hp, at_pick hin, hrow]
        · rintro σ H9 ⟨bt9, hd9, sl9, x0, k0, u7, u8, u11, u12, hsl9, rfl⟩
          rw [places_len] at hd9
          have s89 : ∀ b o, H8 b = some o → (∀ kvs, o ≠ .dT kvs) → H9 b = some o := fun b o e n => bt9 b o (fun z => by rw [z, hd8] at e; exact n _ (Option.some.inj e).symm) e
          have s09 : Same H H9 := But.same (s16.free hDt) ((Same.but Dt s18).trans bt9)
          have to9 : ∀ b o, H5 b = some o → (∀ kvs, o ≠ .dT kvs) → H9 b = some o := fun b o e n => s89 b o (s8 _ _ (s7 _ _ (s6 _ _ e))) n
          have hlf9 := to9 _ _ hlf5 (by intro kvs z; cases z)
          have hst9 := to9 _ _ hsl9 (by intro kvs z; cases z)
          refine ⟨_, rfl, _, rfl, lf, leftN c L, rfl, SqT.of hlf9, okl.len, okl.each, by have := okl.size; omega, fun pl3 H10 s10 hpl30 ⟨as3, hpl3, tps3⟩ => ?_⟩
          refine ⟨pl3, rfl, ⟨_, SqL.of hpl3⟩, fun D4 hD4 => ?_⟩
          refine lc_new (walk_refs tps3.len) (by rw [places_len]; have := okl.size; omega) hD4 (fun i y _ => ∃ k : Int, (sumsN c L row)[i]? = some k ∧ y = .int k) (fun H3 s3 => SqL.of (s3 _ _ hpl3)) (fun _ _ _ _ _ h => h) ?_ ?_
          · rintro i x H11 H12 Kt hi s11 hacc ⟨rfl, pa, hpa, rfl⟩ kt
            obtain ⟨p, hp, hpt⟩ := tps3.get hpa
            have hpt11 := s11 _ _ hpt
            rw [← tk_V] at hpt11
            refine ⟨rfl, _, rfl, _, rfl, Dt, _, rfl, (dictN_get (List.mem_of_getElem? hp)) ▸ DGet.t (s11 _ _ (s10 _ _ hd9)) hpt11, kt _ _ (Same.refl _) ⟨_, ?_, rfl⟩⟩
            unfold sumsN
            rw [List.getElem?_map, hp]
            rfl
          · intro ys H11 s11 hD11 hy hR
            have e := ys_ti (p := sumsN c L row) (by rw [hy]; unfold sumsN; rw [List.length_map]) hR
            subst e
            have s911 := s10.trans s11
            refine ⟨sl9, D4, stay, sumsN c L row, rfl, s911 _ _ hst9, hD11, by unfold sumsN; rw [List.length_map, places_len, hst], okst, fun y H12 s12 nv => ?_⟩
            have s012 := (s09.trans s911).trans s12
            exact q y H12 s012 (nv.back (s09.trans s911))
      · obtain ⟨H5, hH5⟩ : ∃ H5, H5 = H4 := ⟨_, rfl⟩
        have okst : Okl stay := by rw [hst, ← hc]; exact okl
        have s5 : Same H4 H5 := hH5 ▸ Same.refl H4
        have hsl : H5 lf = some (.tup (tn stay)) := by rw [hH5, hst, ← hc]; exact hlf4
        refine ⟨_, rfl, _, rfl, iteT ⟨_, rfl, ?_⟩⟩
        rw [← hH5]
        have hst : sz stay = sz (leftN c L) := by rw [hst, ← hc]
        have s15 := s14.trans s5
        refine ⟨_, rfl, _, stay, rfl, SqT.of hsl, okst, ?_⟩
        have hlf5 := s5 _ _ hlf4
        refine ⟨_, rfl, _, leftN c L, rfl, SqT.of hlf5, okl.len, okl.each, by have := okl.size; omega, fun pl H6 s6 hpl0 ⟨as, hpl, tps⟩ => ?_⟩
        refine ⟨pl, rfl, ⟨_, SqL.of hpl⟩, fun Dt hDt => ?_⟩
        have s16 := s15.trans s6
        have hg6 := s6 _ _ (s5 _ _ (s4 _ _ hg3))
        have lenP : as.length = sz (leftN c L) := by rw [tps.len, places_len]
        refine dcT_it (walk_refs tps.len) (fun i H => But Dt H6 H ∧ H Dt = some (.dT (dictN ((places (leftN c L)).take i) fun _ => 0))) ⟨Same.but Dt (Same.new hDt), by rw [upd_same, List.take_zero]; rfl⟩ (fun i H _ h => SqL.of (h.1 _ _ (ne_of_none hpl hDt) hpl)) ?_ ?_
        · rintro i z H7 H8 hi ⟨bt, hd7⟩ ⟨rfl, qa, hqa, rfl⟩
          obtain ⟨pq, hpq, hpt⟩ := tps.get hqa
          have hq8 := bt _ _ (ne_of_none hpt hDt) hpt
          rw [← tk_V] at hq8
          have lt9 : ((places (leftN c L)).take i).length < sizeLine := by
            have h9 := okl.size
            refine sz_lt ?_
            rw [List.length_take, places_len]; omega
          refine ⟨rfl, _, rfl, _, rfl, _, tk pq, qa, rfl, hq8, hd7, by unfold dictN; rw [List.length_map]; exact lt9, bt.trans But.put, ?_⟩
          rw [upd_same, dictN_new (t := fun _ => 0) (places_fresh hpq), List.take_add_one, hpq]
          rfl
        intro H7 ⟨bt, hd7⟩
        have s7 : Same H6 H7 := But.same hDt bt
        have s17 := s16.trans s7
        rw [List.take_of_length_le (by rw [places_len]; omega)] at hd7
        have hla7 := s17 _ _ hla
        refine ⟨_, rfl, la, L, rfl, SqT.of hla7, h5, S0.ok.each, by have := S0.ok.size; omega, fun pl2 H8 s8 hpl20 ⟨as2, hpl2, tps2⟩ => ?_⟩
        refine ⟨pl2, rfl, ⟨_, SqL.of hpl2⟩, ?_⟩
        have s18 := s17.trans s8
        have hd8 := s8 _ _ hd7
        obtain ⟨row, hrow⟩ : ∃ row, row = pick ns (cells L b ss) := ⟨_, rfl⟩
        rw [← hrow] at q
        rw [show (fun _ => (0 : Int)) = totN c L row 0 from (totN_zero c L row).symm] at hd8
        refine for_it (D := { nx := tRet (tCall (spNewView K) [] E0 (tCons (tVar 9) (tCons (tLc (iList K (tCall (spPlaces K) [] E0 (tCons (tVar 6) tNil))) (gName 11) tYes (tDGet (tVar 10) (tVar 11)) [11]) tNil))) { nx := fun _ H' => Q V.non H', rt := Q }, rt := Q }) (walk_refs tps2.len) (fun i σ H9 => But Dt H8 H9 ∧ H9 Dt = some (.dT (dictN (places (leftN c L)) (totN c L row i))) ∧ ∃ sl x0 k0 u7 u8 u11 u12, H5 sl = some (.tup (tn stay)) ∧ σ = [some (.ref v), some x0, some (.int 0), some (.bl k0), some (.ref la), some (.ref g), some (.ref lf), u7, u8, some (.ref sl), some (.ref Dt), u11, u12]) ⟨Same.but Dt (Same.refl H8), hd8, _, _, _, none, none, none, none, hsl, rfl⟩ (fun i σ H9 _ h => ?_) ?_ ?_
        · have nd : pl2 ≠ Dt := ne_of hpl2 hd8 (by intro z; cases z)
          exact SqL.of (h.1 _ _ nd hpl2)
        · rintro i z σ H9 H10 hi ⟨bt9, hd9, sl9, x0, k0, u7, u8, u11, u12, hsl9, rfl⟩ ⟨rfl, pa, hpa, rfl⟩
          obtain ⟨p, hp, hpt⟩ := tps2.get hpa
          have hin := mem_places.mp (List.mem_of_getElem? hp)
          have keep : ∀ b o, H8 b = some o → (∀ kvs, o ≠ .dT kvs) → H10 b = some o := fun b o e n => bt9 b o (fun z => by rw [z, hd8] at e; exact n _ (Option.some.inj e).symm) e
          have hpt9 := keep _ _ hpt (by intro kvs z; cases z)
          have hg9 := keep _ _ (s8 _ _ (s7 _ _ hg6)) (by intro kvs z; cases z)
          refine ⟨_, rfl, _, rfl, pa, _, rfl, SqT.of hpt9, fun D3 hD3' => ?_⟩
          refine lc_new walk_enumT (by rw [tn_len, hin.len]; omega) hD3' (fun i y _ => ∃ k : Nat, (projN c p)[i]? = some k ∧ y = .int (k : Int)) (fun H3 s3 => SqT.of (s3 _ _ hpt9)) (fun _ _ _ _ _ h => h) ?_ ?_
          · rintro j x H11 H12 Kt hj s11 hacc ⟨T1, x1, y1, rfl, hT, rfl, e1, e2⟩ kt
            cases e1
            obtain ⟨l, hl, rfl⟩ := tn_at e2
            have hcl : (projN c p)[j]? = some (if c j = true then 0 else l) := by unfold projN; rw [List.getElem?_mapIdx, hl]; rfl
            refine ⟨T1, _, rfl, SqT.of upd_same, rfl, _, _, rfl, _, _, rfl, rfl, rfl, _, rfl, _, rfl, g, tn gone, rfl, .inl (SqL.of ((Same.new hT) _ _ (s11 _ _ hg9))), rfl, flat_tn gone, _, rfl, ?_⟩
            have ei : (if false = true then !inV (V.int (j : Int)) (tn gone) else inV (V.int (j : Int)) (tn gone)) = c j := by rw [if_neg (by simp), inV_tn, hc]
            rw [ei]
            cases hci : c j with
            | true => exact iteT (kt _ _ (Same.new hT) ⟨0, by rw [hcl, hci]; rfl, rfl⟩)
            | false => exact iteF ⟨_, rfl, kt _ _ (Same.new hT) ⟨l, by rw [hcl, hci]; rfl, rfl⟩⟩
          · intro ys H11 s11 hD11 hy hR
            have e := ys_tn (p := projN c p) (by rw [hy, tn_len]; unfold projN; rw [List.length_mapIdx]) hR
            subst e
            refine ⟨D3, _, rfl, .inl ⟨SqL.of hD11, fun kt hkt => ?_⟩⟩
            have s12 : Same H11 (upd H11 kt (.tup (tn (projN c p)))) := Same.new hkt
            have hk12 : (upd H11 kt (.tup (tn (projN c p)))) kt = some (.tup (tn (projN c p))) := upd_same
            generalize upd H11 kt (.tup (tn (projN c p))) = H12 at s12 hk12
            have s1012 := s11.trans s12
            rw [← tk_V] at hk12
            have hq := mem_places.mpr (inb_proj c hin)
            have s19 : Same H H10 := But.same (s16.free hDt) ((Same.but Dt s18).trans bt9)
            have S12 := S0.same (s19.trans s1012)
            obtain ⟨la12, sa12, ⟨dx12, k1⟩, k2, k3⟩ := id S12.vw
            refine ⟨Dt, _, rfl, (dictN_get hq) ▸ DGet.t (s1012 _ _ hd9) hk12, ?_⟩
            refine ⟨_, rfl, v, dx12, _, rfl, k1, view_no (by decide) (by decide) (by decide) (by decide), _, rfl, v, r, L, b, ss, pa, p, ns, rfl, S12.vw, S12.ok, S12.sl, s1012 _ _ hpt9, hin, S12.rm, S12.wi, fun H13 s13 => ⟨_, _, rfl, rfl, ?_⟩⟩
            have lt9 : (dictN (places (leftN c L)) (totN c L row i)).length < sizeLine := by
              have h9 := okl.size
              refine sz_lt ?_
              unfold dictN
              rw [List.length_map, places_len]; omega
            refine ⟨_, DPut.t (s13 _ _ (s1012 _ _ hd9)) (s13 _ _ hk12) lt9, ?_⟩
            refine ⟨fun b o n e => by rw [upd_ne n]; exact s13 _ _ (s1012 _ _ (bt9 b o n e)), ?_, _, _, _, _, _, _, _, hsl9, rfl⟩
            rw [upd_same, dictN_put hq, totN_step hp, at_pick hin, hrow]
        · rintro σ H9 ⟨bt9, hd9, sl9, x0, k0, u7, u8, u11, u12, hsl9, rfl⟩
          rw [places_len] at hd9
          have s89 : ∀ b o, H8 b = some o → (∀ kvs, o ≠ .dT kvs) → H9 b = some o := fun b o e n => bt9 b o (fun z => by rw [z, hd8] at e; exact n _ (Option.some.inj e).symm) e
          have s09 : Same H H9 := But.same (s16.free hDt) ((Same.but Dt s18).trans bt9)
          have to9 : ∀ b o, H5 b = some o → (∀ kvs, o ≠ .dT kvs) → H9 b = some o := fun b o e n => s89 b o (s8 _ _ (s7 _ _ (s6 _ _ e))) n
          have hlf9 := to9 _ _ hlf5 (by intro kvs z; cases z)
          have hst9 := to9 _ _ hsl9 (by intro kvs z; cases z)
          refine ⟨_, rfl, _, rfl, lf, leftN c L, rfl, SqT.of hlf9, okl.len, okl.each, by have := okl.size; omega, fun pl3 H10 s10 hpl30 ⟨as3, hpl3, tps3⟩ => ?_⟩
          refine ⟨pl3, rfl, ⟨_, SqL.of hpl3⟩, fun D4 hD4 => ?_⟩
          refine lc_new (walk_refs tps3.len) (by rw [places_len]; have := okl.size; omega) hD4 (fun i y _ => ∃ k : Int, (sumsN c L row)[i]? = some k ∧ y = .int k) (fun H3 s3 => SqL.of (s3 _ _ hpl3)) (fun _ _ _ _ _ h => h) ?_ ?_
          · rintro i x H11 H12 Kt hi s11 hacc ⟨rfl, pa, hpa, rfl⟩ kt
            obtain ⟨p, hp, hpt⟩ := tps3.get hpa
            have hpt11 := s11 _ _ hpt
            rw [← tk_V] at hpt11
            refine ⟨rfl, _, rfl, _, rfl, Dt, _, rfl, (dictN_get (List.mem_of_getElem? hp)) ▸ DGet.t (s11 _ _ (s10 _ _ hd9)) hpt11, kt _ _ (Same.refl _) ⟨_, ?_, rfl⟩⟩
            unfold sumsN
            rw [List.getElem?_map, hp]
            rfl
          · intro ys H11 s11 hD11 hy hR
            have e := ys_ti (p := sumsN c L row) (by rw [hy]; unfold sumsN; rw [List.length_map]) hR
            subst e
            have s911 := s10.trans s11
            refine ⟨sl9, D4, stay, sumsN c L row, rfl, s911 _ _ hst9, hD11, by unfold sumsN; rw [List.length_map, places_len, hst], okst, fun y H12 s12 nv => ?_⟩
            have s012 := (s09.trans s911).trans s12
            exact q y H12 s012 (nv.back (s09.trans s911))
end
end VG
-- VgMath7
set_option linter.all false
namespace VG
/-- how far one side reaches, the way w -/
def far1 (w : Int) (l : Nat) (s : Int) : Int := if 0 < l ∧ 0 < s * w then ((l : Int) - 1) * s else 0
def rch (w : Int) : List Nat → List Int → Int
  | l :: ls, s :: ss => far1 w l s + rch w ls ss
  | _, _ => 0
theorem rch_fold (w : Int) : ∀ (ls : List Nat) (ss : List Int) (a : Int), (ls.zip ss).foldl (fun a q => a + far1 w q.1 q.2) a = a + rch w ls ss
  | l :: ls, s :: ss, a => by
    rw [List.zip_cons_cons, List.foldl_cons, rch_fold w ls ss, rch]
    dsimp only
    omega
  | [], _, a => by simp [rch]
  | _ :: _, [], a => by simp [rch]
theorem far1_in {l k : Nat} (s : Int) (h : k < l) : far1 (-1) l s ≤ (k : Int) * s ∧ (k : Int) * s ≤ far1 1 l s := by
  unfold far1
  rcases Int.lt_trichotomy s 0 with z | z | z
  · rw [if_pos ⟨by omega, by omega⟩, if_neg (by omega)]
    have h1 : (0 : Int) ≤ ((l : Int) - 1 - k) * (-s) := Int.mul_nonneg (by omega) (by omega)
    have h2 : (0 : Int) ≤ (k : Int) * (-s) := Int.mul_nonneg (by omega) (by omega)
    rw [Int.mul_neg] at h1 h2
    rw [Int.sub_mul] at h1
    omega
  · subst z
    rw [if_neg (by omega), if_neg (by omega)]
    omega
  · rw [if_neg (by omega), if_pos ⟨by omega, by omega⟩]
    have h1 : (0 : Int) ≤ ((l : Int) - 1 - k) * s := Int.mul_nonneg (by omega) (by omega)
    have h2 : (0 : Int) ≤ (k : Int) * s := Int.mul_nonneg (by omega) (by omega)
    rw [Int.sub_mul] at h1
    omega
theorem far1_sign (l : Nat) (s : Int) : far1 (-1) l s ≤ 0 ∧ 0 ≤ far1 1 l s := by
  by_cases h : 0 < l
  · have := far1_in (k := 0) s h
    simpa using this
  · unfold far1
    rw [if_neg (by omega), if_neg (by omega)]
    omega
theorem rch_sign : ∀ (ls : List Nat) (ss : List Int), rch (-1) ls ss ≤ 0 ∧ 0 ≤ rch 1 ls ss
  | l :: ls, s :: ss => by
    have a := far1_sign l s
    have b := rch_sign ls ss
    simp only [rch]
    omega
  | [], _ => by simp [rch]
  | _ :: _, [] => by simp [rch]
theorem dot_rch : ∀ (p ls : List Nat) (ss : List Int), Inb p ls → ss.length = ls.length → rch (-1) ls ss ≤ dot p ss ∧ dot p ss ≤ rch 1 ls ss
  | [], [], [], _, _ => by simp [rch, dot]
  | k :: p, l :: ls, s :: ss, h, e => by
    have a := far1_in s h.1
    have b := dot_rch p ls ss h.2 (by simpa using e)
    simp only [rch, dot]
    omega
  | [], _ :: _, _, h, _ => h.elim
  | _ :: _, [], _, h, _ => h.elim
  | [], [], _ :: _, _, e => by simp at e
  | _ :: _, _ :: _, [], _, e => by simp at e
theorem within_rch {ls : List Nat} {ss : List Int} {b : Int} {n : Nat} (e : ss.length = ls.length) (h1 : 0 ≤ b + rch (-1) ls ss) (h2 : b + rch 1 ls ss < n) : Within (cells ls b ss) n := by
  intro c hc
  obtain ⟨p, hp, rfl⟩ := List.mem_map.mp hc
  have := dot_rch p ls ss (mem_places.mp hp) e
  unfold cellAt
  omega
def spn (ls : List Nat) (ss : List Int) : Int := rch 1 ls ss - rch (-1) ls ss
theorem rch_set (w : Int) : ∀ {ls : List Nat} {ss : List Int} {i l : Nat} {v : Int}, ls[i]? = some l → ss[i]? = some 0 → rch w ls (ss.set i v) = rch w ls ss + far1 w l v
  | l0 :: ls, s :: ss, 0, l, v, h1, h2 => by
    simp at h1 h2
    subst h1 h2
    have z : far1 w l0 0 = 0 := by unfold far1; simp
    simp only [List.set_cons_zero, rch, z]
    omega
  | l0 :: ls, s :: ss, i + 1, l, v, h1, h2 => by
    have ih := rch_set w (i := i) (v := v) (by simpa using h1 : ls[i]? = some l) (by simpa using h2 : ss[i]? = some 0)
    simp only [List.set_cons_succ, rch, ih]
    omega
  | [], _, _, _, _, h1, _ => by simp at h1
  | _ :: _, [], _, _, _, _, h2 => by simp at h2
theorem dot_set : ∀ {p : List Nat} {ss : List Int} {i k : Nat} {v : Int}, p[i]? = some k → ss[i]? = some 0 → dot p (ss.set i v) = dot p ss + (k : Int) * v
  | a :: p, s :: ss, 0, k, v, h1, h2 => by
    simp at h1 h2
    subst h1 h2
    simp only [List.set_cons_zero, dot]
    omega
  | a :: p, s :: ss, i + 1, k, v, h1, h2 => by
    have ih := dot_set (i := i) (v := v) (by simpa using h1 : p[i]? = some k) (by simpa using h2 : ss[i]? = some 0)
    simp only [List.set_cons_succ, dot, ih]
    omega
  | [], _, _, _, _, h1, _ => by simp at h1
  | _ :: _, [], _, _, _, _, h2 => by simp at h2
/-- how many places, noughts left out -/
def szM : List Nat → Nat
  | [] => 1
  | l :: r => max 1 l * szM r
theorem szM_pos : ∀ l : List Nat, 1 ≤ szM l
  | [] => Nat.le_refl _
  | a :: r => Nat.mul_pos (by omega) (szM_pos r)
theorem szM_append : ∀ a b : List Nat, szM (a ++ b) = szM a * szM b
  | [], b => by simp [szM]
  | x :: a, b => by rw [List.cons_append, szM, szM_append a b, szM, Nat.mul_assoc]
theorem szM_snoc (a : List Nat) (l : Nat) : szM (a ++ [l]) = szM a * max 1 l := by
  rw [szM_append]; simp [szM]
theorem sz_le_szM : ∀ l : List Nat, sz l ≤ szM l
  | [] => Nat.le_refl _
  | a :: r => Nat.mul_le_mul (by omega) (sz_le_szM r)
theorem szM_mem : ∀ {l : List Nat} {x : Nat}, x ∈ l → x ≤ szM l
  | a :: r, x, h => by
    have p := szM_pos r
    rcases List.mem_cons.mp h with z | z
    · subst z
      show x ≤ max 1 x * szM r
      exact Nat.le_trans (by omega : x ≤ max 1 x * 1) (Nat.mul_le_mul_left _ p)
    · have ih := szM_mem z
      show x ≤ max 1 a * szM r
      exact Nat.le_trans ih (Nat.le_mul_of_pos_left _ (by omega))
theorem szM_erase : ∀ {l : List Nat} {j x : Nat}, l[j]? = some x → szM l = max 1 x * szM (l.eraseIdx j)
  | a :: r, 0, x, h => by simp at h; subst h; rfl
  | a :: r, j + 1, x, h => by
    have ih := szM_erase (j := j) (by simpa using h : r[j]? = some x)
    simp only [List.eraseIdx_cons_succ, szM, ih]
    rw [Nat.mul_left_comm]
  | [], _, _, h => by simp at h
theorem eraseIdx_map {α β : Type} (f : α → β) : ∀ (l : List α) (j : Nat), (l.eraseIdx j).map f = (l.map f).eraseIdx j
  | [], _ => by simp
  | a :: r, 0 => rfl
  | a :: r, j + 1 => by simp [eraseIdx_map f r j]
/-- strides drawn for some sides, left: those not drawn, s: the next one -/
structure Unl (L left : List Nat) (f : List Int) (s : Int) : Prop where
  len : f.length = L.length
  nd : left.Nodup
  lt : ∀ i ∈ left, i < L.length
  zero : ∀ i ∈ left, f[i]? = some 0
  pos : 1 ≤ s
  span : spn L f < s
  inj : ∀ p q, Inb p L → Inb q L → (∀ i ∈ left, p[i]? = q[i]?) → dot p f = dot q f → p = q
  big : s * (szM (left.map fun i => L.getD i 0) : Int) ≤ (2 + (L.length : Int) - (left.length : Int)) * (szM L : Int)
  low : ∀ x ∈ f, -168 ≤ x ∧ x ≤ 168
theorem spn_zero (L : List Nat) : spn L (List.replicate L.length 0) = 0 := by
  have h : ∀ (w : Int) (L : List Nat), rch w L (List.replicate L.length 0) = 0 := by
    intro w L
    induction L with
    | nil => rfl
    | cons l L ih =>
      have z : far1 w l 0 = 0 := by unfold far1; simp
      simp only [List.length_cons, List.replicate_succ, rch, ih, z]
      omega
  unfold spn
  rw [h, h]
  omega
theorem map_getD_range (L : List Nat) : (List.range L.length).map (fun i => L.getD i 0) = L := by
  apply List.ext_getElem?
  intro i
  rw [List.getElem?_map]
  by_cases h : i < L.length
  · rw [List.getElem?_range h, List.getElem?_eq_getElem h]
    show some (L.getD i 0) = _
    rw [List.getD_eq_getElem?_getD, List.getElem?_eq_getElem h]
    rfl
  · rw [List.getElem?_eq_none (by rw [List.length_range]; omega), List.getElem?_eq_none (by omega)]
    rfl
theorem Unl.start {L : List Nat} {s : Int} (h1 : 1 ≤ s) (h2 : s ≤ 2) : Unl L (List.range L.length) (List.replicate L.length 0) s := by
  refine ⟨List.length_replicate .., List.nodup_range, fun i h => List.mem_range.mp h, fun i h => ?_, h1, by rw [spn_zero]; omega, fun p q hp hq h _ => ?_, ?_, fun x hx => ?_⟩
  · rw [List.getElem?_replicate, if_pos (List.mem_range.mp h)]
  · apply List.ext_getElem?
    intro i
    by_cases hi : i < L.length
    · exact h i (List.mem_range.mpr hi)
    · rw [List.getElem?_eq_none (by rw [hp.len]; omega), List.getElem?_eq_none (by rw [hq.len]; omega)]
  · rw [map_getD_range, List.length_range]
    have e : (2 + (L.length : Int) - (L.length : Int)) = 2 := by omega
    rw [e]
    exact Int.mul_le_mul_of_nonneg_right h2 (by omega)
  · have := List.eq_of_mem_replicate hx
    omega
theorem far1_pm {l : Nat} {s v : Int} (hs : 1 ≤ s) (hv : v = s ∨ v = -s) : far1 1 l v - far1 (-1) l v = if 0 < l then ((l : Int) - 1) * s else 0 := by
  unfold far1
  by_cases h : 0 < l
  · rw [if_pos h]
    rcases hv with rfl | rfl
    · rw [if_pos ⟨h, by omega⟩, if_neg (by omega)]; omega
    · rw [if_neg (by omega), if_pos ⟨h, by omega⟩, Int.mul_neg]; omega
  · rw [if_neg (by omega), if_neg (by omega), if_neg h]; omega
theorem Unl.step_le {L left : List Nat} {f : List Int} {s : Int} (u : Unl L left f s) (h5 : L.length ≤ 5) (h24 : szM L ≤ 24) : s ≤ 168 := by
  have b := u.big
  have p := szM_pos (left.map fun i => L.getD i 0)
  have h0 := u.pos
  have h1 : s * 1 ≤ s * (szM (left.map fun i => L.getD i 0) : Int) := Int.mul_le_mul_of_nonneg_left (by omega) (by omega)
  have h2 : (2 + (L.length : Int) - (left.length : Int)) * (szM L : Int) ≤ 7 * (szM L : Int) := Int.mul_le_mul_of_nonneg_right (by omega) (by omega)
  omega
theorem Unl.step {L left : List Nat} {f : List Int} {s v g : Int} {j a l : Nat} (u : Unl L left f s) (h5 : L.length ≤ 5) (h24 : szM L ≤ 24) (hj : left[j]? = some a) (hl : L[a]? = some l) (hv : v = s ∨ v = -s) (g0 : 0 ≤ g) (g1 : g ≤ 1) :
    Unl L (left.eraseIdx j) (f.set a v) (s * (max 1 (l : Int)) + g) := by
  have ha := List.mem_of_getElem? hj
  have fz := u.zero a ha
  have hs := u.pos
  have hi := inj_of u.nd
  have s168 := u.step_le h5 h24
  have mx : (max 1 (l : Int)) = ((max 1 l : Nat) : Int) := by omega
  have m1 : (1 : Int) ≤ max 1 (l : Int) := by omega
  have sm : s * 1 ≤ s * max 1 (l : Int) := Int.mul_le_mul_of_nonneg_left m1 (by omega)
  have other : ∀ i, i ∈ left.eraseIdx j → i ∈ left ∧ i ≠ a := fun i hi' => by
    obtain ⟨m, hm, e⟩ := List.mem_eraseIdx_iff_getElem?.mp hi'
    exact ⟨List.mem_of_getElem? e, fun z => hm (hi _ _ _ (z ▸ e) hj)⟩
  have hjl := (List.getElem?_eq_some_iff.mp hj).1
  have hlen : (left.eraseIdx j).length = left.length - 1 := by rw [List.length_eraseIdx, if_pos hjl]
  refine ⟨by rw [List.length_set]; exact u.len, u.nd.sublist (List.eraseIdx_sublist ..), fun i h => u.lt i (other i h).1, fun i h => ?_, by omega, ?_, fun p q hp hq h e => ?_, ?_, fun x hx => ?_⟩
  · rw [List.getElem?_set, if_neg fun z => (other i h).2 z.symm]
    exact u.zero i (other i h).1
  · have e : spn L (f.set a v) = spn L f + (far1 1 l v - far1 (-1) l v) := by
      unfold spn
      rw [rch_set 1 hl fz, rch_set (-1) hl fz]
      omega
    rw [e, far1_pm hs hv]
    have sp := u.span
    by_cases h0 : 0 < l
    · rw [if_pos h0, Int.sub_mul]
      have e2 : max 1 (l : Int) = l := by omega
      rw [e2, Int.mul_comm s]
      omega
    · rw [if_neg h0]
      omega
  · have hal := u.lt a ha
    obtain ⟨pa, hpa⟩ : ∃ x, p[a]? = some x := ⟨p[a]'(by rw [hp.len]; exact hal), by simp [show a < p.length by rw [hp.len]; exact hal]⟩
    obtain ⟨qa, hqa⟩ : ∃ x, q[a]? = some x := ⟨q[a]'(by rw [hq.len]; exact hal), by simp [show a < q.length by rw [hq.len]; exact hal]⟩
    rw [dot_set hpa fz, dot_set hqa fz] at e
    have r1 := dot_rch p L f hp u.len
    have r2 := dot_rch q L f hq u.len
    have sp := u.span
    unfold spn at sp
    have key : pa = qa := by
      have e2 : ((pa : Int) - qa) * v = dot q f - dot p f := by rw [Int.sub_mul]; omega
      have e3 : ((pa : Int) - qa) * s < s ∧ -s < ((pa : Int) - qa) * s := by
        rcases hv with rfl | rfl
        · omega
        · rw [Int.mul_neg] at e2; omega
      rcases Int.lt_trichotomy ((pa : Int) - qa) 0 with z | z | z
      · have : ((pa : Int) - qa) * s ≤ (-1) * s := Int.mul_le_mul_of_nonneg_right (by omega) (by omega)
        omega
      · omega
      · have : 1 * s ≤ ((pa : Int) - qa) * s := Int.mul_le_mul_of_nonneg_right (by omega) (by omega)
        omega
    subst key
    refine u.inj p q hp hq (fun i hil => ?_) (by omega)
    by_cases z : i = a
    · rw [z, hpa, hqa]
    · refine h i ?_
      obtain ⟨m, hm⟩ := List.getElem?_of_mem hil
      refine List.mem_eraseIdx_iff_getElem?.mpr ⟨m, fun e => z ?_, hm⟩
      rw [e, hj] at hm
      exact (Option.some.inj hm).symm
  · have b := u.big
    have e1 : (left.map fun i => L.getD i 0)[j]? = some l := by
      rw [List.getElem?_map, hj]
      show some (L.getD a 0) = _
      rw [List.getD_eq_getElem?_getD, hl]
      rfl
    rw [szM_erase e1, Int.natCast_mul, ← mx, ← eraseIdx_map, ← Int.mul_assoc] at b
    rw [hlen]
    have le : szM ((left.eraseIdx j).map fun i => L.getD i 0) ≤ szM L := by
      have : szM L = szM ((List.range L.length).map fun i => L.getD i 0) := by rw [map_getD_range]
      have b2 := b
      have w : ∀ (A B : List Nat), A.Nodup → (∀ i ∈ A, i ∈ B) → szM (A.map fun i => L.getD i 0) ≤ szM (B.map fun i => L.getD i 0) := by
        intro A
        induction A with
        | nil => intro B _ _; exact szM_pos _
        | cons x A ih =>
          intro B nd sub
          obtain ⟨m, hm⟩ := List.getElem?_of_mem (sub x (List.mem_cons_self ..))
          have e3 : (B.map fun i => L.getD i 0)[m]? = some (L.getD x 0) := by rw [List.getElem?_map, hm]; rfl
          rw [szM_erase e3, ← eraseIdx_map]
          show max 1 (L.getD x 0) * _ ≤ _
          have nd2 := List.nodup_cons.mp nd
          refine Nat.mul_le_mul_left _ (ih (B.eraseIdx m) nd2.2 fun i hiA => ?_)
          obtain ⟨m2, hm2⟩ := List.getElem?_of_mem (sub i (List.mem_cons_of_mem _ hiA))
          refine List.mem_eraseIdx_iff_getElem?.mpr ⟨m2, fun e => ?_, hm2⟩
          rw [e, hm] at hm2
          cases hm2
          exact nd2.1 hiA
      rw [this]
      exact w _ _ (u.nd.sublist (List.eraseIdx_sublist ..)) fun i h => List.mem_range.mpr (u.lt i (other i h).1)
    generalize hA : (szM ((left.eraseIdx j).map fun i => L.getD i 0) : Int) = A at b ⊢
    have hA1 : A ≤ szM L := by rw [← hA]; exact Int.ofNat_le.mpr le
    have hA0 : 0 ≤ A := by rw [← hA]; exact Int.natCast_nonneg _
    have hg : g * A ≤ 1 * A := Int.mul_le_mul_of_nonneg_right g1 hA0
    rw [Int.add_mul]
    have eN : (2 + (L.length : Int) - ((left.length - 1 : Nat) : Int)) * (szM L : Int) = (2 + (L.length : Int) - (left.length : Int)) * (szM L : Int) + (szM L : Int) := by
      have : (2 + (L.length : Int) - ((left.length - 1 : Nat) : Int)) = (2 + (L.length : Int) - (left.length : Int)) + 1 := by omega
      rw [this, Int.add_mul, Int.one_mul]
    rw [eN]
    omega
  · rcases List.mem_or_eq_of_mem_set hx with z | z
    · exact u.low x z
    · rcases hv with rfl | rfl <;> omega
theorem Unl.cells {L : List Nat} {f : List Int} {s b : Int} (u : Unl L [] f s) : Inj (cells L b f) := by
  intro i j c hi hj
  unfold VG.cells at hi hj
  rw [List.getElem?_map] at hi hj
  cases h1 : (places L)[i]? with
  | none => rw [h1] at hi; cases hi
  | some p =>
    cases h2 : (places L)[j]? with
    | none => rw [h2] at hj; cases hj
    | some q =>
      rw [h1] at hi
      rw [h2] at hj
      have e1 : cellAt b f p = c := Option.some.inj hi
      have e2 : cellAt b f q = c := Option.some.inj hj
      unfold cellAt at e1 e2
      have e := u.inj p q (mem_places.mp (List.mem_of_getElem? h1)) (mem_places.mp (List.mem_of_getElem? h2)) (fun i h => by cases h) (by omega)
      rw [← idx_at h1, ← idx_at h2, e]
end VG
-- VgLeast
set_option Elab.async false
set_option linter.all false
set_option maxRecDepth 100000
set_option maxHeartbeats 4000000
namespace VG
open PySem PySem.Spec PyProof.Rows L2 LamX NdefX
/-- the least number, nought of none -/
def minZ : List Int → Int
  | [] => 0
  | x :: xs => xs.foldl min x
theorem fold_min : ∀ (xs : List Int) (x : Int), (xs.foldl min x = x ∨ xs.foldl min x ∈ xs) ∧ xs.foldl min x ≤ x ∧ ∀ y ∈ xs, xs.foldl min x ≤ y
  | [], x => ⟨.inl rfl, Int.le_refl _, fun y h => by cases h⟩
  | a :: xs, x => by
    obtain ⟨h1, h2, h3⟩ := fold_min xs (min x a)
    rw [List.foldl_cons]
    refine ⟨?_, by omega, fun y hy => ?_⟩
    · rcases h1 with z | z
      · by_cases q : x ≤ a
        · left; rw [z]; omega
        · right; rw [z, show min x a = a by omega]; exact List.mem_cons_self ..
      · right; exact List.mem_cons_of_mem _ z
    · rcases List.mem_cons.mp hy with z | z
      · rw [z]; omega
      · exact h3 y z
theorem minZ_mem : ∀ {ns : List Int}, ns ≠ [] → minZ ns ∈ ns ∧ ∀ y ∈ ns, minZ ns ≤ y
  | [], h => absurd rfl h
  | x :: xs, _ => by
    obtain ⟨h1, h2, h3⟩ := fold_min xs x
    refine ⟨?_, fun y hy => ?_⟩
    · rcases h1 with z | z
      · show xs.foldl min x ∈ _; rw [z]; exact List.mem_cons_self ..
      · exact List.mem_cons_of_mem _ z
    · rcases List.mem_cons.mp hy with z | z
      · rw [z]; exact h2
      · exact h3 y z
theorem minZ_of {ns : List Int} {m : Int} (h : m ∈ ns) (hle : ∀ y ∈ ns, m ≤ y) : m = minZ ns := by
  have hne : ns ≠ [] := fun z => by rw [z] at h; cases h
  obtain ⟨h1, h2⟩ := minZ_mem hne
  have a := hle _ h1
  have b := h2 _ h
  omega
theorem over_less {cs H : Hp} (hs : ∀ b o, cs b = some o → H b = some o ∧ ∃ ob, o = .frz ob anyO) : over cs (less cs H) = H := by
  funext b
  cases q : cs b with
  | some u => rw [over_in q]; exact (hs b u q).1.symm
  | none => rw [over_out q, less_out q]
/-- the least ones along a side -/
def minsN (L : List Nat) (at_ : Nat) (row : List Int) : List Int := (alongN L at_ row).map minZ
section
variable {P : Program} {w : World} {K : PySem.W.Frag} {mg : Str → Option Value} {base : Heap}
def spFirst (P : Program) (w : World) (K : PySem.W.Frag) (mg : Str → Option Value) (base : Heap) (kd : Nat) : Sp := fun vs H Q _ => ∃ (v r d : Addr) (L : List Nat) (b : Int) (ss ns : List Int) (at_ : Nat) (G : Hp → Prop) (sp : Sp), vs = [.ref v, .int (at_ : Int), .int 0, .ref d] ∧ Src K H v r ns L b ss ∧ at_ < L.length ∧ Okl (oth L at_) ∧
  Act P w K mg base kd d G sp ∧ (∀ H', Same H H' → G H') ∧ (∀ n H, sp [.int n] H (fun v H' => v = .int n ∧ H' = H) E0) ∧ ∀ y H', Same H H' → NewV K H H' y (oth L at_) (minsN L at_ (pick ns (cells L b ss))) → Q (.ref y) H'
theorem ok_first_by (T : Tx K mg) (kd : Nat) : Def P w K mg base (kd + 9) "first_by" ["view", "side", "default", "rank"] [] (spFirst P w K mg base kd) := by
  refine Def.mk0 (f_first_by T) (g_first_by T) sc_first_by (fun _ _ _ _ _ _ us hl => match us, hl with | [_, _, _, _], _ => rfl) (fun vs H Q E h => ?_) (fun cdv A outer s H vs Q E hr h => ?_)
  · obtain ⟨v, r, d, L, b, ss, ns, at_, G, sp, rfl, _⟩ := h; rfl
  · obtain ⟨v, r, d, L, b, ss, ns, at_, G, sp, rfl, S0, hat, okl, ha, hG, hsp, q⟩ := h
    have hu := hr.units0
    refine ⟨_, (pss_cons (ps_par (i := 4) (j := 5) (by rfl) sc_first_by.nd rfl rfl (by decide) rfl rfl (pa_cons (pe_tup pa_nil) (pa_cons (pe_lst (pa_cons (pe_m0K (K := K) (P := P) (w := w) (mg := mg) (base := base) ((ok_View_numbers T).mono (by omega)) (cl_View T) rfl rfl rfl rfl rfl hr (pv 0)) pa_nil)) pa_nil)) (by rfl))
    (pss_cons (ps_if (pt_cmpR op_notN (pv 1) pe_non (nomark _)) (pss_cons (ps_set (i := 6) sc_first_by.nd rfl (Or.inl rfl) (pe_fK (K := K) (P := P) (w := w) (mg := mg) (base := base) ((ok_side_of T).mono (by omega)) rfl rfl rfl rfl rfl hr (by rfl) (pa_cons (pv 1) (pa_cons (pe_callB (call_lenK (K := K) rfl) (by rfl) (z_len T) (by decide +kernel) (pa_cons (pe_m0K (K := K) (P := P) (w := w) (mg := mg) (base := base) ((ok_View_sides T).mono (by omega)) (cl_View T) rfl rfl rfl rfl rfl hr (pv 0)) pa_nil)) pa_nil))))
    (pss_cons (ps_if (pt_cmpR op_isN (pv 2) pe_non (nomark _)) pss_never pss_nil)
    (pss_cons (ps_set (i := 4) sc_first_by.nd rfl (Or.inl rfl) (pe_fK (K := K) (P := P) (w := w) (mg := mg) (base := base) ((ok_others_of T).mono (by omega)) rfl rfl rfl rfl rfl hr (by rfl) (pa_cons (pe_m0K (K := K) (P := P) (w := w) (mg := mg) (base := base) ((ok_View_sides T).mono (by omega)) (cl_View T) rfl rfl rfl rfl rfl hr (pv 0)) (pa_cons (pv 6) pa_nil))))
    (pss_cons (ps_expr (pe_fK (K := K) (P := P) (w := w) (mg := mg) (base := base) ((ok_vet_size T).mono (by omega)) rfl rfl rfl rfl rfl hr (by rfl) (pa_cons (pv 4) pa_nil)))
    (pss_one (ps_set (i := 5) sc_first_by.nd rfl (Or.inl rfl) (pe_fK (K := K) (P := P) (w := w) (mg := mg) (base := base) ((ok_along T).mono (by omega)) rfl rfl rfl rfl rfl hr (by rfl) (pa_cons (pv 0) (pa_cons (pv 6) pa_nil))))))))) (pss_one (ps_if (PW.pt (pw_and (pt_cmpR op_isN (pv 2) pe_non (nomark _)) (pw_and1 (pt_cmpR op_eq (pe_callB (call_lenK (K := K) rfl) (by rfl) (z_len T) (by decide +kernel) (pa_cons (pv 0) pa_nil)) pe_int (nomark _))))) (pss_one ps_never) pss_nil)))
    (pss_one (ps_ret (pe_fK (K := K) (P := P) (w := w) (mg := mg) (base := base) ((ok_new_view T).mono (by omega)) rfl rfl rfl rfl rfl hr (by rfl) (pa_cons (pv 4) (pa_cons (pe_lc (own := [("row", 7)]) (tt := tYes) rfl sc_first_by.nd (pi_listK (K := K) rfl (pv 5)) (blkOk_by (own := [("row", 7)]) (sc := defScope s_first_by) (N := n_first_by) (by decide +kernel)) (fun _ _ _ _ _ => (pg_name (i := 7) sc_first_by.nd rfl (by first | exact Or.inl rfl | exact Or.inr rfl))) (fun _ _ _ _ _ => pts_nil) (fun _ _ _ _ _ => (pe_ifExp (pt_cmpR (op_neE (K := K) rfl hu) (pv 7) (pe_lst pa_nil) (nomark _)) (pe_callBK (cr_minKey (P := P) (w := w) (K := K) (mg := mg) (base := base) (k := kd) rfl rfl rfl rfl rfl (hr.mono (by omega))) (by rfl) (z_min T) (by decide +kernel) (pa_cons (pv 7) pa_nil) (pk_cons (pv 3) pk_nil)) (pv 2)))) pa_nil))))))), ?_⟩
    obtain ⟨la0, sa0, ⟨dx, h1⟩, h2, h3⟩ := id S0.vw
    have h5 := S0.ok.len
    have hv := S0.vw
    refine ⟨sz_ok (Nat.zero_le _), fun t ht => ⟨_, rfl, v, dx, _, rfl, (Same.new ht) _ _ h1, view_no (by decide) (by decide) (by decide) (by decide), v, r, L, b, ss, ns, rfl, hv.same (Same.new ht), S0.ok, S0.sl, S0.rm.same (Same.new ht), S0.wi, fun l0 H1 s1 hl0 hl => ⟨sz_ok (by show 1 ≤ 100000; decide), fun m hm => ?_⟩⟩⟩
    have s2 : Same H (upd H1 m (.lst [.ref l0])) := ((Same.new ht).trans s1).trans (Same.new hm)
    generalize upd H1 m (.lst [.ref l0]) = H2 at s2 ⊢
    refine ⟨_, _, rfl, ?_⟩
    refine ⟨_, rfl, rfl, _, rfl, iteT ?_⟩
    have S2 := S0.same s2
    refine ⟨_, rfl, _, rfl, v, dx, _, rfl, s2 _ _ h1, view_no (by decide) (by decide) (by decide) (by decide), v, r, L, b, ss, rfl, S2.vw, fun la hla => ⟨la, _, rfl, .inr (SqT.of hla), ?_⟩⟩
    rw [tn_len]
    refine ⟨at_, L.length, rfl, hat, ?_⟩
    refine ⟨_, rfl, rfl, _, rfl, iteF ?_⟩
    refine ⟨_, rfl, v, dx, _, rfl, s2 _ _ h1, view_no (by decide) (by decide) (by decide) (by decide), v, r, L, b, ss, rfl, S2.vw, fun la2 hla2 => ?_⟩
    refine ⟨_, rfl, la2, L, at_, rfl, hla2, h5, fun t2 H3 s3 ht2 => ?_⟩
    have s03 := s2.trans s3
    have S3 := S0.same s03
    refine ⟨_, rfl, t2, oth L at_, rfl, SqT.of ht2, okl, ?_⟩
    refine ⟨_, rfl, _, rfl, v, r, L, b, ss, ns, at_, rfl, S3, hat, okl.size, fun rl as H4 s4 hrl hrows => ?_⟩
    have s04 := s03.trans s4
    have ht4 := s4 _ _ ht2
    obtain ⟨rows, hrw⟩ : ∃ rows, rows = alongN L at_ (pick ns (cells L b ss)) := ⟨_, rfl⟩
    rw [← hrw] at hrows
    have hrl2 : rows.length = sz (oth L at_) := by rw [hrw]; unfold alongN; rw [List.length_map, places_len]
    refine ⟨_, rfl, _, rfl, rl, rfl, ⟨_, SqL.of hrl⟩, fun D hD => ?_⟩
    refine lc_new (walk_refs hrows.1) (by have := okl.size; omega) hD (fun i y _ => ∃ k : Int, (rows.map minZ)[i]? = some k ∧ y = .int k) (fun H5 s5 => SqL.of (s5 _ _ hrl)) (fun _ _ _ _ _ h => h) ?_ ?_
    · rintro i x H5 H6 Kt hi s5 hacc ⟨rfl, a, ha', rfl⟩ kt
      obtain ⟨row, hrow⟩ : ∃ row, rows[i]? = some row := ⟨rows[i]'hi, by simp [hi]⟩
      have hra := s5 _ _ (hrows.2 i a row ha' hrow)
      have hmi : (rows.map minZ)[i]? = some (minZ row) := by rw [List.getElem?_map, hrow]; rfl
      refine ⟨rfl, _, rfl, sz_ok (Nat.zero_le _), fun z hz => ?_⟩
      have s6 : Same H6 (upd H6 z (.lst [])) := Same.new hz
      refine ⟨a, z, _, rfl, rfl, SqL.of (s6 _ _ hra), SqL.of upd_same, _, rfl, ?_⟩
      cases row with
      | nil => exact iteF ⟨_, rfl, kt _ _ s6 ⟨_, hmi, rfl⟩⟩
      | cons x0 xs =>
        refine iteT ⟨_, rfl, _, rfl, a, d, x0 :: xs, G, sp, rfl, rfl, SqL.of (s6 _ _ hra), by simp, ha, hG _ ((s04.trans s5).trans s6), fun n _ => hsp n _, fun m' hm' hle => kt _ _ s6 ⟨_, hmi, ?_⟩⟩
        rw [minZ_of hm' hle]
    · intro ys H5 s5 hD5 hy hR
      have e := ys_ti (p := rows.map minZ) (by rw [hy, List.length_map]) hR
      subst e
      have s05 := s04.trans s5
      refine ⟨t2, D, oth L at_, rows.map minZ, rfl, s5 _ _ ht4, hD5, by rw [List.length_map, hrl2], okl, fun y H6 s6 nv => q y H6 (s05.trans s6) ?_⟩
      have e2 : rows.map minZ = minsN L at_ (pick ns (cells L b ss)) := by rw [hrw]; rfl
      rw [← e2]
      exact nv.back s05
end
end VG
-- VgLeast2
set_option Elab.async false
set_option linter.all false
set_option maxRecDepth 100000
set_option maxHeartbeats 4000000
namespace VG
open PySem PySem.Spec PyProof.Rows L2 LamX NdefX
theorem capH_nil {H : Hp} : CapH [] [] [] H := ⟨rfl, fun _ _ _ e _ => (nomatch e), fun _ _ e => (nomatch e), fun i y e => (by simp at e)⟩
section
variable {P : Program} {w : World} {K : PySem.W.Frag} {mg : Str → Option Value} {base : Heap}
def spIdent : Sp := fun vs H Q _ => ∃ n : Int, vs = [.int n] ∧ Q (.int n) H
theorem act_least {q : Str} {c f : Addr} : Act P w K mg base 1 f (LamG f (FL q s_lam_least0 [] c) (lamBody s_lam_least0) [] []) spIdent := by
  refine act_lam (k := 0) (ps := ["number"]) sc_lam_least0 (fun _ _ us hl => match us, hl with | [_], _ => rfl) (fun vs H Q E h => by obtain ⟨n, rfl, _⟩ := h; rfl) (fun A outer s H cs vs Q hr g hs h => ?_)
  obtain ⟨n, rfl, q⟩ := h
  refine ⟨_, (pv 0), ?_⟩
  refine ⟨_, rfl, fun _ => ?_⟩
  rw [over_less hs]
  exact q
def spLeast (K : PySem.W.Frag) : Sp := fun vs H Q _ => ∃ (v r : Addr) (L : List Nat) (b : Int) (ss ns : List Int) (at_ : Nat), vs = [.ref v, .int (at_ : Int), .int 0] ∧ Src K H v r ns L b ss ∧ at_ < L.length ∧ Okl (oth L at_) ∧ Tbs K H ∧
  ∀ y H', Ext H H' → Tbs K H' → NewV K H H' y (oth L at_) (minsN L at_ (pick ns (cells L b ss))) → Q (.ref y) H'
theorem fn_least (T : Tx K mg) (tb : TbB K mg base) {fd : FuncData} (F : FunR K d_least fd) : FnOk P w K mg base CX0 12 (He.fAd K d_least.at_) fd ["view", "side", "default"] (spLeast K) := by
  have hp : (("least", none) : He.Defn) ∈ tf := by decide +kernel
  refine fn_okC (p := ("least", none)) F sc_least (fun vs H Q E h => ?_) (fun cdv A outer s H vs Q E hcd hr h => ?_)
  · obtain ⟨v, r, L, b, ss, ns, at_, rfl, _⟩ := h; rfl
  · obtain ⟨v, r, L, b, ss, ns, at_, rfl, S0, hat, okl, htb, q⟩ := h
    subst hcd
    refine ⟨_, (pss_one (ps_ret (pe_fK (K := K) (P := P) (w := w) (mg := mg) (base := base) ((ok_first_by T 1).mono (by omega)) rfl rfl rfl rfl rfl hr (by rfl) (pa_cons (pv 0) (pa_cons (pv 1) (pa_cons (pv 2) (pa_cons (pe_lam (Ps := PsT K) (nm := nmL) (tb _ hp) rfl (List.mem_map.mpr ⟨_, hp, rfl⟩) (by kernel_rfl) (ndef_free (sc := defScope s_least) (nsc := lamScope s_lam_least0) (fr := []) (by decide +kernel))) pa_nil))))))), ?_⟩
    refine ⟨_, rfl, _, rfl, _, rfl, htb, fun f c' H1 eN nn T1 f0 f1 c1 => ?_⟩
    have x01 : Ext H H1 := ⟨eN, nn⟩
    obtain ⟨qz, oz, g0⟩ : ∃ q c, LamG f (FL q s_lam_least0 [] c) (lamBody s_lam_least0) [] [] H1 := ⟨_, _, lamG_of f1 c1 capH_nil⟩
    refine ⟨v, r, f, L, b, ss, ns, at_, _, spIdent, rfl, S0.ext x01, hat, okl, act_least, fun H' s => g0.keep (fun a φ h => s _ _ h) (fun b ob h => s _ _ h), fun n H => ⟨n, rfl, rfl, rfl⟩, fun y H' s nv => q y H' (x01.trans (Ext.of s)) (T1.ext s) ?_⟩
    obtain ⟨r1, b1, ss1, G1, a1, a2, a3, a4, a5, a6⟩ := nv
    exact ⟨r1, b1, ss1, G1, a1, a2, a3, a4, fun y hy => x01.there _ (a5 y hy), x01.there _ a6⟩
theorem okw_least (T : Tx K mg) (tb : TbB K mg base) : DefK P w K mg base 12 "least" ["view", "side", "default"] 2 ["default"] (fun vs zs => vs ++ zs) (spLeast K) := by
  obtain ⟨fd, F⟩ := f_least T
  obtain ⟨g, h⟩ := b_least F
  exact ⟨⟨_, fd, g, fn_least T tb F, g_least T, F.kp, h⟩⟩
end
end VG
-- VgLaw1
set_option Elab.async false
set_option linter.all false
set_option maxRecDepth 100000
set_option maxHeartbeats 4000000
namespace VG
open PySem PySem.Spec PyProof.Rows L2
section
variable {X : Cx}
theorem op_powX : OpR X (binaryOp .Pow) (rI (fun i j => 0 ≤ j ∧ (Builtin.Int.intBits i : Int) * j ≤ 2 ^ 27) fun i j => .int (i ^ j.toNat)) := opI fun _ _ _ _ _ _ _ hc q => pow_int hc.1 hc.2 q
end
/-- a purse of which at most k numbers were taken -/
def Purse (H : Hp) (p : Addr) (k : Nat) : Prop := ∃ (x y : Int) (j : Nat), H p = some (.lst [.int x, .int y, .int (j : Int)]) ∧ 0 ≤ x ∧ 0 ≤ y ∧ y < 2 ^ 62 ∧ j ≤ k
theorem Purse.mono {H : Hp} {p : Addr} {k k' : Nat} (h : Purse H p k) (l : k ≤ k') : Purse H p k' := let ⟨x, y, j, a, b, c, d, e⟩ := h; ⟨x, y, j, a, b, c, d, Nat.le_trans e l⟩
theorem Purse.keep {H H' : Hp} {p : Addr} {k : Nat} (h : Purse H p k) (l : ∀ o, H p = some o → H' p = some o) : Purse H' p k := let ⟨x, y, j, a, b⟩ := h; ⟨x, y, j, l _ a, b⟩
theorem Purse.same {H H' : Hp} {p : Addr} {k : Nat} (h : Purse H p k) (s : Same H H') : Purse H' p k := h.keep fun o e => s _ _ e
theorem Purse.some {H : Hp} {p : Addr} {k : Nat} (h : Purse H p k) : ∃ xs, H p = some (.lst xs) := let ⟨_, _, _, a, _⟩ := h; ⟨_, a⟩
/-- all but the purse stays -/
theorem But.there {p : Addr} {H H' : Hp} (b : But p H H') (h : H' p ≠ none) : ∀ x, H' x = none → H x = none := fun x e => by
  cases z : H x with
  | none => rfl
  | some o => rw [b x o (fun q => h (by rw [← q]; exact e)) z] at e; cases e
theorem Purse.ne {H : Hp} {p : Addr} {k : Nat} (h : Purse H p k) : H p ≠ none := by
  obtain ⟨xs, e⟩ := h.some
  rw [e]; intro z; cases z
theorem ix_lt {n : Nat} {m : Int} {xs : List V} (h0 : 0 ≤ m) (h1 : m < n) (hn : n = xs.length) {Q : Prop} (k : ∀ (i : Nat) v, m = (i : Int) → xs[i]? = some v → v ∈ xs → Q) : Q := by
  obtain ⟨i, rfl⟩ := Int.eq_ofNat_of_zero_le h0
  have hi : i < xs.length := by omega
  exact k i xs[i] rfl (List.getElem?_eq_getElem hi) (List.getElem_mem hi)
section
variable {P : Program} {w : World} {K : PySem.W.Frag} {mg : Str → Option Value} {base : Heap}
def spLTake : Sp := fun vs H Q _ => ∃ (p : Addr) (m : Int) (k : Nat), vs = [.ref p, .int m] ∧ Purse H p k ∧ 0 < m ∧ m.natAbs < 2 ^ 110 ∧ k < 100000 ∧ ∀ (n : Nat) H', (n : Int) < m → But p H H' → Purse H' p (k + 1) → Q (.int (n : Int)) H'
theorem ok_l_take (T : Tx K mg) : Def P w K mg base 1 "_law_take" ["_law_purse_here", "_law_many"] [] spLTake := by
  refine Def.mk0 (f_l_take T) (g_l_take T) sc_l_take (fun _ _ _ _ _ _ us hl => match us, hl with | [_, _], _ => rfl) (fun vs H Q E h => ?_) (fun cdv A outer s H vs Q E hr h => ?_)
  · obtain ⟨p, m, k, rfl, _⟩ := h; rfl
  · obtain ⟨p, m, k, rfl, ⟨x, y, j, hp, hx, hy, hy2, hj⟩, hm, hm2, hk, q⟩ := h
    refine ⟨_, (pss_cons (ps_if (pt_cmpR op_gt (pe_ix (ix_K (K := K) rfl) (pv 0) pe_int (fun _ _ => rfl)) pe_int (nomark _)) (pss_cons (ps_set (i := 2) sc_l_take.nd rfl (Or.inl rfl) (pe_op op_mod (pe_ix (ix_K (K := K) rfl) (pv 0) pe_int (fun _ _ => rfl)) (pv 1)))
    (pss_cons (ps_asg (pe_op op_fdivW (pe_ix (ix_K (K := K) rfl) (pv 0) pe_int (fun _ _ => rfl)) (pv 1)) (pg_sub (pv 0) pe_int set_list))
    (pss_one (ps_ret (pv 2))))) pss_nil)
    (pss_cons (ps_set (i := 3) sc_l_take.nd rfl (Or.inl rfl) (pe_tup (pa_cons pe_int (pa_cons pe_int (pa_cons pe_int (pa_cons pe_int (pa_cons pe_int (pa_cons pe_int (pa_cons pe_int pa_nil)))))))))
    (pss_cons (ps_asg (pe_op op_add (pe_ix (ix_K (K := K) rfl) (pv 0) pe_int (fun _ _ => rfl)) pe_int) (pg_sub (pv 0) pe_int set_list))
    (pss_cons (ps_set (i := 4) sc_l_take.nd rfl (Or.inl rfl) (pe_ix (ix_K (K := K) rfl) (pv 0) pe_int (fun _ _ => rfl)))
    (pss_cons (ps_set (i := 5) sc_l_take.nd rfl (Or.inl rfl) (pe_op op_add (pe_op op_mul (pe_op op_add (pe_ix (ix_K (K := K) rfl) (pv 0) pe_int (fun _ _ => rfl)) (pe_op op_mul pe_int (pv 4))) (pe_op op_add (pe_op op_mul pe_int (pv 4)) pe_int)) (pe_op op_mul (pe_op op_mul pe_int (pv 4)) (pv 4))))
    (pss_cons (ps_set (i := 6) sc_l_take.nd rfl (Or.inl rfl) (pe_op op_mod (pe_op op_powX (pv 5) pe_int) (pe_ix (ix_K (K := K) rfl) (pv 3) (pe_op op_mod (pv 4) pe_int) (fun _ _ => rfl))))
    (pss_one (ps_ret (pe_op op_mod (pe_op op_fdivW (pe_op op_mod (pe_op op_mul (pv 6) (pe_op op_add (pe_op op_add (pe_op op_fdivW (pv 6) pe_int) (pe_op op_mul pe_int (pv 4))) pe_int)) (pe_ix (ix_K (K := K) rfl) (pv 3) (pe_op op_mod (pe_op op_add (pv 4) pe_int) pe_int) (fun _ _ => rfl))) pe_int) (pv 1)))))))))), ?_⟩
    refine ⟨_, rfl, q_ixL (i := 0) (SqL.of hp) rfl ⟨_, _, rfl, rfl, _, rfl, ite2 (fun z => ?_) fun z => ?_⟩⟩
    · refine ⟨_, rfl, q_ixL (i := 0) (SqL.of hp) rfl ⟨_, rfl, _, _, rfl, rfl, hm, ?_⟩⟩
      refine ⟨_, rfl, q_ixL (i := 0) (SqL.of hp) rfl ⟨_, rfl, _, _, rfl, rfl, wide_div hm hm2 (by decide) (by decide), ?_⟩⟩
      refine ⟨_, rfl, p, _, _, 0, rfl, rfl, hp, rfl, _, rfl, ?_⟩
      have h0 := Int.emod_nonneg x (show m ≠ 0 by omega)
      have h1 := Int.emod_lt_of_pos x hm
      obtain ⟨n, hn⟩ := Int.eq_ofNat_of_zero_le h0
      show Q (.int (x % m)) (upd H p (.lst [.int (x / m), .int y, .int (j : Int)]))
      rw [hn] at h1 ⊢
      refine q n _ h1 But.put ⟨x / m, y, j, upd_same, Int.ediv_nonneg hx (by omega), hy, hy2, by omega⟩
    · refine ⟨sz_ok (by show 7 ≤ 100000; decide), fun t ht => ?_⟩
      have s1 : Same H (upd H t (.tup [.int 2147483647, .int 2147483629, .int 2147483587, .int 2147483579, .int 2147483563, .int 2147483549, .int 2147483543])) := Same.new ht
      have ht1 : (upd H t (.tup [.int 2147483647, .int 2147483629, .int 2147483587, .int 2147483579, .int 2147483563, .int 2147483549, .int 2147483543])) t = some (.tup [.int 2147483647, .int 2147483629, .int 2147483587, .int 2147483579, .int 2147483563, .int 2147483549, .int 2147483543]) := upd_same
      generalize upd H t (.tup [.int 2147483647, .int 2147483629, .int 2147483587, .int 2147483579, .int 2147483563, .int 2147483549, .int 2147483543]) = H1 at s1 ht1
      have hp1 := s1 _ _ hp
      refine ⟨_, rfl, q_ixL (i := 2) (SqL.of hp1) rfl ⟨_, _, rfl, rfl, ?_⟩⟩
      refine ⟨_, rfl, p, _, _, 2, rfl, rfl, hp1, rfl, ?_⟩
      have hp2 : (upd H1 p (.lst [.int x, .int y, .int ((j : Int) + 1)])) p = some (.lst [.int x, .int y, .int ((j : Int) + 1)]) := upd_same
      have b2 : But p H (upd H1 p (.lst [.int x, .int y, .int ((j : Int) + 1)])) := (Same.but p s1).trans But.put
      have ht2 : (upd H1 p (.lst [.int x, .int y, .int ((j : Int) + 1)])) t = some (.tup [.int 2147483647, .int 2147483629, .int 2147483587, .int 2147483579, .int 2147483563, .int 2147483549, .int 2147483543]) := (upd_ne (ne_of hp1 ht1 (by intro z; cases z)).symm).trans ht1
      have pu2 : Purse (upd H1 p (.lst [.int x, .int y, .int ((j : Int) + 1)])) p (k + 1) := ⟨x, y, j + 1, upd_same, hx, hy, hy2, by omega⟩
      show (tSeq _ _) _ _ (upd H1 p (.lst [.int x, .int y, .int ((j : Int) + 1)]))
      generalize upd H1 p (.lst [.int x, .int y, .int ((j : Int) + 1)]) = H2 at hp2 b2 ht2 pu2
      obtain ⟨s, hs⟩ : ∃ s : Int, s = (j : Int) + 1 := ⟨_, rfl⟩
      rw [← hs] at hp2
      have s1b : 1 ≤ s ∧ s ≤ 100000 := by omega
      obtain ⟨hb1, hb2⟩ := s1b
      refine ⟨_, rfl, q_ixL (i := 2) (SqL.of hp2) rfl ?_⟩
      have e1 : 0 ≤ 104729 * s := by omega
      have e2 : 104729 * s ≤ 10472900000 := by omega
      have hA : 0 ≤ y + 104729 * s := by omega
      have hA2 : y + 104729 * s ≤ 2 ^ 63 := by omega
      have hB : 0 ≤ 3 * s + 2 := by omega
      have hB2 : 3 * s + 2 ≤ 2 ^ 20 := by omega
      have hC : (y + 104729 * s) * (3 * s + 2) ≤ 2 ^ 63 * 2 ^ 20 := Int.mul_le_mul hA2 hB2 hB (by decide)
      have hC0 : 0 ≤ (y + 104729 * s) * (3 * s + 2) := Int.mul_nonneg hA hB
      have hD : 7919 * s * s ≤ 2 ^ 30 * 2 ^ 20 := Int.mul_le_mul (by omega) (by omega) (by omega) (by decide)
      have hD0 : 0 ≤ 7919 * s * s := Int.mul_nonneg (by omega) (by omega)
      refine ⟨_, rfl, q_ixL (i := 1) (SqL.of hp2) rfl ⟨_, rfl, _, _, rfl, rfl, .inl ⟨by decide, by decide⟩, _, _, rfl, rfl, ?_⟩⟩
      refine ⟨_, rfl, _, _, rfl, rfl, .inl ⟨by decide, by decide⟩, _, _, rfl, rfl, _, _, rfl, rfl, .inl ⟨by show -(2 ^ 64) < y + 104729 * s; omega, by show y + 104729 * s < 2 ^ 64; omega⟩, ?_⟩
      refine ⟨_, rfl, _, _, rfl, rfl, .inl ⟨by decide, by decide⟩, _, rfl, _, _, rfl, rfl, .inr ⟨by omega, by omega⟩, _, _, rfl, rfl, ?_⟩
      obtain ⟨B, hBB⟩ : ∃ B : Int, B = (y + 104729 * s) * (3 * s + 2) + 7919 * s * s := ⟨_, rfl⟩
      have hB90 : B.natAbs < 2 ^ 90 := by omega
      have hbits : (Builtin.Int.intBits B : Int) * 3 ≤ 2 ^ 27 := by
        have := PyProof.Rows.intBits_le hB90
        omega
      show (tSeq _ _) _ ([some (.ref p), some (.int m), none, some (.ref t), some (.int s), some (.int ((y + 104729 * s) * (3 * s + 2) + 7919 * s * s)), none] : L2.St) H2
      rw [← hBB]
      have prime : ∀ v ∈ [V.int 2147483647, .int 2147483629, .int 2147483587, .int 2147483579, .int 2147483563, .int 2147483549, .int 2147483543], ∃ z : Int, v = .int z ∧ 0 < z ∧ z < 2 ^ 31 := by
        intro v hv
        simp only [List.mem_cons, List.mem_nil_iff, or_false] at hv
        rcases hv with rfl | rfl | rfl | rfl | rfl | rfl | rfl <;> exact ⟨_, rfl, by decide, by decide⟩
      refine ⟨_, rfl, _, _, rfl, rfl, ⟨by decide, hbits⟩, _, rfl, _, rfl, _, _, rfl, rfl, (by show (0 : Int) < 7; decide), ?_⟩
      show rIx K (.ref t) (.int (s % 7)) H2 _
      refine ix_lt (n := 7) (xs := [V.int 2147483647, .int 2147483629, .int 2147483587, .int 2147483579, .int 2147483563, .int 2147483549, .int 2147483543]) (m := s % 7) (by omega) (by omega) rfl fun i v ei hv hvm => ?_
      obtain ⟨z1, rfl, z1a, z1b⟩ := prime v hvm
      rw [ei]
      refine q_ixT ht2 hv ⟨_, _, rfl, rfl, z1a, ?_⟩
      obtain ⟨M, hM⟩ : ∃ M : Int, M = B ^ (3 : Int).toNat % z1 := ⟨_, rfl⟩
      have hM0 : 0 ≤ M := by rw [hM]; exact Int.emod_nonneg _ (by omega)
      have hM1 : M < z1 := by rw [hM]; exact Int.emod_lt_of_pos _ z1a
      show gName 6 (V.int (B ^ (3 : Int).toNat % z1)) _ H2 _
      rw [← hM]
      refine ⟨_, rfl, _, rfl, _, _, rfl, rfl, ⟨by decide, by decide⟩, _, rfl, _, _, rfl, rfl, .inl ⟨by decide, by decide⟩, _, _, rfl, rfl, _, _, rfl, rfl, _, _, rfl, rfl, .inl ⟨by omega, by omega⟩, ?_⟩
      refine ⟨_, rfl, _, rfl, _, _, rfl, rfl, _, _, rfl, rfl, (by show (0 : Int) < 7; decide), ?_⟩
      show rIx K (.ref t) (.int ((s + 3) % 7)) H2 _
      refine ix_lt (n := 7) (xs := [V.int 2147483647, .int 2147483629, .int 2147483587, .int 2147483579, .int 2147483563, .int 2147483549, .int 2147483543]) (m := (s + 3) % 7) (by omega) (by omega) rfl fun i v ei hv hvm => ?_
      obtain ⟨z2, rfl, z2a, z2b⟩ := prime v hvm
      rw [ei]
      refine q_ixT ht2 hv ⟨_, _, rfl, rfl, z2a, _, _, rfl, rfl, ⟨by decide, by decide⟩, _, rfl, _, _, rfl, rfl, hm, ?_⟩
      have h0 := Int.emod_nonneg (M * (M / 4099 + 2 * s + 1) % z2 / 16) (show m ≠ 0 by omega)
      have h1 := Int.emod_lt_of_pos (M * (M / 4099 + 2 * s + 1) % z2 / 16) hm
      show Q (.int (M * (M / 4099 + 2 * s + 1) % z2 / 16 % m)) H2
      obtain ⟨n, hn⟩ := Int.eq_ofNat_of_zero_le h0
      rw [hn] at h1 ⊢
      exact q n H2 h1 b2 pu2
def spLPurse (K : PySem.W.Frag) : Sp := fun vs H Q _ => ∃ (a : Addr) (xs : List Int) (i : Nat), vs = [.ref a, .int (i : Int)] ∧ SqL K H a (ti xs) ∧ i ≤ 3 ∧ ∀ p H', Same H H' → H p = none → Purse H' p 0 → Q (.ref p) H'
theorem ok_l_purse (T : Tx K mg) : Def P w K mg base 1 "_law_purse" ["_law_script", "_law_at"] [] (spLPurse K) := by
  refine Def.mk0 (f_l_purse T) (g_l_purse T) sc_l_purse (fun _ _ _ _ _ _ us hl => match us, hl with | [_, _], _ => rfl) (fun vs H Q E h => ?_) (fun cdv A outer s H vs Q E hr h => ?_)
  · obtain ⟨a, xs, i, rfl, _⟩ := h; rfl
  · obtain ⟨a, xs, i, rfl, ha, hi, q⟩ := h
    refine ⟨_, (pss_cons (ps_set (i := 2) sc_l_purse.nd rfl (Or.inl rfl) pe_int)
    (pss_cons (ps_if (pt_cmpR op_lt (pv 1) (pe_callB (call_lenK (K := K) rfl) (by rfl) (z_len T) (by decide +kernel) (pa_cons (pv 0) pa_nil)) (nomark _)) (pss_one (ps_set (i := 2) sc_l_purse.nd rfl (Or.inl rfl) (pe_ix (ix_K (K := K) rfl) (pv 0) (pv 1) (fun _ _ => rfl)))) pss_nil)
    (pss_cons (ps_set (i := 3) sc_l_purse.nd rfl (Or.inl rfl) (pe_callB call_abs (by rfl) (z_abs T) (by decide +kernel) (pa_cons (pv 2) pa_nil)))
    (pss_one (ps_ret (pe_lst (pa_cons (pe_op op_mul (pv 3) (pe_callTy call_int1 (by rfl) (z_int T) (by decide +kernel) (pa_cons (pe_cmpR op_ge (pv 3) (pe_op op_pow pe_int pe_int) (nomark _)) pa_nil))) (pa_cons (pe_op op_add (pe_op op_add (pe_op op_mod (pv 2) pe_int) (pe_op op_mul pe_int (pv 1))) pe_int) (pa_cons pe_int pa_nil))))))))), ?_⟩
    refine ⟨_, rfl, ?_⟩
    have tail : ∀ c : Int, (tSeq (tAsg (tCB (fun xs H Q => ∃ i, xs = [.int i] ∧ Q (.int (if i < 0 then -i else i)) H) (tCons (tVar 2) tNil)) (gName 3)) (tRet (tLst (tCons (tOp (rI CMul fun i j => V.int (i * j)) (tVar 3) (tCB (fun xs H Q => (∃ i, xs = [.int i] ∧ Q (.int i) H) ∨ ∃ k, xs = [.bl k] ∧ Q (.int (if k then 1 else 0)) H) (tCons (tOp (rI0 fun i j => V.bl (decide (i ≥ j))) (tVar 3) (tOp (rI CPow fun i j => .int (i ^ j.toNat)) (tC (V.int 10)) (tC (V.int 18)))) tNil)))
        (tCons (tOp (rI0 fun i j => V.int (i + j)) (tOp (rI0 fun i j => V.int (i + j)) (tOp (rI (fun x j => 0 < j) fun i j => V.int (i % j)) (tVar 2) (tC (V.int 2305843009213693951))) (tOp (rI CMul fun i j => V.int (i * j)) (tC (V.int 7177)) (tVar 1))) (tC (V.int 1))) (tCons (tC (V.int 0)) tNil))))))
        { nx := fun x H' => Q V.non H', rt := Q } ([some (.ref a), some (.int (i : Int)), some (.int c), none] : L2.St) H := by
      intro c
      refine ⟨_, rfl, c, rfl, ?_⟩
      obtain ⟨fr, hfr⟩ : ∃ fr : Int, fr = if c < 0 then -c else c := ⟨_, rfl⟩
      have hf0 : 0 ≤ fr := by rw [hfr]; split <;> omega
      show gName 3 (V.int (if c < 0 then -c else c)) _ H _
      rw [← hfr]
      refine ⟨_, rfl, _, rfl, _, _, rfl, rfl, ⟨by decide, by decide, by decide⟩, _, _, rfl, rfl, .inr ⟨_, rfl, _, _, rfl, rfl, .inr ?_, ?_⟩⟩
      · split <;> decide
      refine ⟨_, rfl, _, _, rfl, rfl, (by show (0 : Int) < 2305843009213693951; decide), _, rfl, _, _, rfl, rfl, .inl ⟨by decide, by decide⟩, _, _, rfl, rfl, _, _, rfl, rfl, sz_ok (by show 3 ≤ 100000; decide), fun p hp => q p _ (Same.new hp) hp ⟨_, _, 0, upd_same, ?_, ?_, ?_, Nat.le_refl _⟩⟩
      · refine Int.mul_nonneg hf0 ?_
        split <;> decide
      · show 0 ≤ c % 2305843009213693951 + 7177 * (i : Int) + 1
        omega
      · show c % 2305843009213693951 + 7177 * (i : Int) + 1 < 2 ^ 62
        omega
    refine ⟨_, rfl, a, _, rfl, .inl ha, _, _, rfl, rfl, _, rfl, ite2 (fun z => ?_) fun z => tail 0⟩
    have z := of_decide_eq_true z
    rw [ti_len] at z
    have hi2 : i < xs.length := by omega
    exact ⟨_, rfl, _, rfl, q_ixL (i := i) ha (ti_get (List.getElem?_eq_getElem hi2)) (tail _)⟩
end
end VG
-- VgLaw2
set_option Elab.async false
set_option linter.all false
set_option maxRecDepth 100000
set_option maxHeartbeats 4000000
namespace VG
open PySem PySem.Spec PyProof.Rows L2
section
variable {K : PySem.W.Frag} {σ : L2.St} {H : Hp} {Q : VK} {p : Addr} {k i : Nat}
/-- _law_take(purse, m), m written -/
theorem q_take {m : Nat} (hσ : σ[i]? = some (some (.ref p))) (pu : Purse H p k) (h0 : 0 < m) (hm : m ≤ 100000) (hk : k < 100000) (h : ∀ (n : Nat) H', n < m → But p H H' → Purse H' p (k + 1) → Q (.int (n : Int)) H') : tCall spLTake [] E0 (tCons (tVar i) (tCons (tC (.int (m : Int))) tNil)) σ H Q := by
  refine ⟨_, hσ, p, m, k, rfl, pu, by omega, ?_, hk, fun n H' hn b pu' => h n H' (by omega) b pu'⟩
  have : (2 : Nat) ^ 110 = 1298074214633706907132624082305024 := by decide
  omega
/-- [..][_law_take(purse, m)], the list made -/
theorem q_pickL {xs : List V} {m : Nat} {l : Addr} (hσ : σ[i]? = some (some (.ref p))) (pu : Purse H p k) (hl : H l = none) (hlen : xs.length = m) (h0 : 0 < m) (hm : m ≤ 1000) (hk : k < 100000) (h : ∀ v H', v ∈ xs → But p H H' → Purse H' p (k + 1) → Q v H') :
    tCall spLTake [] E0 (tCons (tVar i) (tCons (tC (.int (m : Int))) tNil)) σ (upd H l (.lst xs)) fun y H2 => rIx K (.ref l) y H2 Q := by
  have s1 : Same H (upd H l (.lst xs)) := Same.new hl
  have hl1 : (upd H l (.lst xs)) l = some (.lst xs) := upd_same
  obtain ⟨ps, hp⟩ := pu.some
  have nlp : l ≠ p := (ne_of_none hp hl).symm
  refine q_take hσ (pu.same s1) h0 (by omega) hk fun n H' hn b pu' => ?_
  have hn2 : n < xs.length := by omega
  refine q_ixL (i := n) (SqL.of (b _ _ nlp hl1)) (List.getElem?_eq_getElem hn2) (h _ H' (List.getElem_mem hn2) (fun y o ny e => b y o ny (s1 y o e)) pu')
/-- [..][_law_take(purse, m)] -/
theorem q_pick {t : TA} {xs : List V} {m : Nat} (hσ : σ[i]? = some (some (.ref p))) (pu : Purse H p k) (hlen : xs.length = m) (h0 : 0 < m) (hm : m ≤ 1000) (hk : k < 100000) (ht : ∀ Qa : List V → Hp → Prop, Qa xs H → t σ H Qa) (h : ∀ v H', v ∈ xs → But p H H' → Purse H' p (k + 1) → Q v H') :
    tOp (rIx K) (tLst t) (tCall spLTake [] E0 (tCons (tVar i) (tCons (tC (.int (m : Int))) tNil))) σ H Q := by
  refine ht _ ⟨sz_ok (by omega), fun l hl => ?_⟩
  have s1 : Same H (upd H l (.lst xs)) := Same.new hl
  have hl1 : (upd H l (.lst xs)) l = some (.lst xs) := upd_same
  obtain ⟨ps, hp⟩ := pu.some
  have nlp : l ≠ p := (ne_of_none hp hl).symm
  refine q_take hσ (pu.same s1) h0 (by omega) hk fun n H' hn b pu' => ?_
  have hn2 : n < xs.length := by omega
  refine q_ixL (i := n) (SqL.of (b _ _ nlp hl1)) (List.getElem?_eq_getElem hn2) (h _ H' (List.getElem_mem hn2) (fun y o ny e => b y o ny (s1 y o e)) pu')
/-- [a, b][int(_law_take(purse, m) == c)] -/
theorem q_pick2 {t : TA} {a c : V} {m : Nat} {z : Int} (hσ : σ[i]? = some (some (.ref p))) (pu : Purse H p k) (h0 : 0 < m) (hm : m ≤ 1000) (hk : k < 100000) (ht : ∀ Qa : List V → Hp → Prop, Qa [a, c] H → t σ H Qa) (h : ∀ v H', (v = a ∨ v = c) → But p H H' → Purse H' p (k + 1) → Q v H') :
    tOp (rIx K) (tLst t) (tCB (fun xs H Q => (∃ i, xs = [.int i] ∧ Q (.int i) H) ∨ ∃ k, xs = [.bl k] ∧ Q (.int (if k then 1 else 0)) H) (tCons (tOp rEq (tCall spLTake [] E0 (tCons (tVar i) (tCons (tC (.int (m : Int))) tNil))) (tC (.int z))) tNil)) σ H Q := by
  refine ht _ ⟨sz_ok (by show 2 ≤ 100000; decide), fun l hl => ?_⟩
  have s1 : Same H (upd H l (.lst [a, c])) := Same.new hl
  have hl1 : (upd H l (.lst [a, c])) l = some (.lst [a, c]) := upd_same
  obtain ⟨ps, hp⟩ := pu.some
  have nlp : l ≠ p := (ne_of_none hp hl).symm
  refine q_take hσ (pu.same s1) h0 (by omega) hk fun n H' hn b pu' => ?_
  have hl2 : SqL K H' l [a, c] := SqL.of (b _ _ nlp hl1)
  have b2 : But p H H' := fun y o ny e => b y o ny (s1 y o e)
  refine ⟨rfl, .inr ⟨_, rfl, ?_⟩⟩
  by_cases e : V.int (n : Int) = V.int z
  · rw [decide_eq_true e]
    exact q_ixL (i := 1) hl2 rfl (h _ H' (.inr rfl) b2 pu')
  · rw [decide_eq_false e]
    exact q_ixL (i := 0) hl2 rfl (h _ H' (.inl rfl) b2 pu')
end
section
variable {P : Program} {w : World} {K : PySem.W.Frag} {mg : Str → Option Value} {base : Heap}
def spLNumber : Sp := fun vs H Q _ => ∃ (p : Addr) (k : Nat), vs = [.ref p] ∧ Purse H p k ∧ k + 2 < 100000 ∧ ∀ (n : Int) H', But p H H' → Purse H' p (k + 2) → Q (.int n) H'
theorem ok_l_number (T : Tx K mg) : Def P w K mg base 2 "_law_number" ["_law_purse_here"] [] spLNumber := by
  refine Def.mk0 (f_l_number T) (g_l_number T) sc_l_number (fun _ _ _ _ _ _ us hl => match us, hl with | [_], _ => rfl) (fun vs H Q E h => ?_) (fun cdv A outer s H vs Q E hr h => ?_)
  · obtain ⟨p, k, rfl, _⟩ := h; rfl
  · obtain ⟨p, k, rfl, pu, hk, q⟩ := h
    refine ⟨_, (pss_cons (ps_set (i := 1) sc_l_number.nd rfl (Or.inl rfl) (pe_ix (ix_K (K := K) rfl) (pe_lst (pa_cons pe_int (pa_cons pe_int (pa_cons pe_int (pa_cons (pe_op op_sub (pe_op op_mul pe_int (pe_op op_pow pe_int pe_int)) pe_int) pa_nil))))) (pe_fK (K := K) (P := P) (w := w) (mg := mg) (base := base) ((ok_l_take T).mono (by omega)) rfl rfl rfl rfl rfl hr (by rfl) (pa_cons (pv 0) (pa_cons pe_int pa_nil))) (fun _ _ => rfl)))
    (pss_one (ps_ret (pe_op op_sub (pe_fK (K := K) (P := P) (w := w) (mg := mg) (base := base) ((ok_l_take T).mono (by omega)) rfl rfl rfl rfl rfl hr (by rfl) (pa_cons (pv 0) (pa_cons (pv 1) pa_nil))) (pe_op op_fdiv (pv 1) pe_int))))), ?_⟩
    refine q_pick (m := 4) (xs := [V.int 7, .int 7, .int 100, .int 1999999999999999999999999999999]) rfl pu rfl (by decide) (by decide) (by omega) (fun Qa h => ⟨_, _, rfl, rfl, ⟨by decide, by decide, by decide⟩, _, _, rfl, rfl, .inl ⟨by decide, by decide⟩, _, _, rfl, rfl, h⟩) fun v H1 hv b1 pu1 => ?_
    have hm : ∃ z : Int, v = .int z ∧ 0 < z ∧ z.natAbs < 2 ^ 110 := by
      simp only [List.mem_cons, List.mem_nil_iff, or_false] at hv
      rcases hv with rfl | rfl | rfl | rfl <;> exact ⟨_, rfl, by decide, by decide⟩
    obtain ⟨z, rfl, hz, hz2⟩ := hm
    refine ⟨_, rfl, _, rfl, p, z, k + 1, rfl, pu1, hz, hz2, by omega, fun n H2 hn b2 pu2 => ?_⟩
    exact ⟨_, rfl, _, _, rfl, rfl, ⟨by decide, by decide⟩, _, _, rfl, rfl, q _ H2 (b1.trans b2) pu2⟩
def spLReach : Sp := fun vs H Q _ => ∃ (a c : Addr) (way : Int) (ls : List Nat) (ss : List Int), vs = [.ref a, .ref c, .int way] ∧ H a = some (.tup (tn ls)) ∧ H c = some (.tup (ti ss)) ∧ ss.length = ls.length ∧ (∀ l ∈ ls, l ≤ 600) ∧ -1 ≤ way ∧ way ≤ 1 ∧ ∀ H', Same H H' → Q (.int (rch way ls ss)) H'
theorem ok_l_reach (T : Tx K mg) : Def P w K mg base 1 "_law_reach" ["_law_lengths_here", "_law_steps_here", "_law_way"] [] spLReach := by
  refine Def.mk0 (f_l_reach T) (g_l_reach T) sc_l_reach (fun _ _ _ _ _ _ us hl => match us, hl with | [_, _, _], _ => rfl) (fun vs H Q E h => ?_) (fun cdv A outer s H vs Q E hr h => ?_)
  · obtain ⟨a, c, way, ls, ss, rfl, _⟩ := h; rfl
  · obtain ⟨a, c, way, ls, ss, rfl, ha, hc, hsl, he, hw1, hw2, q⟩ := h
    refine ⟨_, (pss_cons (ps_set (i := 3) sc_l_reach.nd rfl (Or.inl rfl) pe_int)
    (pss_cons (ps_for PassesOwn.never rfl (pi_zipK (K := K) rfl (by rfl) (z_zip T) (pa_cons (pv 0) (pa_cons (pv 1) pa_nil))) (pg_tupK (K := K) (n := 2) rfl rfl (pgs_cons (pg_name (i := 4) sc_l_reach.nd rfl (Or.inl rfl)) (pgs_cons (pg_name (i := 5) sc_l_reach.nd rfl (Or.inl rfl)) pgs_nil)))
    (pss_one (ps_if (PW.pt (pw_and (pt_cmpR op_gt (pv 4) pe_int (nomark _)) (pw_and1 (pt_cmpR op_gt (pe_op op_mul (pv 5) (pv 2)) pe_int (nomark _))))) (pss_one (ps_set (i := 3) sc_l_reach.nd rfl (Or.inl rfl) (pe_op op_add (pv 3) (pe_op op_mul (pe_op op_sub (pv 4) pe_int) (pv 5))))) pss_nil)))
    (pss_one (ps_ret (pv 3))))), ?_⟩
    refine ⟨_, rfl, _, rfl, a, c, tn ls, ti ss, rfl, .inr ⟨SqT.of ha, SqT.of hc, for_it (walk_zipT (n := ls.length) (tn_len _) (by rw [ti_len, hsl])) (fun i σ H2 => Same H H2 ∧ ∃ v u, σ = [some (.ref a), some (.ref c), some (.int way), some (.int (((ls.zip ss).take i).foldl (fun a q => a + far1 way q.1 q.2) 0)), v, u]) ⟨Same.refl H, none, none, rfl⟩ (fun i σ H2 _ h => ⟨SqT.of (h.1 _ _ ha), SqT.of (h.1 _ _ hc)⟩) ?_ ?_⟩⟩
    · rintro i x σ H2 H3 hi ⟨s2, v, u, rfl⟩ ⟨T1, x1, y1, rfl, hT, rfl, e1, e2⟩
      obtain ⟨n, hn, rfl⟩ := tn_at e1
      obtain ⟨st, hs, rfl⟩ := ti_at e2
      have hm := he n (List.mem_of_getElem? hn)
      have ez : (ls.zip ss)[i]? = some (n, st) := by rw [List.getElem?_zip_eq_some]; exact ⟨hn, hs⟩
      have s3 := s2.trans (Same.new (o := .tup [.int (n : Int), .int st]) hT)
      refine ⟨T1, _, rfl, SqT.of upd_same, rfl, _, _, rfl, _, _, rfl, rfl, ?_⟩
      rw [take_one ez, List.foldl_append]
      simp only [List.foldl_cons, List.foldl_nil]
      generalize (((ls.zip ss).take i).foldl (fun a q => a + far1 way q.1 q.2) 0) = acc
      have nx : ∀ z : Int, z = far1 way n st → (Same H (upd H2 T1 (.tup [.int (n : Int), .int st])) ∧ ∃ v u, ([some (.ref a), some (.ref c), some (.int way), some (.int (acc + z)), some (.int (n : Int)), some (.int st)] : L2.St) = [some (.ref a), some (.ref c), some (.int way), some (.int (acc + far1 way n st)), v, u]) := fun z e => ⟨s3, some (.int (n : Int)), some (.int st), by rw [e]⟩
      refine ⟨_, rfl, _, _, rfl, rfl, _, rfl, ite2 (fun z1 => ?_) fun z1 => ?_⟩
      · have z1 := of_decide_eq_true z1
        refine ⟨_, rfl, _, rfl, _, _, rfl, rfl, .inr ⟨by omega, by omega⟩, _, _, rfl, rfl, _, rfl, ite2 (fun z2 => ?_) fun z2 => ?_⟩
        · have z2 := of_decide_eq_true z2
          refine ⟨_, rfl, _, rfl, _, _, rfl, rfl, _, rfl, _, _, rfl, rfl, .inl ⟨by omega, by omega⟩, _, _, rfl, rfl, nx (((n : Int) - 1) * st) ?_⟩
          unfold far1
          rw [if_pos ⟨by omega, z2⟩]
        · have z2 := of_decide_eq_false (Bool.eq_false_iff.mpr z2)
          have e := nx 0 (by unfold far1; rw [if_neg fun z => z2 z.2])
          rw [Int.add_zero] at e
          exact e
      · have z1 := of_decide_eq_false (Bool.eq_false_iff.mpr z1)
        have e := nx 0 (by unfold far1; rw [if_neg fun z => z1 (by have := z.1; omega)])
        rw [Int.add_zero] at e
        exact iteF e
    · rintro σ H2 ⟨s2, v, u, rfl⟩
      rw [List.take_of_length_le (by rw [List.length_zip]; omega), rch_fold, Int.zero_add]
      exact ⟨_, rfl, q H2 s2⟩
end
end VG
-- VgLaw3
set_option Elab.async false
set_option linter.all false
set_option maxRecDepth 100000
set_option maxHeartbeats 4000000
namespace VG
open PySem PySem.Spec PyProof.Rows L2
theorem inV0 : ∀ ls : List Nat, inV (.int 0) (tn ls) = decide (0 ∈ ls) := fun ls => inV_tn 0 ls
theorem sz_zero : ∀ {ls : List Nat}, 0 ∈ ls → sz ls = 0
  | a :: r, h => by
    rcases List.mem_cons.mp h with z | z
    · show a * sz r = 0; rw [← z, Nat.zero_mul]
    · show a * sz r = 0; rw [sz_zero z, Nat.mul_zero]
theorem sz_nz : ∀ {ls : List Nat}, 0 ∉ ls → sz ls ≠ 0
  | [], _ => by simp [sz]
  | a :: r, h => by
    have h1 : a ≠ 0 := fun z => h (by rw [z]; exact List.mem_cons_self ..)
    have h2 := sz_nz fun z => h (List.mem_cons_of_mem a z)
    show a * sz r ≠ 0
    exact Nat.mul_ne_zero h1 h2
theorem Tups.app {H : Hp} : ∀ {as bs : List Addr} {ps qs : List (List Nat)}, Tups H as ps → Tups H bs qs → Tups H (as ++ bs) (ps ++ qs)
  | _, _, _, _, .nil, t => t
  | _, _, _, _, .cons h s, t => .cons h (s.app t)
section
variable {P : Program} {w : World} {K : PySem.W.Frag} {mg : Str → Option Value} {base : Heap}
theorem ok_l_places (T : Tx K mg) : Def P w K mg base 1 "_law_places" ["_law_lengths_here"] [] (spPlaces K) := by
  refine Def.mk0 (f_l_places T) (g_l_places T) sc_l_places (fun _ _ _ _ _ _ us hl => match us, hl with | [_], _ => rfl) (fun vs H Q E h => ?_) (fun cdv A outer s H vs Q E hr h => ?_)
  · obtain ⟨a, ls, rfl, _⟩ := h; rfl
  · obtain ⟨a, ls, rfl, hs, h5, hl, hz, q⟩ := h
    refine ⟨_, (pss_cons (ps_if (pt_cmpR (op_inK (K := K) rfl) pe_int (pv 0) (by rfl)) (pss_one (ps_ret (pe_lst pa_nil))) pss_nil)
    (pss_cons (ps_set (i := 1) sc_l_places.nd rfl (Or.inl rfl) (pe_lst (pa_cons (pe_tup pa_nil) pa_nil)))
    (pss_cons (ps_for PassesOwn.never rfl (pi_tupK (K := K) rfl (pv 0)) (pg_name (i := 2) sc_l_places.nd rfl (Or.inl rfl))
    (pss_cons (ps_set (i := 3) sc_l_places.nd rfl (Or.inl rfl) (pe_lst pa_nil))
    (pss_cons (ps_for PassesOwn.never rfl (pi_listK (K := K) rfl (pv 1)) (pg_name (i := 4) sc_l_places.nd rfl (Or.inr rfl))
    (pss_one (ps_expr (pe_bmK (K := K) rfl PySem.F.plainAttrs_list PySem.F.slot_list_extend PySem.F.type_list_extend mt_extend (pv 3) (pa_cons (pe_lc (own := [("_law_number_here", 5)]) (tt := tYes) rfl sc_l_places.nd (pi_range1 (by rfl) (z_range T) (pa_cons (pv 2) pa_nil)) (blkOk_by (own := [("_law_number_here", 5)]) (sc := defScope s_l_places) (N := n_l_places) (by decide +kernel)) (fun _ _ _ _ _ => (pg_name (i := 5) sc_l_places.nd rfl (by first | exact Or.inl rfl | exact Or.inr rfl))) (fun _ _ _ _ _ => pts_nil) (fun _ _ _ _ _ => (pe_op (op_catK (K := K) rfl) (pv 4) (pe_tup (pa_cons (pv 5) pa_nil))))) pa_nil)))))
    (pss_one (ps_set (i := 1) sc_l_places.nd rfl (Or.inl rfl) (pv 3))))))
    (pss_one (ps_ret (pv 1)))))), ?_⟩
    refine ⟨_, rfl, a, tn ls, rfl, .inr hs, rfl, flat_tn ls, _, rfl, ?_⟩
    rw [show (if false = true then !inV (V.int 0) (tn ls) else inV (V.int 0) (tn ls)) = decide (0 ∈ ls) by rw [if_neg (by simp), inV0]]
    refine ite2 (fun z => ?_) fun z => ?_
    · refine ⟨sz_ok (Nat.zero_le _), fun p hp => q p _ (Same.new hp) hp ⟨[], upd_same, ?_⟩⟩
      rw [places_zero (sz_zero (of_decide_eq_true z))]
      exact .nil
    · have e : sz ls ≠ 0 := sz_nz (of_decide_eq_false (Bool.eq_false_iff.mpr z))
      refine ⟨sz_ok (Nat.zero_le _), fun t ht => ⟨sz_ok (by show 1 ≤ 100000; decide), fun f hf => ?_⟩⟩
      have s1 : Same H (upd (upd H t (.tup [])) f (.lst [.ref t])) := (Same.new ht).trans (Same.new hf)
      refine ⟨_, rfl, a, rfl, ⟨_, Same.sqt s1 hs⟩, for_tup (xs := tn ls) (fun i σ H2 => Same H H2 ∧ ∃ l u v x y, H l = none ∧ σ = [some (.ref a), some (.ref l), u, v, x, y] ∧ LstP H2 l (places (ls.take i)))
        ⟨s1, f, none, none, none, none, (Same.new ht).free hf, rfl, [t], upd_same, .cons (by rw [upd_ne (ne_of_none upd_same hf), upd_same]; rfl) .nil⟩ (fun i σ H2 _ h => Same.sqt h.1 hs) ?_ ?_⟩
      · rintro i x σ H2 hx ⟨s2, l, u0, v0, x0, y0, hl0, rfl, as, hl2, tp⟩
        obtain ⟨n, hn, rfl⟩ := tn_at hx
        have hm := hl n (List.mem_of_getElem? hn)
        refine ⟨sz_ok (Nat.zero_le _), fun g hg => ?_⟩
        have hg0 : (upd H2 g (.lst [])) g = some (.lst []) := upd_same
        have ngl : l ≠ g := ne_of_none hl2 hg
        have hfl : ∀ j, (((places (ls.take i)).take j).flatMap fun p => (List.range n).map fun k => p ++ [k]).length ≤ 90000 := fun j => by
          have h1 : sz (ls.take (i + 1)) ≤ 90000 := Nat.le_trans (sz_take_le e _) hz
          rw [← places_len, places_take hn] at h1
          refine Nat.le_trans ?_ h1
          have e3 := List.take_append_drop j (places (ls.take i))
          conv => rhs; rw [← e3, List.flatMap_append, List.length_append]
          exact Nat.le_add_right _ _
        refine ⟨_, rfl, l, rfl, ⟨_, SqL.of ((Same.new hg) _ _ hl2)⟩, for_it (walk_refs tp.len) (fun j σ H3 => But g H2 H3 ∧ (∃ bs, H3 g = some (.lst (bs.map V.ref)) ∧ Tups H3 bs (((places (ls.take i)).take j).flatMap fun p => (List.range n).map fun k => p ++ [k])) ∧ ∃ x y, σ = [some (.ref a), some (.ref l), some (.int (n : Int)), some (.ref g), x, y])
          ⟨But.put, ⟨[], hg0, .nil⟩, _, _, rfl⟩ (fun j σ H3 _ h => SqL.of (h.1 _ _ ngl hl2)) ?_ ?_⟩
        · rintro j z σ H3 H4 hj ⟨b3, ⟨bs, hg3, tb⟩, x1, y1, rfl⟩ ⟨rfl, pa, hpa, rfl⟩
          obtain ⟨p, hp, hpt⟩ := tp.get hpa
          have hin := mem_places.mp (List.mem_of_getElem? hp)
          have npg : pa ≠ g := ne_of_none hpt hg
          have hp3 := b3 _ _ npg hpt
          refine ⟨_, rfl, .inl ⟨rfl, _, SqL.of hg3⟩, _, rfl, (n : Int), rfl, by omega, by omega, fun D hD => ?_⟩
          refine lc_new (walk_rng (m := n) rfl) (by omega) hD (fun k y H => ∃ q, y = V.ref q ∧ H q = some (.tup (tn (p ++ [k]))) ∧ q ≠ D) (fun _ _ => trivial) (fun k y H H' b ⟨q, e1, e2, e3⟩ => ⟨q, e1, b _ _ e3 e2, e3⟩) ?_ ?_
          · rintro k x H5 H6 Kt hk s5 ⟨acc, hacc⟩ ⟨rfl, rfl⟩ kt
            have hp5 := s5 _ _ hp3
            refine ⟨rfl, _, rfl, _, rfl, sz_ok (by show 1 ≤ 100000; decide), fun t hT => ?_⟩
            have sT : Same H6 (upd H6 t (.tup [.int (k : Int)])) := Same.new hT
            refine q_cat (sT _ _ hp5) upd_same ?_ fun r H7 s7 hr => kt _ H7 (sT.trans s7) ⟨r, rfl, ?_, ne_of hr ((sT.trans s7) _ _ hacc) (by intro z; cases z)⟩
            · have h1 := hin.len
              rw [List.length_take] at h1
              rw [tn_len]
              show p.length + 1 ≤ 100000
              omega
            · rw [hr]; simp [tn]
          · intro ys H5 s5 hD5 hy hR
            have al : All2 (fun y p' => ∃ q, y = V.ref q ∧ H5 q = some (.tup (tn p'))) ys ((List.range n).map fun k => p ++ [k]) := All2.of_get (by rw [hy, List.length_map, List.length_range]) fun k y p' e1 e2 => by
              obtain ⟨q', f1, f2, f3⟩ := hR k y e1
              have hk := (List.getElem?_eq_some_iff.mp e1).1
              rw [List.getElem?_map, List.getElem?_range (by omega)] at e2
              cases e2
              exact ⟨q', f1, f2⟩
            obtain ⟨cs, rfl, tc⟩ := all2_tups al
            have hg5 := s5 _ _ hg3
            have e2 := take_flat (f := fun p => (List.range n).map fun k => p ++ [k]) hp
            have hlen := hfl (j + 1)
            rw [e2, List.length_append, ← tb.len, ← tc.len] at hlen
            refine ⟨g, D, _, _, rfl, rfl, hg5, hD5, sz_ok (by rw [List.length_map, List.length_map]; omega), ?_⟩
            refine ⟨fun b o n' e => by rw [upd_ne n']; exact s5 _ _ (b3 b o n' e), ⟨bs ++ cs, by rw [upd_same, List.map_append], ?_⟩, _, _, rfl⟩
            rw [e2]
            have kp : ∀ b xs, H5 b = some (.tup xs) → (upd H5 g (.lst (bs.map V.ref ++ cs.map V.ref))) b = some (.tup xs) := fun b xs e => by rw [upd_ne (ne_of e hg5 (by intro z; cases z))]; exact e
            exact ((tb.same s5).keep kp).app (tc.keep kp)
        · rintro σ H3 ⟨b3, ⟨bs, hg3, tb⟩, x1, y1, rfl⟩
          rw [List.take_of_length_le (Nat.le_refl _), ← places_take hn] at tb
          refine ⟨_, rfl, s2.trans (But.same hg b3), g, _, _, _, _, s2.free hg, rfl, bs, hg3, tb⟩
      · rintro σ H2 ⟨s2, l, u, v, x, y, hl0, rfl, h⟩
        rw [tn_len, List.take_length] at h
        exact ⟨_, rfl, q l H2 s2 hl0 h⟩
theorem ok_l_cells (T : Tx K mg) : Def P w K mg base 2 "_law_cells" ["_law_lengths_here", "_law_begin", "_law_steps_here"] [] (spCellsBy K) := by
  refine Def.mk0 (f_l_cells T) (g_l_cells T) sc_l_cells (fun _ _ _ _ _ _ us hl => match us, hl with | [_, _, _], _ => rfl) (fun vs H Q E h => ?_) (fun cdv A outer s H vs Q E hr h => ?_)
  · obtain ⟨a, c, b, ls, ss, rfl, _⟩ := h; rfl
  · obtain ⟨a, c, b, ls, ss, rfl, ha, hc, hsl, h5, h6, hz, q⟩ := h
    refine ⟨_, (pss_cons (ps_set (i := 3) sc_l_cells.nd rfl (Or.inl rfl) (pe_lst pa_nil))
    (pss_cons (ps_for PassesOwn.never rfl (pi_listK (K := K) rfl (pe_fK (K := K) (P := P) (w := w) (mg := mg) (base := base) ((ok_l_places T).mono (by omega)) rfl rfl rfl rfl rfl hr (by rfl) (pa_cons (pv 0) pa_nil))) (pg_name (i := 4) sc_l_cells.nd rfl (Or.inl rfl))
    (pss_cons (ps_set (i := 5) sc_l_cells.nd rfl (Or.inl rfl) (pv 1))
    (pss_cons (ps_for PassesOwn.never rfl (pi_zipK (K := K) rfl (by rfl) (z_zip T) (pa_cons (pv 4) (pa_cons (pv 2) pa_nil))) (pg_tupK (K := K) (n := 2) rfl rfl (pgs_cons (pg_name (i := 6) sc_l_cells.nd rfl (Or.inl rfl)) (pgs_cons (pg_name (i := 7) sc_l_cells.nd rfl (Or.inl rfl)) pgs_nil)))
    (pss_one (ps_set (i := 5) sc_l_cells.nd rfl (Or.inl rfl) (pe_op op_add (pv 5) (pe_op op_mul (pv 6) (pv 7))))))
    (pss_one (ps_expr (pe_bmK (K := K) rfl PySem.F.plainAttrs_list PySem.F.slot_list_append PySem.F.type_list_append mt_append (pv 3) (pa_cons (pv 5) pa_nil)))))))
    (pss_one (ps_ret (pv 3))))), ?_⟩
    refine ⟨sz_ok (Nat.zero_le _), fun f hf => ?_⟩
    have s1 : Same H (upd H f (.lst [])) := Same.new hf
    have hf1 : (upd H f (.lst [])) f = some (.lst []) := upd_same
    generalize upd H f (.lst []) = H1 at s1 hf1
    refine ⟨_, rfl, a, ls, rfl, SqT.of (s1 _ _ ha), h5, h6, hz, fun pl H2 s2 hpl0 ⟨as, hpl, tps⟩ => ⟨pl, rfl, ⟨_, SqL.of hpl⟩, ?_⟩⟩
    have nf : pl ≠ f := (ne_of_none hf1 hpl0).symm
    have hc2 := s2 _ _ (s1 _ _ hc)
    have nfc : c ≠ f := ne_of_none hc hf
    refine for_it (D := { nx := tRet (tVar 3) { nx := fun _ H' => Q V.non H', rt := Q }, rt := Q }) (walk_refs tps.len) (fun i σ H3 => But f H2 H3 ∧ H3 f = some (.lst (ti ((cells ls b ss).take i))) ∧ ∃ x1 x2 x3 x4, σ = [some (.ref a), some (.int b), some (.ref c), some (.ref f), x1, x2, x3, x4]) ⟨Same.but f (Same.refl H2), s2 _ _ hf1, none, none, none, none, rfl⟩ (fun i σ H3 _ h => SqL.of (h.1 _ _ nf hpl)) ?_ ?_
    · rintro i x σ H3 H4 hi ⟨b3, hf3, x1, x2, x3, x4, rfl⟩ ⟨rfl, pa, hpa, rfl⟩
      obtain ⟨p, hp, hpt⟩ := tps.get hpa
      have hin := mem_places.mp (List.mem_of_getElem? hp)
      have hpt3 := b3 _ _ (ne_of hpt (s2 _ _ hf1) (by intro z; cases z)) hpt
      have hc3 := b3 _ _ nfc hc2
      have hpl2 : p.length = ls.length := hin.len
      refine ⟨_, rfl, _, rfl, _, rfl, pa, c, tn p, ti ss, rfl, .inr ⟨SqT.of hpt3, SqT.of hc3, ?_⟩⟩
      refine for_it (walk_zipT (n := ls.length) (by rw [tn_len, hpl2]) (by rw [ti_len, hsl])) (fun j σ H5 => Same H4 H5 ∧ ∃ x3 x4, σ = [some (.ref a), some (.int b), some (.ref c), some (.ref f), some (.ref pa), some (.int (b + dot (p.take j) (ss.take j))), x3, x4]) ⟨Same.refl _, x3, x4, by simp [dot]⟩ (fun j σ H5 _ h => ⟨SqT.of (h.1 _ _ hpt3), SqT.of (h.1 _ _ hc3)⟩) ?_ ?_
      · rintro j z σ H5 H6 hj ⟨s5, y3, y4, rfl⟩ ⟨T1, z1, z2, rfl, hT, rfl, e1, e2⟩
        obtain ⟨k, hk, rfl⟩ := tn_at e1
        obtain ⟨st, hs, rfl⟩ := ti_at e2
        have hn : ∃ n, ls[j]? = some n := ⟨ls[j]'(by omega), by simp [hj]⟩
        obtain ⟨n, hn⟩ := hn
        have hkn := hin.get hk hn
        have hn6 := h6 n (List.mem_of_getElem? hn)
        refine ⟨T1, _, rfl, SqT.of upd_same, rfl, _, _, rfl, _, _, rfl, rfl, ?_⟩
        refine ⟨_, rfl, _, rfl, _, rfl, _, _, rfl, rfl, .inl ⟨by omega, by omega⟩, _, _, rfl, rfl, s5.trans (Same.new hT), some (.int (k : Int)), some (.int st), ?_⟩
        rw [take_one hk, take_one hs, dot_snoc _ _ _ _ (by rw [List.length_take, List.length_take]; omega), ← Int.add_assoc]
        rfl
      · rintro σ H5 ⟨s5, y3, y4, rfl⟩
        rw [show p.take ls.length = p from List.take_of_length_le (by omega), show ss.take ls.length = ss from List.take_of_length_le (by omega)]
        have hf5 := s5 _ _ hf3
        have hcl : (cells ls b ss)[i]? = some (b + dot p ss) := by unfold cells; rw [List.getElem?_map, hp]; rfl
        refine ⟨_, rfl, .inl ⟨rfl, _, SqL.of hf5⟩, _, rfl, f, _, _, rfl, rfl, hf5, sz_lt (by rw [ti_len, List.length_take, cells_len]; omega), ?_⟩
        refine ⟨fun y o n e => by rw [upd_ne n]; exact s5 _ _ (b3 y o n e), ?_, _, _, _, _, rfl⟩
        rw [upd_same, take_one hcl]
        unfold ti
        rw [List.map_append]
        rfl
    · rintro σ H3 ⟨b3, hf3, x1, x2, x3, x4, rfl⟩
      rw [List.take_of_length_le (by rw [cells_len, ← places_len]; exact Nat.le_refl _)] at hf3
      refine ⟨_, rfl, q f H3 ?_ hf hf3⟩
      exact But.same hf ((Same.but f (s1.trans s2)).trans b3)
end
end VG
-- VgLaw4
set_option Elab.async false
set_option linter.all false
set_option maxRecDepth 100000
set_option maxHeartbeats 4000000
namespace VG
open PySem PySem.Spec PyProof.Rows L2
/-- lengths as they are drawn -/
structure Len (L : List Nat) : Prop where
  len : L.length ≤ 5
  each : ∀ l ∈ L, l ≤ 24
  sz : szM L ≤ 24
theorem Len.okl {L : List Nat} (h : Len L) : Okl L := ⟨h.len, by have := sz_le_szM L; have := h.sz; omega, fun l hl => by have := h.each l hl; omega⟩
theorem purse_but {H H' : Hp} {p : Addr} {k : Nat} {xs : List V} {l : Addr} (pu : Purse H p k) (b : But p H H') (h : H l = some (.tup xs)) : H' l = some (.tup xs) := by
  obtain ⟨ps, hp⟩ := pu.some
  exact b _ _ (ne_of h hp (by intro z; cases z)) h
section
variable {P : Program} {w : World} {K : PySem.W.Frag} {mg : Str → Option Value} {base : Heap}
def spLLengths : Sp := fun vs H Q _ => ∃ (p : Addr) (k : Nat), vs = [.ref p, .int 24] ∧ Purse H p k ∧ k + 16 < 100000 ∧ ∀ (t : Addr) (L : List Nat) H', But p H H' → Purse H' p (k + 16) → H' t = some (.tup (tn L)) → Len L → Q (.ref t) H'
theorem ok_l_lengths (T : Tx K mg) : Def P w K mg base 2 "_law_lengths" ["_law_purse_here", "_law_most"] [] spLLengths := by
  refine Def.mk0 (f_l_lengths T) (g_l_lengths T) sc_l_lengths (fun _ _ _ _ _ _ us hl => match us, hl with | [_, _], _ => rfl) (fun vs H Q E h => ?_) (fun cdv A outer s H vs Q E hr h => ?_)
  · obtain ⟨p, k, rfl, _⟩ := h; rfl
  · obtain ⟨p, k, rfl, pu, hk, q⟩ := h
    refine ⟨_, (pss_cons (ps_set (i := 2) sc_l_lengths.nd rfl (Or.inl rfl) (pe_tup pa_nil))
    (pss_cons (ps_set (i := 3) sc_l_lengths.nd rfl (Or.inl rfl) pe_int)
    (pss_cons (ps_for PassesOwn.never rfl (pi_range1 (by rfl) (z_range T) (pa_cons (pe_ix (ix_K (K := K) rfl) (pe_lst (pa_cons pe_int (pa_cons pe_int (pa_cons pe_int (pa_cons pe_int (pa_cons pe_int (pa_cons pe_int (pa_cons pe_int (pa_cons pe_int pa_nil))))))))) (pe_fK (K := K) (P := P) (w := w) (mg := mg) (base := base) ((ok_l_take T).mono (by omega)) rfl rfl rfl rfl rfl hr (by rfl) (pa_cons (pv 0) (pa_cons pe_int pa_nil))) (fun _ _ => rfl)) pa_nil)) (pg_name (i := 4) sc_l_lengths.nd rfl (Or.inl rfl))
    (pss_cons (ps_set (i := 5) sc_l_lengths.nd rfl (Or.inl rfl) (pe_ix (ix_K (K := K) rfl) (pe_lst (pa_cons pe_int (pa_cons pe_int (pa_cons pe_int (pa_cons pe_int (pa_cons pe_int (pa_cons pe_int (pa_cons pe_int (pa_cons pe_int pa_nil))))))))) (pe_fK (K := K) (P := P) (w := w) (mg := mg) (base := base) ((ok_l_take T).mono (by omega)) rfl rfl rfl rfl rfl hr (by rfl) (pa_cons (pv 0) (pa_cons pe_int pa_nil))) (fun _ _ => rfl)))
    (pss_cons (ps_set (i := 6) sc_l_lengths.nd rfl (Or.inl rfl) (pe_op op_add pe_int (pe_fK (K := K) (P := P) (w := w) (mg := mg) (base := base) ((ok_l_take T).mono (by omega)) rfl rfl rfl rfl rfl hr (by rfl) (pa_cons (pv 0) (pa_cons (pv 5) pa_nil)))))
    (pss_cons (ps_if (pt_cmpR op_gt (pe_op op_mul (pv 3) (pv 6)) (pv 1) (nomark _)) (pss_one (ps_set (i := 6) sc_l_lengths.nd rfl (Or.inl rfl) pe_int)) pss_nil)
    (pss_cons (ps_set (i := 3) sc_l_lengths.nd rfl (Or.inl rfl) (pe_op op_mul (pv 3) (pv 6)))
    (pss_one (ps_set (i := 2) sc_l_lengths.nd rfl (Or.inl rfl) (pe_op (op_catK (K := K) rfl) (pv 2) (pe_tup (pa_cons (pe_ix (ix_K (K := K) rfl) (pe_lst (pa_cons (pv 6) (pa_cons pe_int pa_nil))) (pe_callTy call_int1 (by rfl) (z_int T) (by decide +kernel) (pa_cons (pe_cmpR op_eq (pe_fK (K := K) (P := P) (w := w) (mg := mg) (base := base) ((ok_l_take T).mono (by omega)) rfl rfl rfl rfl rfl hr (by rfl) (pa_cons (pv 0) (pa_cons pe_int pa_nil))) pe_int (nomark _)) pa_nil)) (fun _ _ => rfl)) pa_nil))))))))))
    (pss_one (ps_ret (pv 2)))))), ?_⟩
    refine ⟨sz_ok (Nat.zero_le _), fun t ht => ?_⟩
    have s1 : Same H (upd H t (.tup [])) := Same.new ht
    have ht1 : (upd H t (.tup [])) t = some (.tup (tn [])) := upd_same
    generalize upd H t (.tup []) = H1 at s1 ht1
    refine ⟨sz_ok (by show 8 ≤ 100000; decide), fun l hl => ?_⟩
    refine q_pickL (m := 8) (xs := [V.int 4, .int 1, .int 2, .int 3, .int 3, .int 2, .int 0, .int 5]) rfl (pu.same s1) hl rfl (by decide) (by decide) (by omega) fun v H2 hv b2 pu2 => ?_
    have hn : ∃ n : Nat, v = .int (n : Int) ∧ n ≤ 5 := by
      simp only [List.mem_cons, List.mem_nil_iff, or_false] at hv
      rcases hv with rfl | rfl | rfl | rfl | rfl | rfl | rfl | rfl
      · exact ⟨4, rfl, by decide⟩
      · exact ⟨1, rfl, by decide⟩
      · exact ⟨2, rfl, by decide⟩
      · exact ⟨3, rfl, by decide⟩
      · exact ⟨3, rfl, by decide⟩
      · exact ⟨2, rfl, by decide⟩
      · exact ⟨0, rfl, by decide⟩
      · exact ⟨5, rfl, by decide⟩
    obtain ⟨n, rfl, hn⟩ := hn
    have ht2 := purse_but (pu.same s1) b2 ht1
    have b02 : But p H H2 := (Same.but p s1).trans b2
    refine ⟨(n : Int), rfl, by omega, by omega, for_it (D := { nx := tRet (tVar 2) { nx := fun _ H' => Q V.non H', rt := Q }, rt := Q }) (walk_rng (m := n) rfl) (fun i σ H3 => But p H H3 ∧ Purse H3 p (k + 1 + 3 * i) ∧ ∃ (t : Addr) (L : List Nat) (sz : Nat) (u1 u2 u3 : Option V), H3 t = some (.tup (tn L)) ∧ L.length = i ∧ szM L ≤ sz ∧ sz ≤ 24 ∧ 1 ≤ sz ∧ (∀ l ∈ L, l ≤ 24) ∧ σ = [some (.ref p), some (.int 24), some (.ref t), some (.int (sz : Int)), u1, u2, u3])
      ⟨b02, pu2.mono (by omega), t, [], 1, none, none, none, ht2, rfl, Nat.le_refl _, by decide, by decide, by simp, rfl⟩ (fun _ _ _ _ _ => trivial) ?_ ?_⟩
    · rintro i x σ H3 H4 hi ⟨b3, pu3, t3, L, z, u1, u2, u3, ht3, hL, hz, hz24, hz1, he, rfl⟩ ⟨rfl, rfl⟩
      refine q_pick (m := 8) (xs := [V.int 6, .int 6, .int 6, .int 4, .int 3, .int 3, .int 2, .int 19]) rfl pu3 rfl (by decide) (by decide) (by omega) (fun Qa h => h) fun v H5 hv b5 pu5 => ?_
      have hm : ∃ m : Nat, v = .int (m : Int) ∧ m ≤ 19 ∧ 0 < m := by
        simp only [List.mem_cons, List.mem_nil_iff, or_false] at hv
        rcases hv with rfl | rfl | rfl | rfl | rfl | rfl | rfl | rfl
        · exact ⟨6, rfl, by decide, by decide⟩
        · exact ⟨6, rfl, by decide, by decide⟩
        · exact ⟨6, rfl, by decide, by decide⟩
        · exact ⟨4, rfl, by decide, by decide⟩
        · exact ⟨3, rfl, by decide, by decide⟩
        · exact ⟨3, rfl, by decide, by decide⟩
        · exact ⟨2, rfl, by decide, by decide⟩
        · exact ⟨19, rfl, by decide, by decide⟩
      obtain ⟨m, rfl, hm19, hm0⟩ := hm
      have ht5 := purse_but pu3 b5 ht3
      refine ⟨_, rfl, _, rfl, p, (m : Int), _, rfl, pu5, by omega, ?_, by omega, fun y H6 hy b6 pu6 => ?_⟩
      · have : (2 : Nat) ^ 110 = 1298074214633706907132624082305024 := by decide
        omega
      have ht6 := purse_but pu5 b6 ht5
      have b06 := (b3.trans b5).trans b6
      have join : ∀ l : Nat, 1 ≤ l → z * l ≤ 24 → l ≤ 24 → (tSeq (tAsg (tOp (rI CMul fun i j => V.int (i * j)) (tVar 3) (tVar 6)) (gName 3)) (tAsg (tOp (rCatA K) (tVar 2) (tTup (tCons (tOp (rIx K) (tLst (tCons (tVar 6) (tCons (tC (V.int 0)) tNil))) (tCB (fun xs H Q => (∃ i, xs = [.int i] ∧ Q (.int i) H) ∨ ∃ k, xs = [.bl k] ∧ Q (.int (if k then 1 else 0)) H) (tCons (tOp rEq (tCall spLTake [] E0 (tCons (tVar 0) (tCons (tC (V.int 20)) tNil))) (tC (V.int 7))) tNil))) tNil))) (gName 2)))
          { nx := fun σ H3 => But p H H3 ∧ Purse H3 p (k + 1 + 3 * (i + 1)) ∧ ∃ (t : Addr) (L : List Nat) (sz : Nat) (u1 u2 u3 : Option V), H3 t = some (.tup (tn L)) ∧ L.length = i + 1 ∧ szM L ≤ sz ∧ sz ≤ 24 ∧ 1 ≤ sz ∧ (∀ l ∈ L, l ≤ 24) ∧ σ = [some (.ref p), some (.int 24), some (.ref t), some (.int (sz : Int)), u1, u2, u3],
            ct := fun σ H3 => But p H H3 ∧ Purse H3 p (k + 1 + 3 * (i + 1)) ∧ ∃ (t : Addr) (L : List Nat) (sz : Nat) (u1 u2 u3 : Option V), H3 t = some (.tup (tn L)) ∧ L.length = i + 1 ∧ szM L ≤ sz ∧ sz ≤ 24 ∧ 1 ≤ sz ∧ (∀ l ∈ L, l ≤ 24) ∧ σ = [some (.ref p), some (.int 24), some (.ref t), some (.int (sz : Int)), u1, u2, u3],
            bk := tRet (tVar 2) { nx := fun _ H' => Q V.non H', rt := Q }, rt := Q } ([some (.ref p), some (.int 24), some (.ref t3), some (.int (z : Int)), some (.int (i : Int)), some (.int (m : Int)), some (.int (l : Int))] : L2.St) H6 := by
        intro l hl1 hzl hl24
        refine ⟨_, rfl, _, rfl, _, _, rfl, rfl, .inl ⟨by omega, by omega⟩, ?_⟩
        refine ⟨_, rfl, ?_⟩
        refine q_pick2 (m := 20) (a := .int (l : Int)) (c := .int 0) rfl pu6 (by decide) (by decide) (by omega) (fun Qa h => ⟨_, rfl, h⟩) fun v H7 hv b7 pu7 => ?_
        have ht7 := purse_but pu6 b7 ht6
        obtain ⟨x, rfl, hx⟩ : ∃ x : Nat, v = .int (x : Int) ∧ (x = l ∨ x = 0) := by
          rcases hv with rfl | rfl
          · exact ⟨l, rfl, .inl rfl⟩
          · exact ⟨0, rfl, .inr rfl⟩
        refine ⟨sz_ok (by show 1 ≤ 100000; decide), fun c hc => ?_⟩
        have s8 : Same H7 (upd H7 c (.tup [.int (x : Int)])) := Same.new hc
        refine q_cat (s8 _ _ ht7) upd_same (by rw [tn_len]; show _ + 1 ≤ 100000; omega) fun r H8 s9 hr => ?_
        have s79 := s8.trans s9
        refine ⟨(b06.trans b7).trans (Same.but p s79), (pu7.same s79).mono (by omega), r, L ++ [x], z * l, some (.int (i : Int)), some (.int (m : Int)), some (.int (l : Int)), ?_, by rw [List.length_append, hL]; rfl, ?_, hzl, Nat.mul_pos hz1 hl1, fun y hy => ?_, ?_⟩
        · rw [hr]; unfold tn; rw [List.map_append]; rfl
        · rw [szM_snoc]
          exact Nat.mul_le_mul hz (by omega)
        · rcases List.mem_append.mp hy with z | z
          · exact he y z
          · rw [List.mem_singleton.mp z]; omega
        · rw [Int.natCast_mul]; rfl
      refine ⟨_, _, rfl, rfl, ?_⟩
      have e1 : ((1 : Int) + (y : Int)) = ((1 + y : Nat) : Int) := by omega
      show gName 6 (V.int (1 + (y : Int))) _ H6 _
      rw [e1]
      refine ⟨_, rfl, _, rfl, _, _, rfl, rfl, .inl ⟨by omega, by omega⟩, _, rfl, _, _, rfl, rfl, _, rfl, ite2 (fun z1 => ?_) fun z1 => ?_⟩
      · exact join 1 (by decide) (by omega) (by decide)
      · have z1 := of_decide_eq_false (Bool.eq_false_iff.mpr z1)
        refine join (1 + y) (by omega) ?_ (by omega)
        have e2 : ((z * (1 + y) : Nat) : Int) = (z : Int) * ((1 + y : Nat) : Int) := Int.natCast_mul ..
        omega
    · rintro σ H3 ⟨b3, pu3, t3, L, z, u1, u2, u3, ht3, hL, hz, hz24, hz1, he, rfl⟩
      exact ⟨_, rfl, q t3 L H3 b3 (pu3.mono (by omega)) ht3 ⟨by omega, he, by omega⟩⟩
end
end VG
-- VgLaw5
set_option Elab.async false
set_option linter.all false
set_option maxRecDepth 100000
set_option maxHeartbeats 4000000
namespace VG
open PySem PySem.Spec PyProof.Rows L2
/-- a room of its own -/
structure Own (K : PySem.W.Frag) (H0 H : Hp) (d : RD) : Prop where
  rm : Rm K H d
  s0 : d.s = 0
  h1 : ∀ i, d.hd i = 1
  ip : Inj d.ps
  ik : Inj d.ks
  pk : d.pl ∉ d.ks
  new : ∀ b, d.ft b → H0 b = none
section
variable {P : Program} {w : World} {K : PySem.W.Frag} {mg : Str → Option Value} {base : Heap}
def spLRoom (K : PySem.W.Frag) : Sp := fun vs H Q _ => ∃ (p : Addr) (k m : Nat), vs = [.ref p, .int (m : Int)] ∧ Purse H p k ∧ m ≤ 600 ∧ k + 2 * m + 1 < 100000 ∧ ∀ (d : RD) H', But p H H' → Purse H' p (k + 2 * m + 1) → Own K H H' d → d.ns.length = m → Q (.ref d.a) H'
theorem ok_l_room (T : Tx K mg) : Def P w K mg base 5 "_law_room" ["_law_purse_here", "_law_many"] [] (spLRoom K) := by
  refine Def.mk0 (f_l_room T) (g_l_room T) sc_l_room (fun _ _ _ _ _ _ us hl => match us, hl with | [_, _], _ => rfl) (fun vs H Q E h => ?_) (fun cdv A outer s H vs Q E hr h => ?_)
  · obtain ⟨p, k, m, rfl, _⟩ := h; rfl
  · obtain ⟨p, k, m, rfl, pu, hm, hk, q⟩ := h
    refine ⟨_, (pss_one (ps_ret (pe_mkKW (K := K) (P := P) (w := w) (mg := mg) (base := base) ((okw_Room_init T).mono (by omega)) rfl rfl rfl rfl rfl hr (by rfl) (pa_cons (pe_lc (own := [("_law_k", 2)]) (tt := tYes) rfl sc_l_room.nd (pi_range1 (by rfl) (z_range T) (pa_cons (pv 1) pa_nil)) (blkOk_by (own := [("_law_k", 2)]) (sc := defScope s_l_room) (N := n_l_room) (by decide +kernel)) (fun _ _ _ _ _ => (pg_name (i := 2) sc_l_room.nd rfl (by first | exact Or.inl rfl | exact Or.inr rfl))) (fun _ _ _ _ _ => pts_nil) (fun _ _ _ _ _ => (pe_fK (K := K) (P := P) (w := w) (mg := mg) (base := base) ((ok_l_number T).mono (by omega)) rfl rfl rfl rfl rfl hr (by rfl) (pa_cons (pv 0) pa_nil)))) pa_nil) (pk_cons (pe_ix (ix_K (K := K) rfl) (pe_lst (pa_cons pe_int (pa_cons pe_int (pa_cons pe_int (pa_cons pe_int pa_nil))))) (pe_fK (K := K) (P := P) (w := w) (mg := mg) (base := base) ((ok_l_take T).mono (by omega)) rfl rfl rfl rfl rfl hr (by rfl) (pa_cons (pv 0) (pa_cons pe_int pa_nil))) (fun _ _ => rfl)) pk_nil)))), ?_⟩
    refine ⟨_, rfl, (m : Int), rfl, by omega, by omega, fun D hD => ?_⟩
    obtain ⟨pxs, hpx⟩ := pu.some
    have nDp : D ≠ p := (ne_of_none hpx hD).symm
    refine lc_it (walk_rng (m := m) rfl) (fun i H2 => (∀ b o, b ≠ D → b ≠ p → H b = some o → H2 b = some o) ∧ Purse H2 p (k + 2 * i) ∧ ∃ ns : List Int, ns.length = i ∧ H2 D = some (.lst (ti ns))) ⟨fun b o n1 _ e => by rw [upd_ne n1]; exact e, pu.keep fun o e => by rw [upd_ne nDp.symm]; exact e, [], rfl, upd_same⟩ (fun _ _ _ _ => trivial) ?_ ?_
    · rintro i x H2 H3 hi ⟨k2, pu2, ns, hns, hD2⟩ ⟨rfl, rfl⟩
      refine ⟨rfl, ?_⟩
      show tCall spLNumber [] E0 (tCons (tVar 0) tNil) _ H3 _
      refine ⟨_, rfl, p, _, rfl, pu2, by omega, fun n H4 b4 pu4 => ?_⟩
      have hD4 := b4 _ _ nDp hD2
      refine ⟨_, hD4, sz_lt (by rw [ti_len]; omega), fun b o n1 n2 e => ?_, (pu4.mono (by omega)).keep fun o e => by rw [upd_ne nDp.symm]; exact e, ns ++ [n], by rw [List.length_append, hns]; rfl, ?_⟩
      · rw [upd_ne n1]; exact b4 _ _ n2 (k2 b o n1 n2 e)
      · rw [upd_same]; unfold ti; rw [List.map_append]; rfl
    · rintro H2 ⟨k2, pu2, ns, hns, hD2⟩
      refine ⟨sz_ok (by show 4 ≤ 100000; decide), fun l hl => ?_⟩
      refine q_pickL (m := 4) (xs := [V.int 8, .int 1, .int 3, .int 64]) rfl pu2 hl rfl (by decide) (by decide) (by omega) fun v H3 hv b3 pu3 => ?_
      obtain ⟨wd, rfl, hw0, hw1⟩ : ∃ wd : Nat, v = .int (wd : Int) ∧ 0 < wd ∧ wd ≤ 64 := by
        simp only [List.mem_cons, List.mem_nil_iff, or_false] at hv
        rcases hv with rfl | rfl | rfl | rfl
        · exact ⟨8, rfl, by decide, by decide⟩
        · exact ⟨1, rfl, by decide, by decide⟩
        · exact ⟨3, rfl, by decide, by decide⟩
        · exact ⟨64, rfl, by decide, by decide⟩
      have hD3 := b3 _ _ nDp hD2
      have hp3 := pu3.ne
      refine ⟨rfl, rfl, fun x dx hx hdx hne => ?_⟩
      have s4 : Same H3 (upd (upd H3 dx (.own x)) x (.ins (He.ga K "Room") dx [])) := (Same.new hdx).trans (Same.new (by rw [upd_ne (Ne.symm hne)]; exact hx))
      have nx : ∀ y o, H3 y = some o → y ≠ x := fun y o e => ne_of_none e hx
      refine ⟨x, dx, D, ns, wd, rfl, upd_same, .inl (SqL.of (s4 _ _ hD3)), nx _ _ hD3, hw0, hw1, by omega, fun H5 pl ps ks k5 r5 np nk npk fr => ⟨rfl, ?_⟩⟩
      have npx : p ≠ x := by obtain ⟨xs, e⟩ := pu3.some; exact nx _ _ e
      have k03 : ∀ b o, b ≠ p → H b = some o → H3 b = some o := fun b o n e => b3 _ _ n (k2 b o (ne_of_none e hD) n e)
      have back3 : ∀ b, H3 b = none → H b = none := fun b e => by
        cases z : H b with
        | none => rfl
        | some o =>
          by_cases zp : b = p
          · rw [zp] at e; exact absurd e hp3
          · rw [k03 b o zp z] at e; cases e
      refine q { a := x, w := wd, ns := ns, pl := pl, c := 0, s := 0, ps := ps, ks := ks, hd := fun _ => 1 } H5 (fun b o n e => k5 _ _ (nx _ _ (k03 b o n e)) (s4 _ _ (k03 b o n e))) ?_ ⟨r5, rfl, fun _ => rfl, inj_of np, inj_of nk, npk, fun b f => ?_⟩ hns
      · refine (pu3.mono (by omega)).keep fun o e => k5 _ _ npx (s4 _ _ e)
      · rcases f with rfl | f
        · exact back3 _ hx
        · exact back3 _ (s4.free (fr b f))
end
end VG
-- VgLaw6
set_option Elab.async false
set_option linter.all false
set_option maxRecDepth 100000
set_option maxHeartbeats 4000000
namespace VG
open PySem PySem.Spec PyProof.Rows L2
theorem seqIx {n j : Nat} (h : j < n) : seqIndex? (j : Int) n = some j := by
  have e : ¬ ((j : Int) < 0) := by omega
  simp [seqIndex?, e, h]
section
variable {P : Program} {w : World} {K : PySem.W.Frag} {mg : Str → Option Value} {base : Heap}
def spLUnlike : Sp := fun vs H Q _ => ∃ (p a : Addr) (k : Nat) (L : List Nat), vs = [.ref p, .ref a] ∧ Purse H p k ∧ H a = some (.tup (tn L)) ∧ Len L ∧ k + 16 < 100000 ∧ ∀ (t : Addr) (f : List Int) (s : Int) H', But p H H' → Purse H' p (k + 16) → H' t = some (.tup (ti f)) → Unl L [] f s → s ≤ 168 → Q (.ref t) H'
theorem ok_l_unlike_steps (T : Tx K mg) : Def P w K mg base 2 "_law_unlike_steps" ["_law_purse_here", "_law_lengths_here"] [] spLUnlike := by
  refine Def.mk0 (f_l_unlike_steps T) (g_l_unlike_steps T) sc_l_unlike_steps (fun _ _ _ _ _ _ us hl => match us, hl with | [_, _], _ => rfl) (fun vs H Q E h => ?_) (fun cdv A outer s H vs Q E hr h => ?_)
  · obtain ⟨p, a, k, L, rfl, _⟩ := h; rfl
  · obtain ⟨p, a, k, L, rfl, pu, ha, hL, hk, q⟩ := h
    have hu := hr.units0
    refine ⟨_, (pss_cons (ps_set (i := 2) sc_l_unlike_steps.nd rfl (Or.inl rfl) (pe_listRg rfl (by rfl) (z_list T) (prg_1 (by rfl) (z_range T) (pe_callB (call_lenK (K := K) rfl) (by rfl) (z_len T) (by decide +kernel) (pa_cons (pv 1) pa_nil)))))
    (pss_cons (ps_set (i := 3) sc_l_unlike_steps.nd rfl (Or.inl rfl) (pe_op op_add pe_int (pe_fK (K := K) (P := P) (w := w) (mg := mg) (base := base) ((ok_l_take T).mono (by omega)) rfl rfl rfl rfl rfl hr (by rfl) (pa_cons (pv 0) (pa_cons pe_int pa_nil)))))
    (pss_cons (ps_setLc (i := 4) (own := [("_law_length", 5)]) (tt := tYes) rfl sc_l_unlike_steps.nd rfl rfl (sw_true rfl rfl rfl (by decide +kernel)) (pi_tupK (K := K) rfl (pv 1)) (blkOk_by (own := [("_law_length", 5)]) (sc := defScope s_l_unlike_steps) (N := n_l_unlike_steps) (by decide +kernel)) (fun _ _ _ _ _ => (pg_name (i := 5) sc_l_unlike_steps.nd rfl (by first | exact Or.inl rfl | exact Or.inr rfl))) (fun _ _ _ _ _ => pts_nil) (fun _ _ _ _ _ => pe_int))
    (pss_cons (ps_while PassesOwn.never (pt_cmpR (op_neE (K := K) rfl hu) (pv 2) (pe_lst pa_nil) (nomark _))
    (pss_cons (ps_set (i := 6) sc_l_unlike_steps.nd rfl (Or.inl rfl) (pe_bmK (K := K) rfl PySem.F.plainAttrs_list PySem.F.slot_list_pop PySem.F.type_list_pop mt_popAt (pv 2) (pa_cons (pe_fK (K := K) (P := P) (w := w) (mg := mg) (base := base) ((ok_l_take T).mono (by omega)) rfl rfl rfl rfl rfl hr (by rfl) (pa_cons (pv 0) (pa_cons (pe_callB (call_lenK (K := K) rfl) (by rfl) (z_len T) (by decide +kernel) (pa_cons (pv 2) pa_nil)) pa_nil))) pa_nil)))
    (pss_cons (ps_asg (pe_op op_mul (pv 3) (pe_ix (ix_K (K := K) rfl) (pe_lst (pa_cons pe_int (pa_cons pe_int (pa_cons (pe_un un_neg pe_int) pa_nil)))) (pe_fK (K := K) (P := P) (w := w) (mg := mg) (base := base) ((ok_l_take T).mono (by omega)) rfl rfl rfl rfl rfl hr (by rfl) (pa_cons (pv 0) (pa_cons pe_int pa_nil))) (fun _ _ => rfl))) (pg_sub (pv 4) (pv 6) set_list))
    (pss_one (ps_set (i := 3) sc_l_unlike_steps.nd rfl (Or.inl rfl) (pe_op op_add (pe_op op_mul (pv 3) (pe_callB (call_max2 rfl) (by rfl) (z_max T) (by decide +kernel) (pa_cons pe_int (pa_cons (pe_ix (ix_K (K := K) rfl) (pv 1) (pv 6) (fun _ _ => rfl)) pa_nil)))) (pe_ix (ix_K (K := K) rfl) (pe_lst (pa_cons pe_int (pa_cons pe_int (pa_cons pe_int pa_nil)))) (pe_fK (K := K) (P := P) (w := w) (mg := mg) (base := base) ((ok_l_take T).mono (by omega)) rfl rfl rfl rfl rfl hr (by rfl) (pa_cons (pv 0) (pa_cons pe_int pa_nil))) (fun _ _ => rfl))))))))
    (pss_one (ps_ret (pe_callTy (call_tupK (K := K) rfl) (by rfl) (z_tuple T) (by decide +kernel) (pa_cons (pv 4) pa_nil)))))))), ?_⟩
    have h5 := hL.len
    refine ⟨_, rfl, a, _, rfl, .inr (SqT.of ha), _, rfl, RgOk.of_le (by omega) (by rw [tn_len]; omega) (by omega) (by omega), fun l hl => ?_⟩
    rw [tn_len, rgV_tn]
    have s1 : Same H (upd H l (.lst (tn (List.range L.length)))) := Same.new hl
    have hl1 : (upd H l (.lst (tn (List.range L.length)))) l = some (.lst (tn (List.range L.length))) := upd_same
    generalize upd H l (.lst (tn (List.range L.length))) = H1 at s1 hl1
    refine q_take (m := 2) rfl (pu.same s1) (by decide) (by decide) (by omega) fun z H2 hz b2 pu2 => ?_
    refine ⟨_, _, rfl, rfl, ?_⟩
    obtain ⟨pxs, hpx⟩ := pu.some
    have nlp : l ≠ p := (ne_of_none hpx hl).symm
    have nap : a ≠ p := ne_of ha hpx (by intro z; cases z)
    have ha2 := b2 _ _ nap (s1 _ _ ha)
    have hl2 := b2 _ _ nlp hl1
    refine ⟨_, rfl, a, rfl, ⟨_, SqT.of ha2⟩, fun fo hfo => ?_⟩
    refine lc_new (walk_tup (xs := tn L)) (by rw [tn_len]; omega) hfo (fun i y _ => ∃ k : Int, (List.replicate L.length (0 : Int))[i]? = some k ∧ y = .int k) (fun H3 s3 => SqT.of (s3 _ _ ha2)) (fun _ _ _ _ _ h => h) ?_ ?_
    · rintro i x H3 H4 Kt hi s3 hacc ⟨rfl, hx⟩ kt
      rw [tn_len] at hi
      exact ⟨rfl, kt _ _ (Same.refl _) ⟨0, by rw [List.getElem?_replicate, if_pos hi], rfl⟩⟩
    intro ys H3 s3 hfo3 hy hR
    have e := ys_ti (p := List.replicate L.length (0 : Int)) (by rw [hy, tn_len, List.length_replicate]) hR
    subst e
    have hl3 := s3 _ _ hl2
    have nfp : fo ≠ p := by
      obtain ⟨xs, e⟩ := pu2.some
      exact (ne_of_none e hfo).symm
    have nlf : l ≠ fo := ne_of_none hl2 hfo
    have hfo0 : H fo = none := ((Same.but p s1).trans b2).there pu2.ne fo hfo
    have b03 : But p H H3 := ((Same.but p s1).trans b2).trans (Same.but p s3)
    have hz1 : (1 : Int) ≤ 1 + (z : Int) ∧ 1 + (z : Int) ≤ 2 := by omega
    obtain ⟨s0, hs0⟩ : ∃ s0 : Int, s0 = 1 + (z : Int) := ⟨_, rfl⟩
    have fin : ∀ n j : Nat, j < n → ixN n (j : Int) = some j := fun n j h => ixN_n h
    refine ⟨fun m σ H4 => ∃ (left : List Nat) (f : List Int) (s : Int) (u6 : Option V), m = left.length ∧ left.length ≤ L.length ∧ But p H H4 ∧ Purse H4 p (k + 1 + 3 * (L.length - left.length)) ∧ H4 l = some (.lst (tn left)) ∧ H4 fo = some (.lst (ti f)) ∧ Unl L left f s ∧ σ = [some (.ref p), some (.ref a), some (.ref l), some (.int s), some (.ref fo), none, u6],
      ⟨_, List.range L.length, List.replicate L.length 0, s0, none, rfl, by rw [List.length_range]; exact Nat.le_refl _, b03, (pu2.same s3).mono (by rw [List.length_range]; omega), hl3, hfo3, Unl.start (by omega) (by omega), by rw [hs0]; rfl⟩, ?_⟩
    rintro m σ H4 ⟨left, f, s, u6, rfl, hll, b4, pu4, hl4, hf4, un, rfl⟩
    refine ⟨_, rfl, sz_ok (Nat.zero_le _), fun e0 he0 => ?_⟩
    have s5 : Same H4 (upd H4 e0 (.lst [])) := Same.new he0
    have he5 : (upd H4 e0 (.lst [])) e0 = some (.lst []) := upd_same
    generalize upd H4 e0 (.lst []) = H5 at s5 he5
    refine ⟨l, e0, tn left, rfl, rfl, SqL.of (s5 _ _ hl4), SqL.of he5, _, rfl, ?_⟩
    have b5 : But p H H5 := b4.trans (Same.but p s5)
    have pu5 := pu4.same s5
    have hl5 := s5 _ _ hl4
    have hf5 := s5 _ _ hf4
    cases left with
    | nil =>
      rw [show (!(tn ([] : List Nat)).isEmpty) = false from rfl]
      refine iteF ?_
      refine ⟨_, rfl, fo, _, rfl, .inl ⟨SqL.of hf5, fun t ht => ?_⟩⟩
      exact q t f s _ (b5.trans (Same.but p (Same.new ht))) ((pu5.same (Same.new ht)).mono (by simp; omega)) upd_same un (un.step_le h5 hL.sz)
    | cons x0 rest =>
      obtain ⟨left, hleft⟩ : ∃ left, left = x0 :: rest := ⟨_, rfl⟩
      rw [← hleft] at hll hl4 un pu5 hl5 ⊢
      have hne : 0 < left.length := by rw [hleft]; simp
      rw [show (!(tn left).isEmpty) = true by rw [hleft]; rfl]
      refine iteT ?_
      refine ⟨fun σ H4 => ∃ (left' : List Nat) (f : List Int) (s : Int) (u6 : Option V), left'.length + 1 = left.length ∧ But p H H4 ∧ Purse H4 p (k + 1 + 3 * (L.length - left'.length)) ∧ H4 l = some (.lst (tn left')) ∧ H4 fo = some (.lst (ti f)) ∧ Unl L left' f s ∧ σ = [some (.ref p), some (.ref a), some (.ref l), some (.int s), some (.ref fo), none, u6], ?_, ?_⟩
      · rintro σ' H' ⟨left', f', s', v6, h1, h2, h3, h4, h5', h6, h7⟩
        exact ⟨left'.length, by omega, left', f', s', v6, rfl, by omega, h2, h3, h4, h5', h6, h7⟩
      have ha5 := b5 _ _ nap ha
      refine ⟨_, rfl, .inl ⟨rfl, _, SqL.of hl5⟩, _, rfl, _, rfl, l, _, rfl, .inl (SqL.of hl5), ?_⟩
      rw [tn_len]
      refine ⟨p, (left.length : Int), _, rfl, pu5, by omega, ?_, by omega, fun j H6 hj b6 pu6 => ?_⟩
      · have : (2 : Nat) ^ 110 = 1298074214633706907132624082305024 := by decide
        omega
      have hj : j < left.length := by omega
      have hl6 := b6 _ _ nlp hl5
      have hf6 := b6 _ _ nfp hf5
      have ha6 := b6 _ _ nap ha5
      have hleftj : left[j]? = some left[j] := List.getElem?_eq_getElem hj
      generalize left[j] = at_ at hleftj
      have hat := un.lt at_ (List.mem_of_getElem? hleftj)
      have hLat : L[at_]? = some L[at_] := List.getElem?_eq_getElem hat
      generalize L[at_] = ln at hLat
      have hln := hL.each ln (List.mem_of_getElem? hLat)
      have hs168 := un.step_le h5 hL.sz
      have hs1 := un.pos
      refine ⟨l, _, _, j, _, rfl, rfl, hl6, by omega, by omega, ?_, tn_get hleftj, ?_⟩
      · rw [tn_len]; exact seqIx hj
      have et : (tn left).eraseIdx j = tn (left.eraseIdx j) := by unfold tn; rw [eraseIdx_map]
      rw [et]
      have b7 : But p H (upd H6 l (.lst (tn (left.eraseIdx j)))) := fun y o n e => by
        rw [upd_ne (ne_of_none e hl)]; exact b6 _ _ n (b5 _ _ n e)
      have pu7 : Purse (upd H6 l (.lst (tn (left.eraseIdx j)))) p (k + 1 + 3 * (L.length - left.length) + 1) := pu6.keep fun o e => by rw [upd_ne nlp.symm]; exact e
      have hl7 : (upd H6 l (.lst (tn (left.eraseIdx j)))) l = some (.lst (tn (left.eraseIdx j))) := upd_same
      have hf7 : (upd H6 l (.lst (tn (left.eraseIdx j)))) fo = some (.lst (ti f)) := (upd_ne nlf.symm).trans hf6
      have ha7 : (upd H6 l (.lst (tn (left.eraseIdx j)))) a = some (.tup (tn L)) := (upd_ne (ne_of_none ha hl)).trans ha6
      generalize upd H6 l (.lst (tn (left.eraseIdx j))) = H7 at b7 pu7 hl7 hf7 ha7
      refine ⟨_, rfl, ?_⟩
      refine q_pick (m := 3) (xs := [V.int 1, .int 1, .int (-1)]) rfl pu7 rfl (by decide) (by decide) (by omega) (fun Qa h => ⟨_, rfl, h⟩) fun v H8 hv b8 pu8 => ?_
      obtain ⟨sg, rfl, hsg⟩ : ∃ sg : Int, v = .int sg ∧ (sg = 1 ∨ sg = -1) := by
        simp only [List.mem_cons, List.mem_nil_iff, or_false] at hv
        rcases hv with rfl | rfl | rfl
        · exact ⟨_, rfl, .inl rfl⟩
        · exact ⟨_, rfl, .inl rfl⟩
        · exact ⟨_, rfl, .inr rfl⟩
      have hl8 := b8 _ _ nlp hl7
      have hf8 := b8 _ _ nfp hf7
      have ha8 := b8 _ _ nap ha7
      refine ⟨_, _, rfl, rfl, .inl ⟨by omega, by omega⟩, ?_⟩
      have hflen := un.len
      refine ⟨_, rfl, _, rfl, fo, _, _, at_, rfl, rfl, hf8, ixN_n (by rw [ti_len, hflen]; exact hat), ?_⟩
      have ef : upd H8 fo (.lst ((ti f).set at_ (.int (s * sg)))) = upd H8 fo (.lst (ti (f.set at_ (s * sg)))) := by unfold ti; rw [List.map_set]
      rw [ef]
      have b9 : But p H (upd H8 fo (.lst (ti (f.set at_ (s * sg))))) := fun y o n e => by
        rw [upd_ne (ne_of_none e hfo0)]; exact b8 _ _ n (b7 _ _ n e)
      have pu9 : Purse (upd H8 fo (.lst (ti (f.set at_ (s * sg))))) p (k + 1 + 3 * (L.length - left.length) + 1 + 1) := pu8.keep fun o e => by rw [upd_ne nfp.symm]; exact e
      have hl9 : (upd H8 fo (.lst (ti (f.set at_ (s * sg))))) l = some (.lst (tn (left.eraseIdx j))) := (upd_ne nlf).trans hl8
      have hf9 : (upd H8 fo (.lst (ti (f.set at_ (s * sg))))) fo = some (.lst (ti (f.set at_ (s * sg)))) := upd_same
      have ha9 : (upd H8 fo (.lst (ti (f.set at_ (s * sg))))) a = some (.tup (tn L)) := (upd_ne (ne_of_none ha hfo0)).trans ha8
      generalize upd H8 fo (.lst (ti (f.set at_ (s * sg)))) = H9 at b9 pu9 hl9 hf9 ha9
      refine ⟨_, rfl, _, rfl, _, rfl, q_ixT (i := at_) ha9 (tn_get hLat) ⟨_, _, rfl, ?_⟩⟩
      have emx : (if (ln : Int) > 1 then (ln : Int) else 1) = max 1 (ln : Int) := by split <;> omega
      rw [emx]
      refine ⟨_, _, rfl, rfl, .inl ⟨by omega, by omega⟩, ?_⟩
      show tOp (rIx K) (tLst _) (tCall _ _ _ _) _ H9 _
      refine q_pick (m := 3) (xs := [V.int 0, .int 0, .int 1]) rfl pu9 rfl (by decide) (by decide) (by omega) (fun Qa h => h) fun v H10 hv b10 pu10 => ?_
      obtain ⟨g, rfl, hg0, hg1⟩ : ∃ g : Int, v = .int g ∧ 0 ≤ g ∧ g ≤ 1 := by
        simp only [List.mem_cons, List.mem_nil_iff, or_false] at hv
        rcases hv with rfl | rfl | rfl
        · exact ⟨_, rfl, by decide, by decide⟩
        · exact ⟨_, rfl, by decide, by decide⟩
        · exact ⟨_, rfl, by decide, by decide⟩
      have un2 : Unl L (left.eraseIdx j) (f.set at_ (s * sg)) (s * max 1 (ln : Int) + g) := un.step h5 hL.sz hleftj hLat (by rcases hsg with rfl | rfl <;> omega) hg0 hg1
      have hel : (left.eraseIdx j).length + 1 = left.length := by rw [List.length_eraseIdx, if_pos hj]; omega
      exact ⟨_, _, rfl, rfl, left.eraseIdx j, _, _, some (.int (at_ : Int)), hel, b9.trans b10, pu10.mono (by omega), b10 _ _ nlp hl9, b10 _ _ nfp hf9, un2, rfl⟩
end
end VG
-- VgLaw7
set_option Elab.async false
set_option linter.all false
set_option maxRecDepth 100000
set_option maxHeartbeats 4000000
namespace VG
open PySem PySem.Spec PyProof.Rows L2
theorem rch_snoc (w : Int) : ∀ (ls : List Nat) (ss : List Int) (l : Nat) (s : Int), ss.length = ls.length → rch w (ls ++ [l]) (ss ++ [s]) = rch w ls ss + far1 w l s
  | [], [], l, s, _ => by simp [rch]
  | a :: ls, b :: ss, l, s, h => by
    have ih := rch_snoc w ls ss l s (by simpa using h)
    simp only [List.cons_append, rch, ih]
    omega
  | [], _ :: _, _, _, h => by simp at h
  | _ :: _, [], _, _, h => by simp at h
theorem far1_zero (w : Int) (l : Nat) : far1 w l 0 = 0 := by unfold far1; simp
theorem szM_drop : ∀ (j : Nat) (L : List Nat), szM (L.drop j) ≤ szM L
  | 0, _ => Nat.le_refl _
  | _ + 1, [] => Nat.le_refl _
  | j + 1, l :: L => Nat.le_trans (szM_drop j L) (Nat.le_mul_of_pos_left _ (by omega))
theorem szM_fit : ∀ {ls M : List Nat}, M.length = ls.length → (∀ (i x l : Nat), ls[i]? = some x → M[i]? = some l → x = l ∨ x = 1) → szM ls ≤ szM M
  | [], [], _, _ => Nat.le_refl _
  | x :: ls, m :: M, h, f => by
    have ih := szM_fit (ls := ls) (M := M) (by simpa using h) fun i x l a b => f (i + 1) x l (by simpa using a) (by simpa using b)
    have h0 := f 0 x m rfl rfl
    show max 1 x * szM ls ≤ max 1 m * szM M
    exact Nat.mul_le_mul (by omega) ih
  | [], _ :: _, h, _ => by simp at h
  | _ :: _, [], h, _ => by simp at h
theorem fit_of {ls L : List Nat} {j : Nat} (hl : (L.drop j).length = ls.length) (hj : j ≤ L.length) (f : ∀ (i x l : Nat), ls[i]? = some x → (L.drop j)[i]? = some l → x = l ∨ x = 1) : Fit ls L := by
  rw [List.length_drop] at hl
  refine ⟨by omega, fun i x l h1 h2 => ?_⟩
  have hi : i < ls.length := by have := (List.getElem?_eq_some_iff.mp h1).1; rw [List.length_reverse] at this; exact this
  rw [List.getElem?_reverse hi] at h1
  rw [List.getElem?_reverse (by omega)] at h2
  refine f (ls.length - 1 - i) x l h1 ?_
  rw [List.getElem?_drop, ← h2]
  congr 1
  omega
section
variable {P : Program} {w : World} {K : PySem.W.Frag} {mg : Str → Option Value} {base : Heap}
def spLSource : Sp := fun vs H Q _ => ∃ (p a c : Addr) (k many : Nat) (L : List Nat) (f : List Int), vs = [.ref p, .int (many : Int), .ref a, .ref c] ∧ Purse H p k ∧ H a = some (.tup (tn L)) ∧ H c = some (.tup (ti f)) ∧ f.length = L.length ∧ Len L ∧ (∀ x ∈ f, -168 ≤ x ∧ x ≤ 168) ∧ 1 ≤ many ∧ many ≤ 20000 ∧ k + 23 < 100000 ∧
  ∀ (r ta tf : Addr) (ls : List Nat) (b : Int) (ss : List Int) H', But p H H' → Purse H' p (k + 23) → H' r = some (.tup [.ref ta, .int b, .ref tf]) → H' ta = some (.tup (tn ls)) → H' tf = some (.tup (ti ss)) → Fit ls L → Len ls → ss.length = ls.length → (∀ x ∈ ss, -600 ≤ x ∧ x ≤ 600) → Within (cells ls b ss) many → Q (.ref r) H'
theorem ok_l_source (T : Tx K mg) : Def P w K mg base 3 "_law_source" ["_law_purse_here", "_law_many", "_law_lengths_here", "_law_steps_here"] [] spLSource := by
  refine Def.mk0 (f_l_source T) (g_l_source T) sc_l_source (fun _ _ _ _ _ _ us hl => match us, hl with | [_, _, _, _], _ => rfl) (fun vs H Q E h => ?_) (fun cdv A outer s H vs Q E hr h => ?_)
  · obtain ⟨p, a, c, k, many, L, f, rfl, _⟩ := h; rfl
  · obtain ⟨p, a, c, k, many, L, f, rfl, pu, ha, hc, hfl, hL, hf, hm1, hm2, hk, q⟩ := h
    refine ⟨_, (pss_cons (ps_set (i := 4) sc_l_source.nd rfl (Or.inl rfl) (pe_slice (sl_TK (K := K) rfl) (pv 2) (po_some (pe_ix (ix_K (K := K) rfl) (pe_lst (pa_cons pe_int (pa_cons pe_int (pa_cons pe_int (pa_cons (pe_fK (K := K) (P := P) (w := w) (mg := mg) (base := base) ((ok_l_take T).mono (by omega)) rfl rfl rfl rfl rfl hr (by rfl) (pa_cons (pv 0) (pa_cons (pe_op op_add (pe_callB (call_lenK (K := K) rfl) (by rfl) (z_len T) (by decide +kernel) (pa_cons (pv 2) pa_nil)) pe_int) pa_nil))) pa_nil))))) (pe_fK (K := K) (P := P) (w := w) (mg := mg) (base := base) ((ok_l_take T).mono (by omega)) rfl rfl rfl rfl rfl hr (by rfl) (pa_cons (pv 0) (pa_cons pe_int pa_nil))) (fun _ _ => rfl))) po_none))
    (pss_cons (ps_set (i := 4) sc_l_source.nd rfl (Or.inl rfl) (pe_callTy (call_tupK (K := K) rfl) (by rfl) (z_tuple T) (by decide +kernel) (pa_cons (pe_lc (own := [("_law_length", 5)]) (tt := tYes) rfl sc_l_source.nd (pi_tupK (K := K) rfl (pv 4)) (blkOk_by (own := [("_law_length", 5)]) (sc := defScope s_l_source) (N := n_l_source) (by decide +kernel)) (fun _ _ _ _ _ => (pg_name (i := 5) sc_l_source.nd rfl (by first | exact Or.inl rfl | exact Or.inr rfl))) (fun _ _ _ _ _ => pts_nil) (fun _ _ _ _ _ => (pe_ix (ix_K (K := K) rfl) (pe_lst (pa_cons (pv 5) (pa_cons pe_int pa_nil))) (pe_callTy call_int1 (by rfl) (z_int T) (by decide +kernel) (pa_cons (pe_cmpR op_eq (pe_fK (K := K) (P := P) (w := w) (mg := mg) (base := base) ((ok_l_take T).mono (by omega)) rfl rfl rfl rfl rfl hr (by rfl) (pa_cons (pv 0) (pa_cons pe_int pa_nil))) pe_int (nomark _)) pa_nil)) (fun _ _ => rfl)))) pa_nil)))
    (pss_cons (ps_set (i := 6) sc_l_source.nd rfl (Or.inl rfl) (pe_slice (sl_TK (K := K) rfl) (pv 3) (po_some (pe_op op_sub (pe_callB (call_lenK (K := K) rfl) (by rfl) (z_len T) (by decide +kernel) (pa_cons (pv 2) pa_nil)) (pe_callB (call_lenK (K := K) rfl) (by rfl) (z_len T) (by decide +kernel) (pa_cons (pv 4) pa_nil)))) po_none))
    (pss_cons (ps_set (i := 7) sc_l_source.nd rfl (Or.inl rfl) (pe_tup pa_nil))
    (pss_cons (ps_for PassesOwn.never rfl (pi_enumK (K := K) rfl (by rfl) (z_enumerate T) (pa_cons (pv 4) pa_nil)) (pg_tupK (K := K) (n := 2) rfl rfl (pgs_cons (pg_name (i := 8) sc_l_source.nd rfl (Or.inl rfl)) (pgs_cons (pg_name (i := 5) sc_l_source.nd rfl (Or.inl rfl)) pgs_nil)))
    (pss_cons (ps_set (i := 9) sc_l_source.nd rfl (Or.inl rfl) (pe_lst (pa_cons (pe_ix (ix_K (K := K) rfl) (pv 6) (pv 8) (fun _ _ => rfl)) (pa_cons (pe_ix (ix_K (K := K) rfl) (pv 6) (pv 8) (fun _ _ => rfl)) (pa_cons (pe_op op_sub pe_int (pe_ix (ix_K (K := K) rfl) (pv 6) (pv 8) (fun _ _ => rfl))) (pa_cons (pe_ix (ix_K (K := K) rfl) (pv 6) (pe_fK (K := K) (P := P) (w := w) (mg := mg) (base := base) ((ok_l_take T).mono (by omega)) rfl rfl rfl rfl rfl hr (by rfl) (pa_cons (pv 0) (pa_cons (pe_callB (call_lenK (K := K) rfl) (by rfl) (z_len T) (by decide +kernel) (pa_cons (pv 6) pa_nil)) pa_nil))) (fun _ _ => rfl)) (pa_cons (pe_op op_sub (pe_fK (K := K) (P := P) (w := w) (mg := mg) (base := base) ((ok_l_take T).mono (by omega)) rfl rfl rfl rfl rfl hr (by rfl) (pa_cons (pv 0) (pa_cons pe_int pa_nil))) pe_int) (pa_cons pe_int pa_nil))))))))
    (pss_cons (ps_set (i := 10) sc_l_source.nd rfl (Or.inl rfl) (pe_ix (ix_K (K := K) rfl) (pv 9) (pe_fK (K := K) (P := P) (w := w) (mg := mg) (base := base) ((ok_l_take T).mono (by omega)) rfl rfl rfl rfl rfl hr (by rfl) (pa_cons (pv 0) (pa_cons pe_int pa_nil))) (fun _ _ => rfl)))
    (pss_cons (ps_set (i := 11) sc_l_source.nd rfl (Or.inl rfl) (pe_op op_sub (pe_fK (K := K) (P := P) (w := w) (mg := mg) (base := base) ((ok_l_reach T).mono (by omega)) rfl rfl rfl rfl rfl hr (by rfl) (pa_cons (pe_slice (sl_TK (K := K) rfl) (pv 4) po_none (po_some (pe_op op_add (pv 8) pe_int))) (pa_cons (pe_op (op_catK (K := K) rfl) (pv 7) (pe_tup (pa_cons (pv 10) pa_nil))) (pa_cons pe_int pa_nil)))) (pe_fK (K := K) (P := P) (w := w) (mg := mg) (base := base) ((ok_l_reach T).mono (by omega)) rfl rfl rfl rfl rfl hr (by rfl) (pa_cons (pe_slice (sl_TK (K := K) rfl) (pv 4) po_none (po_some (pe_op op_add (pv 8) pe_int))) (pa_cons (pe_op (op_catK (K := K) rfl) (pv 7) (pe_tup (pa_cons (pv 10) pa_nil))) (pa_cons (pe_un un_neg pe_int) pa_nil))))))
    (pss_one (ps_set (i := 7) sc_l_source.nd rfl (Or.inl rfl) (pe_op (op_catK (K := K) rfl) (pv 7) (pe_tup (pa_cons (pe_ix (ix_K (K := K) rfl) (pe_lst (pa_cons (pv 10) (pa_cons pe_int pa_nil))) (pe_callTy call_int1 (by rfl) (z_int T) (by decide +kernel) (pa_cons (pe_cmpR op_ge (pv 11) (pv 1) (nomark _)) pa_nil)) (fun _ _ => rfl)) pa_nil)))))))))
    (pss_cons (ps_par (i := 12) (j := 13) (by rfl) sc_l_source.nd rfl rfl (by decide) rfl rfl (pa_cons (pe_fK (K := K) (P := P) (w := w) (mg := mg) (base := base) ((ok_l_reach T).mono (by omega)) rfl rfl rfl rfl rfl hr (by rfl) (pa_cons (pv 4) (pa_cons (pv 7) (pa_cons (pe_un un_neg pe_int) pa_nil)))) (pa_cons (pe_fK (K := K) (P := P) (w := w) (mg := mg) (base := base) ((ok_l_reach T).mono (by omega)) rfl rfl rfl rfl rfl hr (by rfl) (pa_cons (pv 4) (pa_cons (pv 7) (pa_cons pe_int pa_nil)))) pa_nil)) (by rfl))
    (pss_one (ps_ret (pe_tup (pa_cons (pv 4) (pa_cons (pe_op op_sub (pe_fK (K := K) (P := P) (w := w) (mg := mg) (base := base) ((ok_l_take T).mono (by omega)) rfl rfl rfl rfl rfl hr (by rfl) (pa_cons (pv 0) (pa_cons (pe_op op_add (pe_op op_sub (pv 1) (pv 13)) (pv 12)) pa_nil))) (pv 12)) (pa_cons (pv 7) pa_nil)))))))))))), ?_⟩
    have h5 := hL.len
    obtain ⟨pxs, hpx⟩ := pu.some
    refine ⟨_, rfl, _, rfl, _, rfl, a, _, rfl, .inr (SqT.of ha), _, _, rfl, rfl, ?_⟩
    rw [tn_len]
    refine ⟨p, (L.length : Int) + 1, k, rfl, pu, by omega, ?_, by omega, fun n H1 hn b1 pu1 => ⟨sz_ok (by show 4 ≤ 100000; decide), fun l hl => ?_⟩⟩
    · have : (2 : Nat) ^ 110 = 1298074214633706907132624082305024 := by decide
      omega
    refine q_pickL (m := 4) (xs := [V.int 0, .int 0, .int 0, .int (n : Int)]) rfl pu1 hl rfl (by decide) (by decide) (by omega) fun v H2 hv b2 pu2 => ?_
    obtain ⟨j, rfl, hj⟩ : ∃ j : Nat, v = .int (j : Int) ∧ j ≤ L.length := by
      simp only [List.mem_cons, List.mem_nil_iff, or_false] at hv
      rcases hv with rfl | rfl | rfl | rfl
      · exact ⟨0, rfl, Nat.zero_le _⟩
      · exact ⟨0, rfl, Nat.zero_le _⟩
      · exact ⟨0, rfl, Nat.zero_le _⟩
      · exact ⟨n, rfl, by omega⟩
    have ha2 := purse_but pu1 b2 (purse_but pu b1 ha)
    have b02 := b1.trans b2
    refine ⟨_, rfl, ?_⟩
    dsimp only [tNoPart]
    refine q_slT ha2 fun t0 H3 s3 ht0 => ?_
    rw [cut_from] at ht0
    have et0 : (tn L).drop j = tn (L.drop j) := by unfold tn; rw [List.map_drop]
    rw [et0] at ht0
    have b03 := b02.trans (Same.but p s3)
    have pu3 := pu2.same s3
    have pne : p ≠ t0 := by
      obtain ⟨xs, e⟩ := pu3.some
      exact ne_of e ht0 (by intro z; cases z)
    refine ⟨_, rfl, t0, rfl, ⟨_, SqT.of ht0⟩, fun D hD => ?_⟩
    have nDp : D ≠ p := by
      obtain ⟨xs, e⟩ := pu3.some
      exact (ne_of_none e hD).symm
    have nD0 : t0 ≠ D := ne_of_none ht0 hD
    have wk : Walk (Itt K t0) (L.drop j).length (fun H => SqT K H t0 (tn (L.drop j))) (YAt (tn (L.drop j))) := by
      have w1 := walk_tup (K := K) (a := t0) (xs := tn (L.drop j))
      rw [tn_len] at w1
      exact w1
    refine lc_it wk (fun i H4 => (∀ b o, b ≠ D → b ≠ p → H3 b = some o → H4 b = some o) ∧ Purse H4 p (k + 2 + i) ∧ ∃ ms : List Nat, ms.length = i ∧ (∀ (e x l : Nat), ms[e]? = some x → (L.drop j)[e]? = some l → x = l ∨ x = 1) ∧ H4 D = some (.lst (tn ms))) ⟨fun b o n1 _ e => by rw [upd_ne n1]; exact e, (pu3.mono (by omega)).keep fun o e => by rw [upd_ne nDp.symm]; exact e, [], rfl, fun e x l h => by simp at h, upd_same⟩ (fun i H _ h => SqT.of (h.1 _ _ nD0 pne.symm ht0)) ?_ ?_
    · rintro i x H4 H5 hi ⟨k4, pu4, ms, hms, hmf, hD4⟩ ⟨rfl, hx⟩
      obtain ⟨l, hl, rfl⟩ := tn_at hx
      have hi5 : i < 5 := by rw [List.length_drop] at hi; omega
      refine ⟨rfl, ?_⟩
      unfold tYes
      show (if true = true then _ else _)
      refine iteT ?_
      refine q_pick2 (m := 7) (a := .int (l : Int)) (c := .int 1) rfl pu4 (by decide) (by decide) (by omega) (fun Qa h => ⟨_, rfl, h⟩) fun v H6 hv b6 pu6 => ?_
      obtain ⟨x, rfl, hx2⟩ : ∃ x : Nat, v = .int (x : Int) ∧ (x = l ∨ x = 1) := by
        rcases hv with rfl | rfl
        · exact ⟨l, rfl, .inl rfl⟩
        · exact ⟨1, rfl, .inr rfl⟩
      have hD6 := b6 _ _ nDp hD4
      refine ⟨_, hD6, sz_lt (by rw [tn_len]; omega), fun b o n1 n2 e => ?_, (pu6.mono (by omega)).keep fun o e => by rw [upd_ne nDp.symm]; exact e, ms ++ [x], by rw [List.length_append, hms]; rfl, fun e y l' h1 h2 => ?_, ?_⟩
      · rw [upd_ne n1]; exact b6 _ _ n2 (k4 b o n1 n2 e)
      · by_cases he : e < ms.length
        · rw [List.getElem?_append_left he] at h1
          exact hmf e y l' h1 h2
        · rw [List.getElem?_append_right (by omega)] at h1
          have ee : e - ms.length = 0 := by
            cases q : e - ms.length with
            | zero => rfl
            | succ m => rw [q] at h1; simp at h1
          rw [ee] at h1
          have e1 : x = y := by simpa using h1
          have e2 : e = i := by omega
          rw [e2, hl] at h2
          cases h2
          rw [← e1]
          exact hx2
      · rw [upd_same]; unfold tn; rw [List.map_append]; rfl
    rintro H4 ⟨k4, pu4, ls, hls, hlf, hD4⟩
    have hfit : Fit ls L := fit_of hls.symm hj hlf
    have hlen : ls.length + j = L.length := by rw [List.length_drop] at hls; omega
    have hLls : Len ls := by
      refine ⟨by omega, fun l hl => ?_, ?_⟩
      · obtain ⟨e, he⟩ := List.getElem?_of_mem hl
        have he2 := (List.getElem?_eq_some_iff.mp he).1
        have he3 : e < (L.drop j).length := by omega
        rcases hlf e l _ he (List.getElem?_eq_getElem he3) with z | z
        · rw [z]
          exact hL.each _ (List.mem_of_mem_drop (List.getElem_mem he3))
        · omega
      · exact Nat.le_trans (szM_fit hls.symm hlf) (Nat.le_trans (szM_drop j L) hL.sz)
    refine ⟨D, _, rfl, .inl ⟨SqL.of hD4, fun ta hta => ?_⟩⟩
    have s5 : Same H4 (upd H4 ta (.tup (tn ls))) := Same.new hta
    have hta5 : (upd H4 ta (.tup (tn ls))) ta = some (.tup (tn ls)) := upd_same
    generalize upd H4 ta (.tup (tn ls)) = H5 at s5 hta5
    have k05 : But p H H5 := fun b o n e => s5 _ _ (k4 b o (ne_of_none (b03 b o n e) hD) n (b03 b o n e))
    have pu5 : Purse H5 p (k + 7) := (pu4.same s5).mono (by omega)
    have tup5 : ∀ b xs, H b = some (.tup xs) → H5 b = some (.tup xs) := fun b xs e => k05 b _ (ne_of e hpx (by intro z; cases z)) e
    have hc5 := tup5 _ _ hc
    have ha5 := tup5 _ _ ha
    refine ⟨_, rfl, _, rfl, a, _, rfl, .inr (SqT.of ha5), _, rfl, ta, _, rfl, .inr (SqT.of hta5), _, _, rfl, rfl, _, rfl, ?_⟩
    dsimp only [tNoPart]
    rw [tn_len, tn_len]
    have ej : (L.length : Int) - (ls.length : Int) = (j : Int) := by omega
    rw [ej]
    refine q_slT hc5 fun t1 H6 s6 ht1 => ?_
    rw [cut_from] at ht1
    have et1 : (ti f).drop j = ti (f.drop j) := by unfold ti; rw [List.map_drop]
    rw [et1] at ht1
    refine ⟨sz_ok (Nat.zero_le _), fun tf0 htf0 => ?_⟩
    have s7 : Same H6 (upd H6 tf0 (.tup [])) := Same.new htf0
    have htf7 : (upd H6 tf0 (.tup [])) tf0 = some (.tup (ti [])) := upd_same
    generalize upd H6 tf0 (.tup []) = H7 at s7 htf7
    have b07 := k05.trans (Same.but p (s6.trans s7))
    have pu7 := pu5.same (s6.trans s7)
    have hta7 := (s6.trans s7) _ _ hta5
    have ht17 := s7 _ _ ht1
    have hown : (f.drop j).length = ls.length := by rw [List.length_drop]; omega
    have hfd : ∀ x ∈ f.drop j, -168 ≤ x ∧ x ≤ 168 := fun x hx => hf x (List.mem_of_mem_drop hx)
    generalize f.drop j = own at ht1 ht17 hown hfd
    have each6 : ∀ l ∈ ls, l ≤ 600 := fun l hl => by have := hLls.each l hl; omega
    have m110 : ∀ z : Int, 0 < z → z ≤ 100000 → z.natAbs < 2 ^ 110 := fun z h1 h2 => by
      have : (2 : Nat) ^ 110 = 1298074214633706907132624082305024 := by decide
      omega
    have tup : ∀ {H8 H9 : Hp} {k' : Nat}, Purse H8 p k' → But p H8 H9 → ∀ b xs, H8 b = some (.tup xs) → H9 b = some (.tup xs) := fun pu b y xs e => purse_but pu b e
    refine ⟨_, rfl, ta, _, rfl, SqT.of hta7, for_it (walk_enumT (xs := tn ls)) (fun i σ H8 => But p H7 H8 ∧ Purse H8 p (k + 7 + 3 * i) ∧ ∃ (tf : Addr) (ss : List Int) (u5 u8 u9 u10 u11 : Option V), H8 tf = some (.tup (ti ss)) ∧ ss.length = i ∧ (∀ x ∈ ss, -600 ≤ x ∧ x ≤ 600) ∧ spn (ls.take i) ss < many ∧ σ = [some (.ref p), some (.int (many : Int)), some (.ref a), some (.ref c), some (.ref ta), u5, some (.ref t1), some (.ref tf), u8, u9, u10, u11, none, none])
      ⟨fun _ _ _ e => e, pu7, tf0, [], none, none, none, none, none, htf7, rfl, by simp, by simp [spn, rch]; omega, rfl⟩ (fun i σ H8 _ h => SqT.of (tup pu7 h.1 _ _ hta7)) ?_ ?_⟩
    · rintro i x σ H8 H9 hi ⟨b8, pu8, tf, ss, u5, u8, u9, u10, u11, htf8, hss, hsb, hsp, rfl⟩ ⟨T1, x1, y1, rfl, hT, rfl, e1, e2⟩
      cases e1
      obtain ⟨l, hl, rfl⟩ := tn_at e2
      rw [tn_len] at hi
      have s9 : Same H8 (upd H8 T1 (.tup [.int (i : Int), .int (l : Int)])) := Same.new hT
      have hT9 : (upd H8 T1 (.tup [.int (i : Int), .int (l : Int)])) T1 = some (.tup [.int (i : Int), .int (l : Int)]) := upd_same
      refine ⟨T1, _, rfl, SqT.of hT9, rfl, _, _, rfl, _, _, rfl, rfl, ?_⟩
      have b9 := b8.trans (Same.but p s9)
      have pu9 := pu8.same s9
      have htf9 := s9 _ _ htf8
      generalize upd H8 T1 (.tup [.int (i : Int), .int (l : Int)]) = H9 at s9 b9 pu9 htf9
      have ht19 := tup pu7 b9 _ _ ht17
      obtain ⟨o, ho⟩ : ∃ o, own[i]? = some o := ⟨own[i]'(by omega), by simp [show i < own.length by omega]⟩
      have ho2 := hfd o (List.mem_of_getElem? ho)
      refine ⟨_, rfl, _, rfl, q_ixT (i := i) ht19 (ti_get ho) ⟨_, rfl, _, rfl, q_ixT (i := i) ht19 (ti_get ho) ⟨_, rfl, _, rfl, q_ixT (i := i) ht19 (ti_get ho) ⟨_, _, rfl, rfl, ?_⟩⟩⟩⟩
      refine ⟨_, rfl, _, rfl, _, rfl, t1, _, rfl, .inr (SqT.of ht19), ?_⟩
      rw [ti_len]
      refine ⟨p, (own.length : Int), _, rfl, pu9, by omega, m110 _ (by omega) (by omega), by omega, fun n H10 hn b10 pu10 => ?_⟩
      obtain ⟨o2, ho2'⟩ : ∃ o, own[n]? = some o := ⟨own[n]'(by omega), by simp [show n < own.length by omega]⟩
      have ho3 := hfd o2 (List.mem_of_getElem? ho2')
      have ht110 := tup pu9 b10 _ _ ht19
      refine q_ixT (i := n) ht110 (ti_get ho2') ?_
      refine q_take (m := 9) rfl pu10 (by decide) (by decide) (by omega) fun n9 H11 hn9 b11 pu11 => ?_
      refine ⟨_, _, rfl, rfl, sz_ok (by show 6 ≤ 100000; decide), fun sl hsl => ?_⟩
      have s12 : Same H11 (upd H11 sl (.lst [.int o, .int o, .int (0 - o), .int o2, .int ((n9 : Int) - 4), .int 0])) := Same.new hsl
      have hsl12 : (upd H11 sl (.lst [.int o, .int o, .int (0 - o), .int o2, .int ((n9 : Int) - 4), .int 0])) sl = some (.lst [.int o, .int o, .int (0 - o), .int o2, .int ((n9 : Int) - 4), .int 0]) := upd_same
      have e12 : upd H11 sl (.lst [.int o, .int o, .int (0 - o), .int o2, .int ((n9 : Int) - 4), .int 0]) = upd H11 sl (.lst [.int o, .int o, .int (0 - o), .int o2, .int ((n9 : Int) - 4), .int 0]) := rfl
      rw [e12]
      have nslp : sl ≠ p := by
        obtain ⟨xs, e⟩ := pu11.some
        exact (ne_of_none e hsl).symm
      have b12 := ((b9.trans b10).trans b11).trans (Same.but p s12)
      have pu12 := pu11.same s12
      generalize upd H11 sl (.lst [.int o, .int o, .int (0 - o), .int o2, .int ((n9 : Int) - 4), .int 0]) = H12 at s12 hsl12 b12 pu12
      refine ⟨_, rfl, ?_⟩
      refine q_take (m := 6) rfl pu12 (by decide) (by decide) (by omega) fun n6 H13 hn6 b13 pu13 => ?_
      have hsl13 := b13 _ _ nslp hsl12
      obtain ⟨v, hv⟩ : ∃ v, [V.int o, .int o, .int (0 - o), .int o2, .int ((n9 : Int) - 4), .int 0][n6]? = some v := ⟨_, List.getElem?_eq_getElem (by exact hn6)⟩
      obtain ⟨st, rfl, hst⟩ : ∃ st : Int, v = .int st ∧ (-600 ≤ st ∧ st ≤ 600) := by
        have hvm := List.mem_of_getElem? hv
        simp only [List.mem_cons, List.mem_nil_iff, or_false] at hvm
        rcases hvm with rfl | rfl | rfl | rfl | rfl | rfl <;> exact ⟨_, rfl, by omega, by omega⟩
      refine q_ixL (i := n6) (SqL.of hsl13) hv ?_
      have b713 := b12.trans b13
      have hta13 := tup pu7 b713 _ _ hta7
      have htf13 := tup pu9 ((b10.trans b11).trans ((Same.but p s12).trans b13)) _ _ htf9
      have elt : (tn ls).take (i + 1) = tn (ls.take (i + 1)) := by unfold tn; rw [List.map_take]
      have eac : (ti ss ++ [V.int st]) = ti (ss ++ [st]) := by unfold ti; rw [List.map_append]; rfl
      have ei1 : ((i : Int) + 1) = ((i + 1 : Nat) : Int) := by omega
      have hl2 : (ss ++ [st]).length = (ls.take (i + 1)).length := by rw [List.length_append, List.length_take, hss]; show i + 1 = _; omega
      have he2 : ∀ l ∈ ls.take (i + 1), l ≤ 600 := fun l h => each6 l (List.mem_of_mem_take h)
      refine ⟨_, rfl, _, rfl, _, _, rfl, rfl, _, rfl, ?_⟩
      rw [ei1]
      refine q_slT hta13 fun q1 H14 s14 hq1 => ?_
      rw [cut_to, elt] at hq1
      refine ⟨_, rfl, _, rfl, sz_ok (by show 1 ≤ 100000; decide), fun q2 hq2 => ?_⟩
      have s15 : Same H14 (upd H14 q2 (.tup [.int st])) := Same.new hq2
      refine q_cat (s15 _ _ (s14 _ _ htf13)) upd_same (by rw [ti_len]; show _ + 1 ≤ 100000; omega) fun q3 H16 s16 hq3 => ?_
      rw [eac] at hq3
      refine ⟨q1, q3, 1, ls.take (i + 1), ss ++ [st], rfl, s16 _ _ (s15 _ _ hq1), hq3, hl2, he2, by decide, by decide, fun H17 s17 => ?_⟩
      have s1317 := ((s14.trans s15).trans s16).trans s17
      refine ⟨_, rfl, _, rfl, _, _, rfl, rfl, _, rfl, ?_⟩
      rw [ei1]
      refine q_slT (s1317 _ _ hta13) fun r1 H18 s18 hr1 => ?_
      rw [cut_to, elt] at hr1
      refine ⟨_, rfl, _, rfl, sz_ok (by show 1 ≤ 100000; decide), fun r2 hr2 => ?_⟩
      have s19 : Same H18 (upd H18 r2 (.tup [.int st])) := Same.new hr2
      refine q_cat (s19 _ _ (s18 _ _ (s1317 _ _ htf13))) upd_same (by rw [ti_len]; show _ + 1 ≤ 100000; omega) fun r3 H20 s20 hr3 => ?_
      rw [eac] at hr3
      refine ⟨_, rfl, r1, r3, -1, ls.take (i + 1), ss ++ [st], rfl, s20 _ _ (s19 _ _ hr1), hr3, hl2, he2, by decide, by decide, fun H21 s21 => ?_⟩
      have s1321 := s1317.trans (((s18.trans s19).trans s20).trans s21)
      refine ⟨_, _, rfl, rfl, ?_⟩
      obtain ⟨fr, hfr⟩ : ∃ fr : Int, fr = spn (ls.take (i + 1)) (ss ++ [st]) := ⟨_, rfl⟩
      have efr : rch 1 (ls.take (i + 1)) (ss ++ [st]) - rch (-1) (ls.take (i + 1)) (ss ++ [st]) = fr := hfr.symm
      show gName 11 (V.int (rch 1 (ls.take (i + 1)) (ss ++ [st]) - rch (-1) (ls.take (i + 1)) (ss ++ [st]))) _ H21 _
      rw [efr]
      have pu21 := pu13.same s1321
      have b721 := b713.trans (Same.but p s1321)
      have htf21 := s1321 _ _ htf13
      refine ⟨_, rfl, _, rfl, sz_ok (by show 2 ≤ 100000; decide), fun z hz => ?_⟩
      have s22 : Same H21 (upd H21 z (.lst [.int st, .int 0])) := Same.new hz
      have hz22 : (upd H21 z (.lst [.int st, .int 0])) z = some (.lst [.int st, .int 0]) := upd_same
      have e22 : upd H21 z (.lst [.int st, .int 0]) = upd H21 z (.lst [.int st, .int 0]) := rfl
      generalize upd H21 z (.lst [.int st, .int 0]) = H22 at s22 hz22
      have fin : ∀ x : Int, (x = st ∧ fr < many ∨ x = 0) → ∀ H23 t23, Same H22 H23 → H23 t23 = some (.tup [.int x]) → rCatA K (.ref tf) (.ref t23) H23 fun y H24 => (But p H7 H24 ∧ Purse H24 p (k + 7 + 3 * (i + 1)) ∧ ∃ (tf : Addr) (ss : List Int) (u5 u8 u9 u10 u11 : Option V), H24 tf = some (.tup (ti ss)) ∧ ss.length = i + 1 ∧ (∀ x ∈ ss, -600 ≤ x ∧ x ≤ 600) ∧ spn (ls.take (i + 1)) ss < many ∧ ([some (.ref p), some (.int (many : Int)), some (.ref a), some (.ref c), some (.ref ta), some (.int (l : Int)), some (.ref t1), some y, some (.int (i : Int)), some (.ref sl), some (.int st), some (.int fr), none, none] : L2.St) = [some (.ref p), some (.int (many : Int)), some (.ref a), some (.ref c), some (.ref ta), u5, some (.ref t1), some (.ref tf), u8, u9, u10, u11, none, none]) := by
        intro x hx H23 t23 s23 ht23
        refine q_cat (s23 _ _ (s22 _ _ htf21)) ht23 (by rw [ti_len]; show _ + 1 ≤ 100000; omega) fun t24 H24 s24 ht24 => ?_
        have ex : (ti ss ++ [V.int x]) = ti (ss ++ [x]) := by unfold ti; rw [List.map_append]; rfl
        rw [ex] at ht24
        have s2124 := (s22.trans s23).trans s24
        refine ⟨b721.trans (Same.but p s2124), (pu21.same s2124).mono (by omega), t24, ss ++ [x], _, _, _, _, _, ht24, by rw [List.length_append, hss]; rfl, fun y hy => ?_, ?_, rfl⟩
        · rcases List.mem_append.mp hy with h | h
          · exact hsb y h
          · rw [List.mem_singleton.mp h]; rcases hx with ⟨z, _⟩ | z <;> omega
        · rcases hx with ⟨z, h⟩ | z
          · rw [z, ← hfr]; exact h
          · rw [z]
            have e3 : ls.take (i + 1) = ls.take i ++ [l] := take_one hl
            unfold spn
            rw [e3, rch_snoc _ _ _ _ _ (by rw [List.length_take]; omega), rch_snoc _ _ _ _ _ (by rw [List.length_take]; omega), far1_zero, far1_zero]
            unfold spn at hsp
            omega
      refine ⟨_, rfl, _, rfl, _, _, rfl, rfl, .inr ⟨_, rfl, ?_⟩⟩
      by_cases hge : fr ≥ (many : Int)
      · rw [decide_eq_true hge]
        refine q_ixL (i := 1) (SqL.of hz22) rfl ⟨sz_ok (by show 1 ≤ 100000; decide), fun t23 ht23 => ?_⟩
        exact fin 0 (.inr rfl) _ t23 (Same.new ht23) upd_same
      · rw [decide_eq_false hge]
        refine q_ixL (i := 0) (SqL.of hz22) rfl ⟨sz_ok (by show 1 ≤ 100000; decide), fun t23 ht23 => ?_⟩
        exact fin st (.inl ⟨rfl, by omega⟩) _ t23 (Same.new ht23) upd_same
    · rintro σ H8 ⟨b8, pu8, tf, ss, u5, u8, u9, u10, u11, htf8, hss, hsb, hsp, rfl⟩
      rw [tn_len] at hss pu8 hsp
      rw [List.take_of_length_le (Nat.le_refl _)] at hsp
      have hta8 := tup pu7 b8 _ _ hta7
      refine ⟨_, rfl, _, rfl, _, rfl, ta, tf, -1, ls, ss, rfl, hta8, htf8, hss, each6, by decide, by decide, fun H9 s9 => ?_⟩
      refine ⟨_, rfl, _, rfl, ta, tf, 1, ls, ss, rfl, s9 _ _ hta8, s9 _ _ htf8, hss, each6, by decide, by decide, fun H10 s10 => ⟨_, _, rfl, ?_⟩⟩
      have s810 := s9.trans s10
      have sg := rch_sign ls ss
      unfold spn at hsp
      refine ⟨_, rfl, _, rfl, _, rfl, _, rfl, _, _, rfl, rfl, _, rfl, _, _, rfl, rfl, p, (many : Int) - rch 1 ls ss + rch (-1) ls ss, _, rfl, pu8.same s810, by omega, m110 _ (by omega) (by omega), by omega, fun n H11 hn b11 pu11 => ?_⟩
      have hta11 := tup (pu8.same s810) b11 _ _ (s810 _ _ hta8)
      have htf11 := tup (pu8.same s810) b11 _ _ (s810 _ _ htf8)
      refine ⟨_, rfl, _, _, rfl, rfl, _, rfl, sz_ok (by show 3 ≤ 100000; decide), fun r hr => ?_⟩
      have s12 : Same H11 (upd H11 r (.tup [.ref ta, .int ((n : Int) - rch (-1) ls ss), .ref tf])) := Same.new hr
      refine q r ta tf ls ((n : Int) - rch (-1) ls ss) ss _ (((b07.trans b8).trans (Same.but p s810)).trans (b11.trans (Same.but p s12))) ((pu11.same s12).mono (by omega)) upd_same (s12 _ _ hta11) (s12 _ _ htf11) hfit hLls hss hsb ?_
      exact within_rch hss (by omega) (by omega)
end
end VG
-- VgLaw8
set_option Elab.async false
set_option linter.all false
set_option maxRecDepth 100000
set_option maxHeartbeats 4000000
namespace VG
open PySem PySem.Spec PyProof.Rows L2
/-- what stands where: target, source, their sides and cells -/
structure LD where
  t : Addr
  s : Addr
  la : Addr
  ca : Addr
  lsa : Addr
  cs : Addr
  L : List Nat
  ls : List Nat
  b : Int
  sb : Int
  st : List Int
  ss : List Int
abbrev LD.C (D : LD) : List Int := cells D.L D.b D.st
abbrev LD.Cs (D : LD) : List Int := cells D.ls D.sb D.ss
/-- what is the same all along, the room of n cells -/
structure LF (D : LD) (n : Nat) : Prop where
  hL : Len D.L
  hl : Len D.ls
  fit : Fit D.ls D.L
  st : D.st.length = D.L.length
  ss : D.ss.length = D.ls.length
  inj : Inj D.C
  w : Within D.C n
  ws : Within D.Cs n
  n2 : n ≤ 20000
section
variable {P : Program} {w : World} {K : PySem.W.Frag} {mg : Str → Option Value} {base : Heap}
structure OverP (K : PySem.W.Frag) (H0 H : Hp) (D : LD) (d : RD) (m0 m1 : Addr) : Prop where
  own : Own K H0 H d
  f : LF D d.ns.length
  vt : VwD K H D.t d.a D.L D.b D.st
  vs : VwD K H D.s d.a D.ls D.sb D.ss
  la : H D.la = some (.tup (tn D.L))
  lsa : H D.lsa = some (.tup (tn D.ls))
  ca : H D.ca = some (.lst (ti D.C))
  cs : H D.cs = some (.lst (ti D.Cs))
  m0 : H m0 = some (.tup [.ref d.a, .ref D.t, .ref D.la, .ref D.ca])
  m1 : H m1 = some (.tup [.ref d.a, .ref D.s, .ref D.lsa, .ref D.cs])
  ca0 : H0 D.ca = none
  cs0 : H0 D.cs = none
  caf : ¬ d.ft D.ca
  csf : ¬ d.ft D.cs
def spLOver (K : PySem.W.Frag) : Sp := fun vs H Q _ => ∃ (p : Addr) (k : Nat), vs = [.ref p, .int 24, .bl false] ∧ Purse H p k ∧ k + 500 < 100000 ∧
  ∀ (r m0 m1 : Addr) (D : LD) (d : RD) H', But p H H' → Purse H' p (k + 500) → H' r = some (.lst [.ref m0, .ref m1]) → OverP K H H' D d m0 m1 → Q (.ref r) H'
theorem ok_l_over (T : Tx K mg) : Def P w K mg base 8 "_law_over" ["_law_purse_here", "_law_most", "_law_apart"] [] (spLOver K) := by
  refine Def.mk0 (f_l_over T) (g_l_over T) sc_l_over (fun _ _ _ _ _ _ us hl => match us, hl with | [_, _, _], _ => rfl) (fun vs H Q E h => ?_) (fun cdv A outer s H vs Q E hr h => ?_)
  · obtain ⟨p, k, rfl, _⟩ := h; rfl
  · obtain ⟨p, k, rfl, pu, hk, q⟩ := h
    refine ⟨_, (pss_cons (ps_set (i := 3) sc_l_over.nd rfl (Or.inl rfl) (pe_fK (K := K) (P := P) (w := w) (mg := mg) (base := base) ((ok_l_lengths T).mono (by omega)) rfl rfl rfl rfl rfl hr (by rfl) (pa_cons (pv 0) (pa_cons (pv 1) pa_nil))))
    (pss_cons (ps_set (i := 4) sc_l_over.nd rfl (Or.inl rfl) (pe_fK (K := K) (P := P) (w := w) (mg := mg) (base := base) ((ok_l_unlike_steps T).mono (by omega)) rfl rfl rfl rfl rfl hr (by rfl) (pa_cons (pv 0) (pa_cons (pv 3) pa_nil))))
    (pss_cons (ps_par (i := 5) (j := 6) (by rfl) sc_l_over.nd rfl rfl (by decide) rfl rfl (pa_cons (pe_fK (K := K) (P := P) (w := w) (mg := mg) (base := base) ((ok_l_reach T).mono (by omega)) rfl rfl rfl rfl rfl hr (by rfl) (pa_cons (pv 3) (pa_cons (pv 4) (pa_cons (pe_un un_neg pe_int) pa_nil)))) (pa_cons (pe_fK (K := K) (P := P) (w := w) (mg := mg) (base := base) ((ok_l_reach T).mono (by omega)) rfl rfl rfl rfl rfl hr (by rfl) (pa_cons (pv 3) (pa_cons (pv 4) (pa_cons pe_int pa_nil)))) pa_nil)) (by rfl))
    (pss_cons (ps_set (i := 7) sc_l_over.nd rfl (Or.inl rfl) (pe_fK (K := K) (P := P) (w := w) (mg := mg) (base := base) ((ok_l_take T).mono (by omega)) rfl rfl rfl rfl rfl hr (by rfl) (pa_cons (pv 0) (pa_cons pe_int pa_nil))))
    (pss_cons (ps_set (i := 8) sc_l_over.nd rfl (Or.inl rfl) (pe_op op_add (pe_op op_add (pe_op op_add (pe_op op_sub (pv 6) (pv 5)) pe_int) (pv 7)) (pe_fK (K := K) (P := P) (w := w) (mg := mg) (base := base) ((ok_l_take T).mono (by omega)) rfl rfl rfl rfl rfl hr (by rfl) (pa_cons (pv 0) (pa_cons pe_int pa_nil)))))
    (pss_cons (ps_set (i := 9) sc_l_over.nd rfl (Or.inl rfl) (pe_fK (K := K) (P := P) (w := w) (mg := mg) (base := base) ((ok_l_room T).mono (by omega)) rfl rfl rfl rfl rfl hr (by rfl) (pa_cons (pv 0) (pa_cons (pv 8) pa_nil))))
    (pss_cons (ps_set (i := 10) sc_l_over.nd rfl (Or.inl rfl) (pe_mkKW (K := K) (P := P) (w := w) (mg := mg) (base := base) ((okw_View_init T).mono (by omega)) rfl rfl rfl rfl rfl hr (by rfl) (pa_cons (pv 9) (pa_cons (pv 3) pa_nil)) (pk_cons (pe_op op_sub (pv 7) (pv 5)) (pk_cons (pv 4) pk_nil))))
    (pss_cons (ps_set (i := 11) sc_l_over.nd rfl (Or.inl rfl) (pv 9))
    (pss_cons (ps_if (PW.pt (pw_and (pt_truthK (K := K) rfl (pv 2) (by intro _; rfl)) (pw_and1 (pt_cmpR op_eq (pe_fK (K := K) (P := P) (w := w) (mg := mg) (base := base) ((ok_l_take T).mono (by omega)) rfl rfl rfl rfl rfl hr (by rfl) (pa_cons (pv 0) (pa_cons pe_int pa_nil))) pe_int (nomark _))))) pss_never pss_nil)
    (pss_cons (ps_asg (pe_fK (K := K) (P := P) (w := w) (mg := mg) (base := base) ((ok_l_source T).mono (by omega)) rfl rfl rfl rfl rfl hr (by rfl) (pa_cons (pv 0) (pa_cons (pv 8) (pa_cons (pv 3) (pa_cons (pv 4) pa_nil))))) (pg_tupK (K := K) (n := 3) rfl rfl (pgs_cons (pg_name (i := 12) sc_l_over.nd rfl (Or.inl rfl)) (pgs_cons (pg_name (i := 13) sc_l_over.nd rfl (Or.inl rfl)) (pgs_cons (pg_name (i := 14) sc_l_over.nd rfl (Or.inl rfl)) pgs_nil)))))
    (pss_cons (ps_set (i := 15) sc_l_over.nd rfl (Or.inl rfl) (pe_mkKW (K := K) (P := P) (w := w) (mg := mg) (base := base) ((okw_View_init T).mono (by omega)) rfl rfl rfl rfl rfl hr (by rfl) (pa_cons (pv 11) (pa_cons (pv 12) pa_nil)) (pk_cons (pv 13) (pk_cons (pv 14) pk_nil))))
    (pss_cons (ps_set (i := 16) sc_l_over.nd rfl (Or.inl rfl) (pe_tup (pa_cons (pv 9) (pa_cons (pv 10) (pa_cons (pv 3) (pa_cons (pe_fK (K := K) (P := P) (w := w) (mg := mg) (base := base) ((ok_l_cells T).mono (by omega)) rfl rfl rfl rfl rfl hr (by rfl) (pa_cons (pv 3) (pa_cons (pe_op op_sub (pv 7) (pv 5)) (pa_cons (pv 4) pa_nil)))) pa_nil))))))
    (pss_one (ps_ret (pe_lst (pa_cons (pv 16) (pa_cons (pe_tup (pa_cons (pv 11) (pa_cons (pv 15) (pa_cons (pv 12) (pa_cons (pe_fK (K := K) (P := P) (w := w) (mg := mg) (base := base) ((ok_l_cells T).mono (by omega)) rfl rfl rfl rfl rfl hr (by rfl) (pa_cons (pv 12) (pa_cons (pv 13) (pa_cons (pv 14) pa_nil)))) pa_nil))))) pa_nil))))))))))))))))), ?_⟩
    have m110 : ∀ z : Int, 0 < z → z ≤ 100000 → z.natAbs < 2 ^ 110 := fun z h1 h2 => by
      have : (2 : Nat) ^ 110 = 1298074214633706907132624082305024 := by decide
      omega
    refine ⟨_, rfl, _, rfl, p, k, rfl, pu, by omega, fun la L H1 b1 pu1 hla hL => ?_⟩
    have h5 := hL.len
    have each6 : ∀ l ∈ L, l ≤ 600 := fun l hl => by have := hL.each l hl; omega
    refine ⟨_, rfl, _, rfl, p, la, _, L, rfl, pu1, hla, hL, by omega, fun sa f sz H2 b2 pu2 hsa un hsz => ?_⟩
    have hla2 := purse_but pu1 b2 hla
    have hfl := un.len
    have b02 := b1.trans b2
    refine ⟨_, rfl, _, rfl, _, rfl, la, sa, -1, L, f, rfl, hla2, hsa, hfl, each6, by decide, by decide, fun H3 s3 => ?_⟩
    refine ⟨_, rfl, _, rfl, la, sa, 1, L, f, rfl, s3 _ _ hla2, s3 _ _ hsa, hfl, each6, by decide, by decide, fun H4 s4 => ⟨_, _, rfl, ?_⟩⟩
    have s24 := s3.trans s4
    have pu4 := pu2.same s24
    have hla4 := s24 _ _ hla2
    have hsa4 := s24 _ _ hsa
    have sg := rch_sign L f
    have sp := un.span
    unfold spn at sp
    refine q_take (m := 4) rfl pu4 (by decide) (by decide) (by omega) fun ah H5 hah b5 pu5 => ?_
    have hla5 := purse_but pu4 b5 hla4
    have hsa5 := purse_but pu4 b5 hsa4
    refine ⟨_, rfl, _, rfl, _, _, rfl, rfl, _, _, rfl, rfl, _, rfl, _, _, rfl, rfl, ?_⟩
    refine q_take (m := 4) rfl pu5 (by decide) (by decide) (by omega) fun ex H6 hex b6 pu6 => ?_
    have hla6 := purse_but pu5 b6 hla5
    have hsa6 := purse_but pu5 b6 hsa5
    have b06 := ((b02.trans (Same.but p s24)).trans b5).trans b6
    refine ⟨_, _, rfl, rfl, ?_⟩
    generalize hlow : rch (-1) L f = low at sg sp
    generalize hhigh : rch 1 L f = high at sg sp
    have hs168 := un.step_le h5 hL.sz
    obtain ⟨many, hmany⟩ : ∃ many : Nat, high - low + 1 + (ah : Int) + (ex : Int) = (many : Int) := ⟨(high - low + 1 + (ah : Int) + (ex : Int)).toNat, by omega⟩
    show gName 8 (V.int (high - low + 1 + (ah : Int) + (ex : Int))) _ H6 _
    rw [hmany]
    refine ⟨_, rfl, _, rfl, p, _, many, rfl, pu6, by omega, by omega, fun d H7 b7 pu7 ow hdn => ?_⟩
    have hla7 := purse_but pu6 b7 hla6
    have hsa7 := purse_but pu6 b7 hsa6
    refine ⟨_, rfl, _, rfl, _, rfl, _, rfl, _, _, rfl, rfl, _, rfl, rfl, rfl, fun x dx hx hdx hne => ?_⟩
    have s7a : Same H7 (upd (upd H7 dx (.own x)) x (.ins (He.ga K "View") dx [])) := (Same.new hdx).trans (Same.new (by rw [upd_ne (Ne.symm hne)]; exact hx))
    have nx : ∀ y o, H7 y = some o → y ≠ x := fun y o e => ne_of_none e hx
    have hwit : Within (cells L ((ah : Int) - low) f) d.ns.length := within_rch hfl (by rw [hlow]; omega) (by rw [hhigh, hdn]; omega)
    have rr7 : RoomR K H7 d.a d.ns := ⟨_, _, _, _, _, _, _, ow.rm⟩
    refine ⟨x, dx, d.a, la, L, (ah : Int) - low, .ref sa, f, d.ns, rfl, upd_same, rr7.same s7a, by omega, s7a _ _ hla7, hL.okl, .inr ⟨sa, rfl, s7a _ _ hsa7, hfl, fun z hz => by have := un.low z hz; omega⟩, hwit, fun H8 k8 vw8 => ⟨rfl, ?_⟩⟩
    have s78 : Same H7 H8 := fun y o e => k8 y o (nx y o e) (s7a y o e)
    have pu8 := pu7.same s78
    have hla8 := s78 _ _ hla7
    have hsa8 := s78 _ _ hsa7
    refine ⟨_, rfl, _, rfl, _, rfl, iteF (iteF ?_)⟩
    refine ⟨_, rfl, _, rfl, _, rfl, _, rfl, p, la, sa, _, many, L, f, rfl, pu8, hla8, hsa8, hfl, hL, un.low, by omega, by omega, by omega, fun r ta tf ls sb ss H9 b9 pu9 hr hta htf fit hls hssl hsb hw => ?_⟩
    refine ⟨r, _, rfl, SqT.of hr, rfl, _, _, rfl, _, _, rfl, _, _, rfl, rfl, ?_⟩
    have pne6 := pu6.ne
    have fnp : ∀ b, d.ft b → b ≠ p := fun b f z => pne6 (by rw [← z]; exact ow.new b f)
    have rm9 : Rm K H9 d := ow.rm.keep fun b o f e => b9 b o (fnp b f) (s78 _ _ e)
    have vt9 : VwD K H9 x d.a L (nb L ((ah : Int) - low)) (nst L f) := vw8.keep fun y o ho e => b9 y o (fun z => by
      obtain ⟨xs, hp⟩ := pu8.some
      rw [z, hp] at e
      rcases ho with ho | ho | ho
      · rw [ho] at e; cases e
      · rw [ho] at e; cases e
      · obtain ⟨_, _, ⟨_, h1⟩, _⟩ := vw8
        rw [← ho, z, hp] at h1; cases h1) e
    have hla9 := purse_but pu8 b9 hla8
    have hsa9 := purse_but pu8 b9 hsa8
    refine ⟨_, rfl, _, rfl, _, rfl, _, rfl, rfl, rfl, fun x2 dx2 hx2 hdx2 hne2 => ?_⟩
    have s9a : Same H9 (upd (upd H9 dx2 (.own x2)) x2 (.ins (He.ga K "View") dx2 [])) := (Same.new hdx2).trans (Same.new (by rw [upd_ne (Ne.symm hne2)]; exact hx2))
    have nx2 : ∀ y o, H9 y = some o → y ≠ x2 := fun y o e => ne_of_none e hx2
    have rr9 : RoomR K H9 d.a d.ns := ⟨_, _, _, _, _, _, _, rm9⟩
    rw [← hdn] at hw
    refine ⟨x2, dx2, d.a, ta, ls, sb, .ref tf, ss, d.ns, rfl, upd_same, rr9.same s9a, by omega, s9a _ _ hta, hls.okl, .inr ⟨tf, rfl, s9a _ _ htf, hssl, hsb⟩, hw, fun H10 k10 vw10 => ⟨rfl, ?_⟩⟩
    have s910 : Same H9 H10 := fun y o e => k10 y o (nx2 y o e) (s9a y o e)
    have h600 := hL.okl.size
    have h600s := hls.okl.size
    refine ⟨_, rfl, _, rfl, _, rfl, _, rfl, _, rfl, _, rfl, _, _, rfl, rfl, _, rfl, la, sa, (ah : Int) - low, L, f, rfl, s910 _ _ hla9, s910 _ _ hsa9, hfl, h5, each6, by omega, fun ca H11 s11 hca0 hca => ⟨sz_ok (by show 4 ≤ 100000; decide), fun m0 hm0 => ?_⟩⟩
    have s12 : Same H11 (upd H11 m0 (.tup [.ref d.a, .ref x, .ref la, .ref ca])) := Same.new hm0
    have hm012 : (upd H11 m0 (.tup [.ref d.a, .ref x, .ref la, .ref ca])) m0 = some (.tup [.ref d.a, .ref x, .ref la, .ref ca]) := upd_same
    generalize upd H11 m0 (.tup [.ref d.a, .ref x, .ref la, .ref ca]) = H12 at s12 hm012
    have s912 := (s910.trans s11).trans s12
    show gName 16 (V.ref m0) ([some (.ref p), some (.int 24), some (.bl false), some (.ref la), some (.ref sa), some (.int low), some (.int high), some (.int (ah : Int)), some (.int (many : Int)), some (.ref d.a), some (.ref x), some (.ref d.a), some (.ref ta), some (.int sb), some (.ref tf), some (.ref x2), none] : L2.St) H12 _
    refine ⟨_, rfl, _, rfl, _, rfl, _, rfl, _, rfl, _, rfl, _, rfl, ta, tf, sb, ls, ss, rfl, s912 _ _ hta, s912 _ _ htf, hssl, hls.len, hls.okl.each, by omega, fun cs H13 s13 hcs0 hcs => ⟨sz_ok (by show 4 ≤ 100000; decide), fun m1 hm1 => ?_⟩⟩
    have s14 : Same H13 (upd H13 m1 (.tup [.ref d.a, .ref x2, .ref ta, .ref cs])) := Same.new hm1
    have hm114 : (upd H13 m1 (.tup [.ref d.a, .ref x2, .ref ta, .ref cs])) m1 = some (.tup [.ref d.a, .ref x2, .ref ta, .ref cs]) := upd_same
    generalize upd H13 m1 (.tup [.ref d.a, .ref x2, .ref ta, .ref cs]) = H14 at s14 hm114
    refine ⟨sz_ok (by show 2 ≤ 100000; decide), fun rr hrr => ?_⟩
    have s15 : Same H14 (upd H14 rr (.lst [.ref m0, .ref m1])) := Same.new hrr
    have s915 := (s912.trans (s13.trans s14)).trans s15
    have s1015 := ((s11.trans s12).trans (s13.trans s14)).trans s15
    have s1115 := (s12.trans (s13.trans s14)).trans s15
    have b07 := b06.trans b7
    have b09 := (b07.trans (Same.but p s78)).trans b9
    have there9 := b09.there pu9.ne
    have rm15 : Rm K (upd H14 rr (.lst [.ref m0, .ref m1])) d := rm9.keep fun b o _ e => s915 b o e
    have ft9 : ∀ b, d.ft b → H9 b ≠ none := fun b f z => by
      obtain ⟨o, e, _⟩ := foot_at rm9 f
      rw [z] at e; cases e
    refine q rr m0 m1 { t := x, s := x2, la := la, ca := ca, lsa := ta, cs := cs, L := L, ls := ls, b := nb L ((ah : Int) - low), sb := nb ls sb, st := nst L f, ss := nst ls ss } d _ (b09.trans (Same.but p s915)) ((pu9.same s915).mono (by omega)) upd_same ?_
    have ec : cells L (nb L ((ah : Int) - low)) (nst L f) = cells L ((ah : Int) - low) f := cells_norm _ hfl
    have ecs : cells ls (nb ls sb) (nst ls ss) = cells ls sb ss := cells_norm _ hssl
    refine ⟨⟨rm15, ow.s0, ow.h1, ow.ip, ow.ik, ow.pk, fun b f => b06.there pu6.ne b (ow.new b f)⟩, ⟨hL, hls, fit, nst_len hfl, nst_len hssl, ?_, ?_, ?_, by omega⟩, vt9.same s915, vw10.same s1015, s915 _ _ hla9, s915 _ _ hta, ?_, ?_, (s13.trans s14).trans s15 |> fun s => s _ _ hm012, s15 _ _ hm114, ?_, ?_, ?_, ?_⟩
    · show Inj (cells L (nb L ((ah : Int) - low)) (nst L f))
      rw [ec]; exact un.cells
    · show Within (cells L (nb L ((ah : Int) - low)) (nst L f)) _
      rw [ec]; exact hwit
    · show Within (cells ls (nb ls sb) (nst ls ss)) _
      rw [ecs]; exact hw
    · show _ = some (HO.lst (ti (cells L (nb L ((ah : Int) - low)) (nst L f))))
      rw [ec]; exact s1115 _ _ hca
    · show _ = some (HO.lst (ti (cells ls (nb ls sb) (nst ls ss))))
      rw [ecs]; exact ((s14.trans s15)) _ _ hcs
    · exact there9 _ (s910.free hca0)
    · exact there9 _ (s912.free hcs0)
    · exact fun f => ft9 _ f (s910.free hca0)
    · exact fun f => ft9 _ f (s912.free hcs0)
end
end VG
-- VgData
set_option Elab.async false
set_option linter.all false
set_option maxRecDepth 100000
set_option maxHeartbeats 4000000
namespace VG
open PySem PySem.Spec PyProof.Rows L2
def dI (ns : List Int) : PyData := .list (ns.map PyData.int)
def dT (p : List Nat) : PyData := .tuple ((p.map fun n : Nat => (n : Int)).map PyData.int)
section
variable {K : PySem.W.Frag} {H : Hp} {a : Addr}
theorem dp_all : ∀ ns : List Int, DpAll K H (ti ns) (ns.map PyData.int)
  | [] => .nil
  | n :: ns => .cons (.int n) (dp_all ns)
theorem dp_lst {ns : List Int} (h : SqL K H a (ti ns)) : Dp K H (.ref a) (dI ns) := .lst h (dp_all ns)
theorem dp_tup {p : List Nat} (h : SqT K H a (tn p)) : Dp K H (.ref a) (dT p) := .tup h (by rw [tn_ti]; exact dp_all _)
theorem dp_refs : ∀ {as : List Addr} {ps : List (List Nat)}, Tups H as ps → DpAll K H (as.map V.ref) (ps.map dT)
  | _, _, .nil => .nil
  | _, _, .cons h t => .cons (dp_tup (SqT.of h)) (dp_refs t)
theorem dp_rows : ∀ {as : List Addr} {rows : List (List Int)}, RowsZ H as rows → DpAll K H (as.map V.ref) (rows.map dI)
  | [], [], _ => .nil
  | a :: as, r :: rows, h => .cons (dp_lst (SqL.of (h.2 0 a r rfl rfl))) (dp_rows (as := as) (rows := rows) ⟨by simpa using h.1, fun i x y e1 e2 => h.2 (i + 1) x y (by simpa using e1) (by simpa using e2)⟩)
  | [], _ :: _, h => by simpa using h.1
  | _ :: _, [], h => by simpa using h.1
end
theorem cl_ints : ∀ ns : List Int, PyData.canLayAll0 (ns.map PyData.int) = true
  | [] => rfl
  | n :: ns => by
    have ih := cl_ints ns
    simp [PyData.canLayAll0, PyData.canLay0, ih]
theorem dep_ints : ∀ ns : List Int, PyData.depthAll (ns.map PyData.int) = 0
  | [] => rfl
  | n :: ns => by
    have ih := dep_ints ns
    simp [PyData.depthAll, PyData.depth, ih]
theorem cl_I (ns : List Int) : (dI ns).canLay0 = true := by simp [dI, PyData.canLay0, cl_ints]
theorem cl_T (p : List Nat) : (dT p).canLay0 = true := by
  unfold dT
  have := cl_ints (p.map fun n : Nat => (n : Int))
  simp only [PyData.canLay0]
  exact this
theorem dep_I (ns : List Int) : (dI ns).depth = 1 := by simp [dI, PyData.depth, dep_ints]
theorem dep_T (p : List Nat) : (dT p).depth = 1 := by
  unfold dT
  have := dep_ints (p.map fun n : Nat => (n : Int))
  simp only [PyData.depth]
  rw [this]
theorem cl_map {α : Type} {f : α → PyData} (h : ∀ a, (f a).canLay0 = true) : ∀ xs : List α, PyData.canLayAll0 (xs.map f) = true
  | [] => rfl
  | x :: xs => by
    have ih := cl_map h xs
    simp [PyData.canLayAll0, h x, ih]
theorem dep_map {α : Type} {f : α → PyData} (h : ∀ a, (f a).depth = 1) : ∀ xs : List α, PyData.depthAll (xs.map f) ≤ 1
  | [] => Nat.zero_le _
  | x :: xs => by
    have ih := dep_map h xs
    rw [List.map_cons, PyData.depthAll, h x]
    omega
theorem sh_I (ns : List Int) : SeqAt.shaped (dI ns) = true := by simp [SeqAt.shaped, cl_I, dep_I]
theorem sh_T (p : List Nat) : SeqAt.shaped (dT p) = true := by simp [SeqAt.shaped, cl_T, dep_T]
theorem sh_map {α : Type} {f : α → PyData} (h1 : ∀ a, (f a).canLay0 = true) (h2 : ∀ a, (f a).depth = 1) (xs : List α) : SeqAt.shaped (.list (xs.map f)) = true := by
  have a := cl_map h1 xs
  have b := dep_map h2 xs
  simp [SeqAt.shaped, PyData.canLay0, PyData.depth, a]
  omega
theorem eqv_ints : ∀ a b : List Int, PyData.eqvAll (a.map PyData.int) (b.map PyData.int) = decide (a = b) := fun a b => PySem.W.eqvAll_map (α := Int) a b
theorem eqv_I (a b : List Int) : PyData.eqv (dI a) (dI b) = decide (a = b) := by
  unfold dI
  rw [PyData.eqv]
  exact eqv_ints a b
theorem map_nat_inj : ∀ {p q : List Nat}, (p.map fun n : Nat => (n : Int)) = (q.map fun n : Nat => (n : Int)) → p = q
  | [], [], _ => rfl
  | a :: p, b :: q, h => by
    rw [List.map_cons, List.map_cons] at h
    injection h with h1 h2
    rw [map_nat_inj h2, Int.ofNat.inj h1]
  | [], _ :: _, h => by simp at h
  | _ :: _, [], h => by simp at h
theorem eqv_T (p q : List Nat) : PyData.eqv (dT p) (dT q) = decide (p = q) := by
  unfold dT
  rw [PyData.eqv, eqv_ints]
  exact decide_eq_decide.mpr ⟨map_nat_inj, fun e => by rw [e]⟩
theorem eqv_LI : ∀ a b : List (List Int), PyData.eqvAll (a.map dI) (b.map dI) = decide (a = b)
  | [], [] => by simp [PyData.eqvAll]
  | [], _ :: _ => by simp [PyData.eqvAll]
  | _ :: _, [] => by simp [PyData.eqvAll]
  | x :: xs, y :: ys => by
    rw [List.map_cons, List.map_cons, PyData.eqvAll, eqv_I, eqv_LI xs ys, ← Bool.decide_and]
    exact decide_eq_decide.mpr (by rw [List.cons.injEq])
end VG
-- VgLaw9
set_option Elab.async false
set_option linter.all false
set_option maxRecDepth 100000
set_option maxHeartbeats 4000000
namespace VG
open PySem PySem.Spec PyProof.Rows L2
theorem for_itE {J : It} {n : Nat} {G : Hp → Prop} {Y : Nat → Hp → V → Hp → Prop} (w : Walk J n G Y) {g : TG} {tb : TS} {nx : L2.St → Hp → Prop} {rt : VK} {σ : L2.St} {H : Hp} (Pv : Nat → L2.St → Hp → Prop) (h0 : Pv 0 σ H) (hG : ∀ i σ H, i ≤ n → Pv i σ H → G H)
    (hs : ∀ i x σ H H', i < n → Pv i σ H → Y i H x H' → g x σ H' fun σ2 H2 => tb { nx := Pv (i + 1), ct := Pv (i + 1), bk := nx, rt := rt } σ2 H2) (hd : ∀ σ H, Pv n σ H → nx σ H) :
    ∃ W : Nat → Nat → L2.St → Hp → Prop, (∃ m, W 0 m σ H) ∧ ∀ i m σ H, W i m σ H →
      (J.stop i H ∧ nx σ H) ∨ (J.go i H ∧ ∃ N : L2.St → Hp → Prop, (∀ σ' H', N σ' H' → ∃ m', m' < m ∧ W (i + 1) m' σ' H') ∧ ∀ x H', J.yld i H x H' → g x σ H' fun σ2 H2 => tb { nx := N, ct := N, bk := nx, rt := rt } σ2 H2) :=
  for_it (D := { nx := nx, rt := rt }) w Pv h0 hG hs hd
theorem wide_fold : ∀ (q ls : List Nat) (a : Nat), q.length = ls.length → (q.zip ls).foldl (fun a x => a * x.2 + (if x.2 = 1 then 0 else x.1)) a = a * sz ls + idx ls (clip1 ls q)
  | [], [], a, _ => by simp [sz, idx]
  | k :: q, l :: ls, a, h => by
    have ih := wide_fold q ls (a * l + (if l = 1 then 0 else k)) (by simpa using h)
    rw [List.zip_cons_cons, List.foldl_cons]
    dsimp only
    rw [ih]
    simp only [sz, clip1, idx, Nat.add_mul, Nat.mul_assoc, Nat.add_assoc]
  | [], _ :: _, _, h => by simp at h
  | _ :: _, [], _, h => by simp at h
theorem wideN_mem {L ls : List Nat} {C : List Int} (f : Fit ls L) (hC : C.length = sz ls) {c : Int} (h : c ∈ wideN L ls C) : c ∈ C := by
  obtain ⟨p, hp, rfl⟩ := List.mem_map.mp h
  have hi := idx_lt (inb_clip f (mem_places.mp hp))
  rw [List.getD_eq_getElem?_getD, List.getElem?_eq_getElem (by omega)]
  exact List.getElem_mem _
theorem pick_wideN {L ls : List Nat} {C R : List Int} (f : Fit ls L) (hC : C.length = sz ls) : pick R (wideN L ls C) = wideN L ls (pick R C) := by
  unfold pick wideN
  rw [List.map_map]
  refine List.map_congr_left fun p hp => ?_
  have hi := idx_lt (inb_clip f (mem_places.mp hp))
  show at0 R (C.getD _ 0) = (C.map (at0 R)).getD _ 0
  generalize idx ls (clip L ls p) = j at hi
  rw [List.getD_eq_getElem?_getD, List.getD_eq_getElem?_getD, List.getElem?_map, List.getElem?_eq_getElem (by omega)]
  rfl
section
variable {P : Program} {w : World} {K : PySem.W.Frag} {mg : Str → Option Value} {base : Heap}
def spLWide : Sp := fun vs H Q _ => ∃ (a c cl : Addr) (L ls : List Nat) (C : List Int), vs = [.ref a, .ref c, .ref cl] ∧ H a = some (.tup (tn L)) ∧ H c = some (.tup (tn ls)) ∧ H cl = some (.lst (ti C)) ∧ Len L ∧ Len ls ∧ Fit ls L ∧ C.length = sz ls ∧
  ∀ l H', Same H H' → H l = none → H' l = some (.lst (ti (wideN L ls C))) → Q (.ref l) H'
theorem ok_l_wide (T : Tx K mg) : Def P w K mg base 2 "_law_wide" ["_law_lengths_here", "_law_lens", "_law_cells_here"] [] spLWide := by
  refine Def.mk0 (f_l_wide T) (g_l_wide T) sc_l_wide (fun _ _ _ _ _ _ us hl => match us, hl with | [_, _, _], _ => rfl) (fun vs H Q E h => ?_) (fun cdv A outer s H vs Q E hr h => ?_)
  · obtain ⟨a, c, cl, L, ls, C, rfl, _⟩ := h; rfl
  · obtain ⟨a, c, cl, L, ls, C, rfl, ha, hc, hcl, hL, hls, fit, hC, q⟩ := h
    refine ⟨_, (pss_cons (ps_set (i := 3) sc_l_wide.nd rfl (Or.inl rfl) (pe_lst pa_nil))
    (pss_cons (ps_for PassesOwn.never rfl (pi_listK (K := K) rfl (pe_fK (K := K) (P := P) (w := w) (mg := mg) (base := base) ((ok_l_places T).mono (by omega)) rfl rfl rfl rfl rfl hr (by rfl) (pa_cons (pv 0) pa_nil))) (pg_name (i := 4) sc_l_wide.nd rfl (Or.inl rfl))
    (pss_cons (ps_set (i := 5) sc_l_wide.nd rfl (Or.inl rfl) pe_int)
    (pss_cons (ps_for PassesOwn.never rfl (pi_zipK (K := K) rfl (by rfl) (z_zip T) (pa_cons (pe_slice (sl_TK (K := K) rfl) (pv 4) (po_some (pe_op op_sub (pe_callB (call_lenK (K := K) rfl) (by rfl) (z_len T) (by decide +kernel) (pa_cons (pv 0) pa_nil)) (pe_callB (call_lenK (K := K) rfl) (by rfl) (z_len T) (by decide +kernel) (pa_cons (pv 1) pa_nil)))) po_none) (pa_cons (pv 1) pa_nil))) (pg_tupK (K := K) (n := 2) rfl rfl (pgs_cons (pg_name (i := 6) sc_l_wide.nd rfl (Or.inl rfl)) (pgs_cons (pg_name (i := 7) sc_l_wide.nd rfl (Or.inl rfl)) pgs_nil)))
    (pss_one (ps_set (i := 5) sc_l_wide.nd rfl (Or.inl rfl) (pe_op op_add (pe_op op_mul (pv 5) (pv 7)) (pe_ix (ix_K (K := K) rfl) (pe_lst (pa_cons (pv 6) (pa_cons pe_int pa_nil))) (pe_callTy call_int1 (by rfl) (z_int T) (by decide +kernel) (pa_cons (pe_cmpR op_eq (pv 7) pe_int (nomark _)) pa_nil)) (fun _ _ => rfl))))))
    (pss_one (ps_expr (pe_bmK (K := K) rfl PySem.F.plainAttrs_list PySem.F.slot_list_append PySem.F.type_list_append mt_append (pv 3) (pa_cons (pe_ix (ix_K (K := K) rfl) (pv 2) (pv 5) (fun _ _ => rfl)) pa_nil)))))))
    (pss_one (ps_ret (pv 3))))), ?_⟩
    refine ⟨sz_ok (Nat.zero_le _), fun f hf => ?_⟩
    have s1 : Same H (upd H f (.lst [])) := Same.new hf
    have hf1 : (upd H f (.lst [])) f = some (.lst []) := upd_same
    generalize upd H f (.lst []) = H1 at s1 hf1
    have h600 := hL.okl.size
    have h5 := hL.len
    have hfl := fit.1
    refine ⟨_, rfl, a, L, rfl, SqT.of (s1 _ _ ha), h5, hL.okl.each, by omega, fun pl H2 s2 hpl0 ⟨as, hpl, tps⟩ => ⟨pl, rfl, ⟨_, SqL.of hpl⟩, ?_⟩⟩
    have nf : pl ≠ f := (ne_of_none hf1 hpl0).symm
    have s12 := s1.trans s2
    refine for_it (D := { nx := tRet (tVar 3) { nx := fun _ H' => Q V.non H', rt := Q }, rt := Q }) (walk_refs tps.len) (fun i σ H3 => But f H2 H3 ∧ H3 f = some (.lst (ti ((wideN L ls C).take i))) ∧ ∃ x1 x2 x3 x4, σ = [some (.ref a), some (.ref c), some (.ref cl), some (.ref f), x1, x2, x3, x4]) ⟨Same.but f (Same.refl H2), s2 _ _ hf1, none, none, none, none, rfl⟩ (fun i σ H3 _ h => SqL.of (h.1 _ _ nf hpl)) ?_ ?_
    · rintro i x σ H3 H4 hi ⟨b3, hf3, x1, x2, x3, x4, rfl⟩ ⟨rfl, pa, hpa, rfl⟩
      obtain ⟨p, hp, hpt⟩ := tps.get hpa
      have hin := mem_places.mp (List.mem_of_getElem? hp)
      have tup3 : ∀ b xs, H2 b = some (.tup xs) → H4 b = some (.tup xs) := fun b xs e => b3 _ _ (ne_of e (s2 _ _ hf1) (by intro z; cases z)) e
      have hpt3 := tup3 _ _ hpt
      have hc3 := tup3 _ _ (s12 _ _ hc)
      have ha3 := tup3 _ _ (s12 _ _ ha)
      have hcl3 := b3 _ _ (ne_of_none hcl hf) (s12 _ _ hcl)
      have hpl2 : p.length = L.length := hin.len
      refine ⟨_, rfl, _, rfl, a, _, rfl, .inr (SqT.of ha3), _, rfl, c, _, rfl, .inr (SqT.of hc3), _, _, rfl, rfl, _, rfl, ?_⟩
      rw [tn_len, tn_len]
      have ej : (L.length : Int) - (ls.length : Int) = ((L.length - ls.length : Nat) : Int) := by omega
      rw [ej]
      dsimp only [tNoPart]
      refine q_slT hpt3 fun t0 H5 s5 ht0 => ?_
      rw [cut_from] at ht0
      obtain ⟨qd, hqd⟩ : ∃ qd, qd = p.drop (L.length - ls.length) := ⟨_, rfl⟩
      have et0 : (tn p).drop (L.length - ls.length) = tn qd := by rw [hqd]; unfold tn; rw [List.map_drop]
      rw [et0] at ht0
      have hqlen : qd.length = ls.length := by rw [hqd, List.length_drop]; omega
      have hclip : clip L ls p = clip1 ls qd := by rw [hqd]; rfl
      refine ⟨_, rfl, t0, c, tn qd, tn ls, rfl, .inr ⟨SqT.of ht0, SqT.of (s5 _ _ hc3), ?_⟩⟩
      refine for_itE (walk_zipT (n := ls.length) (by rw [tn_len, hqlen]) (tn_len _)) (fun j σ H6 => Same H5 H6 ∧ ∃ x3 x4, σ = [some (.ref a), some (.ref c), some (.ref cl), some (.ref f), some (.ref pa), some (.int (((((qd.zip ls).take j).foldl (fun a x => a * x.2 + (if x.2 = 1 then 0 else x.1)) 0 : Nat)) : Int)), x3, x4]) ⟨Same.refl _, x3, x4, by rfl⟩ (fun j σ H6 _ h => ⟨SqT.of (h.1 _ _ ht0), SqT.of (h.1 _ _ (s5 _ _ hc3))⟩) ?_ ?_
      · rintro j z σ H6 H7 hj ⟨s6, y3, y4, rfl⟩ ⟨T1, z1, z2, rfl, hT, rfl, e1, e2⟩
        obtain ⟨k, hk, rfl⟩ := tn_at e1
        obtain ⟨l, hl, rfl⟩ := tn_at e2
        have hl24 := hls.each l (List.mem_of_getElem? hl)
        have ez : (qd.zip ls)[j]? = some (k, l) := by rw [List.getElem?_zip_eq_some]; exact ⟨hk, hl⟩
        refine ⟨T1, _, rfl, SqT.of upd_same, rfl, _, _, rfl, _, _, rfl, rfl, ?_⟩
        rw [take_one ez, List.foldl_append]
        simp only [List.foldl_cons, List.foldl_nil]
        generalize ((qd.zip ls).take j).foldl (fun a x => a * x.2 + (if x.2 = 1 then 0 else x.1)) 0 = acc
        have s7 := s6.trans (Same.new (o := .tup [.int (k : Int), .int (l : Int)]) hT)
        refine ⟨_, rfl, _, rfl, _, _, rfl, rfl, .inr ⟨by omega, by omega⟩, _, rfl, sz_ok (by show 2 ≤ 100000; decide), fun z hz => ?_⟩
        have s8 : Same (upd H6 T1 (.tup [.int (k : Int), .int (l : Int)])) (upd (upd H6 T1 (.tup [.int (k : Int), .int (l : Int)])) z (.lst [.int (k : Int), .int 0])) := Same.new hz
        refine ⟨_, rfl, rfl, .inr ⟨_, rfl, ?_⟩⟩
        by_cases h1 : l = 1
        · rw [show decide (V.int (l : Int) = V.int 1) = true by rw [h1]; rfl]
          refine q_ixL (i := 1) (SqL.of upd_same) rfl ⟨_, _, rfl, rfl, s7.trans s8, some (.int (k : Int)), some (.int (l : Int)), ?_⟩
          rw [if_pos h1, Nat.add_zero, Int.natCast_mul]
          show ([_, _, _, _, _, some (V.int ((acc : Int) * (l : Int) + 0)), _, _] : L2.St) = _
          rw [Int.add_zero]
        · rw [show decide (V.int (l : Int) = V.int 1) = false from decide_eq_false fun z => h1 (by have := V.int.inj z; omega)]
          refine q_ixL (i := 0) (SqL.of upd_same) rfl ⟨_, _, rfl, rfl, s7.trans s8, some (.int (k : Int)), some (.int (l : Int)), ?_⟩
          rw [if_neg h1, Int.natCast_add, Int.natCast_mul]
          rfl
      · rintro σ H6 ⟨s6, y3, y4, rfl⟩
        have ef : ((qd.zip ls).take ls.length).foldl (fun a x => a * x.2 + (if x.2 = 1 then 0 else x.1)) 0 = idx ls (clip L ls p) := by
          rw [List.take_of_length_le (by rw [List.length_zip]; omega), wide_fold _ _ _ hqlen, hclip]
          omega
        rw [ef]
        have hi3 := idx_lt (inb_clip fit hin)
        have s46 := s5.trans s6
        have hcl6 := s46 _ _ hcl3
        have hf6 := s46 _ _ hf3
        have hci : C[idx ls (clip L ls p)]? = some (C.getD (idx ls (clip L ls p)) 0) := by
          rw [List.getD_eq_getElem?_getD, List.getElem?_eq_getElem (by omega)]; rfl
        have hwi : (wideN L ls C)[i]? = some (C.getD (idx ls (clip L ls p)) 0) := by unfold wideN; rw [List.getElem?_map, hp]; rfl
        refine ⟨_, rfl, .inl ⟨rfl, _, SqL.of hf6⟩, _, rfl, _, rfl, q_ixL (i := idx ls (clip L ls p)) (SqL.of hcl6) (ti_get hci) ⟨f, _, _, rfl, rfl, hf6, sz_lt (by rw [ti_len, List.length_take, wideN_len]; omega), ?_⟩⟩
        refine ⟨fun y o n e => by rw [upd_ne n]; exact s46 _ _ (b3 y o n e), ?_, _, _, _, _, rfl⟩
        rw [upd_same, take_one hwi]
        unfold ti
        rw [List.map_append]
        rfl
    · rintro σ H3 ⟨b3, hf3, x1, x2, x3, x4, rfl⟩
      rw [List.take_of_length_le (by rw [wideN_len, ← places_len]; exact Nat.le_refl _)] at hf3
      exact ⟨_, rfl, q f H3 (But.same hf ((Same.but f s12).trans b3)) hf hf3⟩
end
end VG
-- VgLaw10
set_option Elab.async false
set_option linter.all false
set_option maxRecDepth 100000
set_option maxHeartbeats 4000000
namespace VG
open PySem PySem.Spec PyProof.Rows L2
theorem mt_indexDK {X : Cx} {K : PySem.W.Frag} (hK : X.K = K) (hu : X.A.units + 65 < cLine) : MtR X "list.index" (rIndexD K) := by subst hK; exact mt_indexD hu
/-- a cell's number in a list -/
theorem q_cell {K : PySem.W.Frag} {H : Hp} {Q : VK} {a : Addr} {R : List Int} {c : Int} (h : H a = some (.lst (ti R))) (h0 : 0 ≤ c) (h1 : c < R.length) (q : Q (.int (at0 R c)) H) : rIx K (.ref a) (.int c) H Q := by
  obtain ⟨i, rfl⟩ := Int.eq_ofNat_of_zero_le h0
  have e := at0_of h0 h1
  exact q_ixL (i := i) (SqL.of h) (ti_get e) q
theorem pick_at {R C : List Int} {i : Nat} {c : Int} (h : C[i]? = some c) : (pick R C)[i]? = some (at0 R c) := by unfold pick; rw [List.getElem?_map, h]; rfl
section
variable {P : Program} {w : World} {K : PySem.W.Frag} {mg : Str → Option Value} {base : Heap}
def spLRead : Sp := fun vs H Q _ => ∃ (one rooms la v lsa cl rl : Addr) (wh : Nat) (rs : List V) (L ls : List Nat) (C R : List Int), vs = [.ref one, .ref rooms, .ref la] ∧ H one = some (.tup [.ref v, .int (wh : Int), .ref lsa, .ref cl]) ∧ H rooms = some (.lst rs) ∧ rs[wh]? = some (.ref rl) ∧ H rl = some (.lst (ti R)) ∧ H la = some (.tup (tn L)) ∧ H lsa = some (.tup (tn ls)) ∧ H cl = some (.lst (ti C)) ∧ Len L ∧ Len ls ∧ Fit ls L ∧ C.length = sz ls ∧ Within C R.length ∧
  ∀ l H', Same H H' → H l = none → H' l = some (.lst (ti (wideN L ls (pick R C)))) → Q (.ref l) H'
theorem ok_l_read (T : Tx K mg) : Def P w K mg base 3 "_law_read" ["_law_one", "_law_rooms", "_law_lengths_here"] [] spLRead := by
  refine Def.mk0 (f_l_read T) (g_l_read T) sc_l_read (fun _ _ _ _ _ _ us hl => match us, hl with | [_, _, _], _ => rfl) (fun vs H Q E h => ?_) (fun cdv A outer s H vs Q E hr h => ?_)
  · obtain ⟨one, rooms, la, v, lsa, cl, rl, wh, rs, L, ls, C, R, rfl, _⟩ := h; rfl
  · obtain ⟨one, rooms, la, v, lsa, cl, rl, wh, rs, L, ls, C, R, rfl, h1, hrs, hrl, hR, hla, hlsa, hcl, hL, hls, fit, hC, hw, q⟩ := h
    refine ⟨_, (pss_one (ps_ret (pe_lc (own := [("_law_cell", 3)]) (tt := tYes) rfl sc_l_read.nd (pi_listK (K := K) rfl (pe_fK (K := K) (P := P) (w := w) (mg := mg) (base := base) ((ok_l_wide T).mono (by omega)) rfl rfl rfl rfl rfl hr (by rfl) (pa_cons (pv 2) (pa_cons (pe_ix (ix_K (K := K) rfl) (pv 0) pe_int (fun _ _ => rfl)) (pa_cons (pe_ix (ix_K (K := K) rfl) (pv 0) pe_int (fun _ _ => rfl)) pa_nil))))) (blkOk_by (own := [("_law_cell", 3)]) (sc := defScope s_l_read) (N := n_l_read) (by decide +kernel)) (fun _ _ _ _ _ => (pg_name (i := 3) sc_l_read.nd rfl (by first | exact Or.inl rfl | exact Or.inr rfl))) (fun _ _ _ _ _ => pts_nil) (fun _ _ _ _ _ => (pe_ix (ix_K (K := K) rfl) (pe_ix (ix_K (K := K) rfl) (pv 1) (pe_ix (ix_K (K := K) rfl) (pv 0) pe_int (fun _ _ => rfl)) (fun _ _ => rfl)) (pv 3) (fun _ _ => rfl)))))), ?_⟩
    refine ⟨_, rfl, _, rfl, q_ixT (i := 2) h1 rfl ⟨_, rfl, q_ixT (i := 3) h1 rfl ⟨la, lsa, cl, L, ls, C, rfl, hla, hlsa, hcl, hL, hls, fit, hC, fun l H1 s1 hl0 hl => ⟨l, rfl, ⟨_, SqL.of hl⟩, fun D hD => ?_⟩⟩⟩⟩
    have h600 := hL.okl.size
    refine lc_new walk_ti (by rw [wideN_len]; omega) hD (fun i y _ => ∃ k : Int, (pick R (wideN L ls C))[i]? = some k ∧ y = .int k) (fun H3 s3 => SqL.of (s3 _ _ hl)) (fun _ _ _ _ _ h => h) ?_ ?_
    · rintro i x H3 H4 Kt hi s3 hacc ⟨rfl, c, hc, rfl⟩ kt
      have hcw := hw c (wideN_mem fit hC (List.mem_of_getElem? hc))
      have s13 := s1.trans s3
      exact ⟨rfl, _, rfl, _, rfl, q_ixT (i := 1) (s13 _ _ h1) rfl (q_ixL (i := wh) (SqL.of (s13 _ _ hrs)) hrl ⟨_, rfl, q_cell (s13 _ _ hR) hcw.1 hcw.2 (kt _ _ (Same.refl _) ⟨_, pick_at hc, rfl⟩)⟩)⟩
    · intro ys H3 s3 hD3 hy hR'
      have e := ys_ti (p := pick R (wideN L ls C)) (by rw [hy]; unfold pick; rw [List.length_map]) hR'
      subst e
      rw [pick_wideN fit hC] at hD3
      exact q D H3 (s1.trans s3) (s1.free hD) hD3
/-- a row of a table as it is kept: a view, which room, its sides and cells; the room's numbers as they are kept -/
structure Entry (K : PySem.W.Frag) (H : Hp) (rs : List V) (t : Addr) : Prop where
  ex : ∃ (v r la ca rl : Addr) (wh : Nat) (ns : List Int) (L : List Nat) (b : Int) (ss : List Int), H t = some (.tup [.ref v, .int (wh : Int), .ref la, .ref ca]) ∧ Src K H v r ns L b ss ∧ H ca = some (.lst (ti (cells L b ss))) ∧ rs[wh]? = some (.ref rl) ∧ H rl = some (.lst (ti ns))
theorem Entry.same {H H' : Hp} {rs : List V} {t : Addr} (e : Entry K H rs t) (s : Same H H') : Entry K H' rs t := by
  obtain ⟨v, r, la, ca, rl, wh, ns, L, b, ss, h1, h2, h3, h4, h5⟩ := e.ex
  exact ⟨v, r, la, ca, rl, wh, ns, L, b, ss, s _ _ h1, h2.same s, s _ _ h3, h4, s _ _ h5⟩
def spLShown (K : PySem.W.Frag) : Sp := fun vs H Q _ => ∃ (tb rooms : Addr) (ts : List Addr) (rs : List V), vs = [.ref tb, .ref rooms] ∧ H tb = some (.lst (ts.map V.ref)) ∧ H rooms = some (.lst rs) ∧ (∀ t ∈ ts, Entry K H rs t) ∧ ∀ H', Same H H' → Q (.bl true) H'
theorem ok_l_shown (T : Tx K mg) : Def P w K mg base 6 "_law_shown" ["_law_tables", "_law_rooms"] [] (spLShown K) := by
  refine Def.mk0 (f_l_shown T) (g_l_shown T) sc_l_shown (fun _ _ _ _ _ _ us hl => match us, hl with | [_, _], _ => rfl) (fun vs H Q E h => ?_) (fun cdv A outer s H vs Q E hr h => ?_)
  · obtain ⟨tb, rooms, ts, rs, rfl, _⟩ := h; rfl
  · obtain ⟨tb, rooms, ts, rs, rfl, htb, hrs, hts, q⟩ := h
    have hu := hr.units
    refine ⟨_, (pss_cons (ps_for PassesOwn.never rfl (pi_listK (K := K) rfl (pv 0)) (pg_tupK (K := K) (n := 4) rfl rfl (pgs_cons (pg_name (i := 2) sc_l_shown.nd rfl (Or.inl rfl)) (pgs_cons (pg_name (i := 3) sc_l_shown.nd rfl (Or.inr rfl)) (pgs_cons (pg_name (i := 4) sc_l_shown.nd rfl (Or.inl rfl)) (pgs_cons (pg_name (i := 5) sc_l_shown.nd rfl (Or.inl rfl)) pgs_nil)))))
    (pss_one (ps_if (pt_cmpR (op_neDK (K := K) rfl hu) (pe_m0K (K := K) (P := P) (w := w) (mg := mg) (base := base) ((ok_View_numbers T).mono (by omega)) (cl_View T) rfl rfl rfl rfl rfl hr (pv 2)) (pe_lc (own := [("_law_cell", 6)]) (tt := tYes) rfl sc_l_shown.nd (pi_listK (K := K) rfl (pv 5)) (blkOk_by (own := [("_law_cell", 6)]) (sc := defScope s_l_shown) (N := n_l_shown) (by decide +kernel)) (fun _ _ _ _ _ => (pg_name (i := 6) sc_l_shown.nd rfl (by first | exact Or.inl rfl | exact Or.inr rfl))) (fun _ _ _ _ _ => pts_nil) (fun _ _ _ _ _ => (pe_ix (ix_K (K := K) rfl) (pe_ix (ix_K (K := K) rfl) (pv 1) (pv 3) (fun _ _ => rfl)) (pv 6) (fun _ _ => rfl)))) (nomark _)) (pss_one (ps_ret pe_bl)) pss_nil)))
    (pss_one (ps_ret pe_bl))), ?_⟩
    refine ⟨_, rfl, tb, rfl, ⟨_, SqL.of htb⟩, for_itE (walk_refs (as := ts) rfl) (fun i σ H2 => Same H H2 ∧ ∃ u2 u3 u4 u5 u6, σ = [some (.ref tb), some (.ref rooms), u2, u3, u4, u5, u6]) ⟨Same.refl H, none, none, none, none, none, rfl⟩ (fun i σ H2 _ h => SqL.of (h.1 _ _ htb)) ?_ ?_⟩
    · rintro i x σ H2 H3 hi ⟨s2, u2, u3, u4, u5, u6, rfl⟩ ⟨rfl, t, ht, rfl⟩
      obtain ⟨v, r, la, ca, rl, wh, ns, L, b, ss, h1, S0, hca, hwh, hrl⟩ := ((hts t (List.mem_of_getElem? ht)).same s2).ex
      refine ⟨t, _, rfl, SqT.of h1, rfl, _, _, rfl, _, _, rfl, _, _, rfl, _, _, rfl, rfl, ?_⟩
      obtain ⟨la0, sa0, ⟨dx, g1⟩, g2, g3⟩ := id S0.vw
      refine ⟨_, rfl, v, dx, _, rfl, g1, view_no (by decide) (by decide) (by decide) (by decide), v, r, L, b, ss, ns, rfl, S0.vw, S0.ok, S0.sl, S0.rm, S0.wi, fun l H4 s4 hl0 hl => ?_⟩
      refine ⟨_, rfl, ca, rfl, ⟨_, SqL.of (s4 _ _ hca)⟩, fun D hD => ?_⟩
      refine lc_new walk_ti (by rw [cells_len]; have := S0.ok.size; omega) hD (fun i y _ => ∃ k : Int, (pick ns (cells L b ss))[i]? = some k ∧ y = .int k) (fun H5 s5 => SqL.of (s5 _ _ (s4 _ _ hca))) (fun _ _ _ _ _ h => h) ?_ ?_
      · rintro j x H5 H6 Kt hj s5 hacc ⟨rfl, c, hc, rfl⟩ kt
        have hcw := S0.wi c (List.mem_of_getElem? hc)
        have s25 := (s2.trans s4).trans s5
        exact ⟨rfl, _, rfl, _, rfl, q_ixL (i := wh) (SqL.of (s25 _ _ hrs)) hwh ⟨_, rfl, q_cell ((s4.trans s5) _ _ hrl) hcw.1 hcw.2 (kt _ _ (Same.refl _) ⟨_, pick_at hc, rfl⟩)⟩⟩
      · intro ys H5 s5 hD5 hy hR'
        have e := ys_ti (p := pick ns (cells L b ss)) (by rw [hy]; unfold pick; rw [List.length_map]) hR'
        subst e
        refine ⟨_, _, dp_lst (SqL.of (s5 _ _ hl)), dp_lst (SqL.of hD5), sh_I _, sh_I _, _, rfl, ?_⟩
        rw [eqv_I, decide_eq_true rfl]
        exact iteF ⟨(s2.trans s4).trans s5, _, _, _, _, _, rfl⟩
    · rintro σ H2 ⟨s2, u2, u3, u4, u5, u6, rfl⟩
      exact q H2 s2
end
end VG
-- VgLaw11
set_option Elab.async false
set_option linter.all false
set_option maxRecDepth 100000
set_option maxHeartbeats 4000000
namespace VG
open PySem PySem.Spec PyProof.Rows L2
/-- for each place of the other sides the numbers of the places along a side -/
def spotsN (L : List Nat) (at_ : Nat) : List (List Nat) := (places (oth L at_)).map fun q => (List.range (L.getD at_ 0)).map fun k => idx L (ins q at_ k)
theorem spotsN_at {L : List Nat} {at_ i : Nat} {q : List Nat} (h : (places (oth L at_))[i]? = some q) : (spotsN L at_)[i]? = some ((List.range (L.getD at_ 0)).map fun k => idx L (ins q at_ k)) := by
  unfold spotsN
  rw [List.getElem?_map, h]
  rfl
/-- lists of numbers from 0 on -/
def RowsN (H : Hp) (as : List Addr) (rows : List (List Nat)) : Prop := as.length = rows.length ∧ ∀ (i : Nat) a r, as[i]? = some a → rows[i]? = some r → H a = some (.lst (tn r))
theorem szM_oth : ∀ (L : List Nat) (at_ : Nat), szM (oth L at_) ≤ szM L
  | [], at_ => by simp [oth]
  | l :: L, 0 => by
    have e : oth (l :: L) 0 = L := by simp [oth]
    rw [e]
    exact Nat.le_mul_of_pos_left _ (by omega)
  | l :: L, at_ + 1 => by
    have e : oth (l :: L) (at_ + 1) = l :: oth L at_ := by simp [oth]
    rw [e]
    exact Nat.mul_le_mul_left _ (szM_oth L at_)
theorem Len.oth {L : List Nat} (h : Len L) (at_ : Nat) : Len (VG.oth L at_) := by
  have h5 := h.len
  refine ⟨?_, fun l hl => ?_, Nat.le_trans (szM_oth L at_) h.sz⟩
  · unfold VG.oth; rw [List.length_append, List.length_take, List.length_drop]; omega
  · unfold VG.oth at hl
    rcases List.mem_append.mp hl with z | z
    · exact h.each l (List.mem_of_mem_take z)
    · exact h.each l (List.mem_of_mem_drop z)
theorem un65 {k : Nat} {A : Around} (r : L2.Room k A) : A.units + 65 < cLine := by have := r.un; omega
section
variable {P : Program} {w : World} {K : PySem.W.Frag} {mg : Str → Option Value} {base : Heap}
def spLAlong : Sp := fun vs H Q _ => ∃ (la : Addr) (L : List Nat) (at_ : Nat), vs = [.ref la, .int (at_ : Int)] ∧ H la = some (.tup (tn L)) ∧ Len L ∧ at_ < L.length ∧ ∀ l as H', Same H H' → H l = none → H' l = some (.lst (as.map V.ref)) → RowsN H' as (spotsN L at_) → (∀ a ∈ as, H a = none) → Q (.ref l) H'
theorem ok_l_along (T : Tx K mg) : Def P w K mg base 2 "_law_along" ["_law_lengths_here", "_law_at"] [] spLAlong := by
  refine Def.mk0 (f_l_along T) (g_l_along T) sc_l_along (fun _ _ _ _ _ _ us hl => match us, hl with | [_, _], _ => rfl) (fun vs H Q E h => ?_) (fun cdv A outer s H vs Q E hr h => ?_)
  · obtain ⟨la, L, at_, rfl, _⟩ := h; rfl
  · obtain ⟨la, L, at_, rfl, hla, hL, hat, q⟩ := h
    have hu := un65 hr
    refine ⟨_, (pss_cons (ps_set (i := 2) sc_l_along.nd rfl (Or.inr rfl) (pe_fK (K := K) (P := P) (w := w) (mg := mg) (base := base) ((ok_l_places T).mono (by omega)) rfl rfl rfl rfl rfl hr (by rfl) (pa_cons (pv 0) pa_nil)))
    (pss_cons (ps_set (i := 3) sc_l_along.nd rfl (Or.inl rfl) (pe_lst pa_nil))
    (pss_cons (ps_for PassesOwn.never rfl (pi_listK (K := K) rfl (pe_fK (K := K) (P := P) (w := w) (mg := mg) (base := base) ((ok_l_places T).mono (by omega)) rfl rfl rfl rfl rfl hr (by rfl) (pa_cons (pe_op (op_catK (K := K) rfl) (pe_slice (sl_TK (K := K) rfl) (pv 0) po_none (po_some (pv 1))) (pe_slice (sl_TK (K := K) rfl) (pv 0) (po_some (pe_op op_add (pv 1) pe_int)) po_none)) pa_nil))) (pg_name (i := 4) sc_l_along.nd rfl (Or.inr rfl))
    (pss_one (ps_expr (pe_bmK (K := K) rfl PySem.F.plainAttrs_list PySem.F.slot_list_append PySem.F.type_list_append mt_append (pv 3) (pa_cons (pe_lc (own := [("_law_spot", 5)]) (tt := tYes) rfl sc_l_along.nd (pi_range1 (by rfl) (z_range T) (pa_cons (pe_ix (ix_K (K := K) rfl) (pv 0) (pv 1) (fun _ _ => rfl)) pa_nil)) (blkOk_by (own := [("_law_spot", 5)]) (sc := defScope s_l_along) (N := n_l_along) (by decide +kernel)) (fun _ _ _ _ _ => (pg_name (i := 5) sc_l_along.nd rfl (by first | exact Or.inl rfl | exact Or.inr rfl))) (fun _ _ _ _ _ => pts_nil) (fun _ _ _ _ _ => (pe_bmK (K := K) rfl PySem.F.plainAttrs_list PySem.F.slot_list_index PySem.F.type_list_index (mt_indexDK (K := K) rfl hu) (pv 2) (pa_cons (pe_op (op_catK (K := K) rfl) (pe_op (op_catK (K := K) rfl) (pe_slice (sl_TK (K := K) rfl) (pv 4) po_none (po_some (pv 1))) (pe_tup (pa_cons (pv 5) pa_nil))) (pe_slice (sl_TK (K := K) rfl) (pv 4) (po_some (pv 1)) po_none)) pa_nil)))) pa_nil)))))
    (pss_one (ps_ret (pv 3)))))), ?_⟩
    have h5 := hL.len
    have h600 := hL.okl.size
    have ho := hL.oth at_
    have h6o := ho.okl.size
    have ho5 := ho.len
    have hn : L[at_]? = some (L.getD at_ 0) := by rw [List.getD_eq_getElem?_getD, List.getElem?_eq_getElem hat]; rfl
    have hn24 := hL.each _ (List.mem_of_getElem? hn)
    refine ⟨_, rfl, la, L, rfl, SqT.of hla, h5, hL.okl.each, by omega, fun pl H1 s1 hpl0 ⟨as, hpl, tps⟩ => ?_⟩
    refine ⟨sz_ok (Nat.zero_le _), fun f hf => ?_⟩
    have s2 : Same H1 (upd H1 f (.lst [])) := Same.new hf
    have hf2 : (upd H1 f (.lst [])) f = some (.lst []) := upd_same
    generalize upd H1 f (.lst []) = H2 at s2 hf2
    have s02 := s1.trans s2
    have hla2 := s02 _ _ hla
    refine ⟨_, rfl, _, rfl, _, rfl, q_slT hla2 fun p1 H3 s3 hp1 => ?_⟩
    rw [cut_to] at hp1
    refine ⟨_, rfl, _, rfl, _, _, rfl, rfl, _, rfl, ?_⟩
    have ea : ((at_ : Int) + 1) = ((at_ + 1 : Nat) : Int) := by omega
    rw [ea]
    dsimp only [tNoPart]
    refine q_slT (s3 _ _ hla2) fun p2 H4 s4 hp2 => ?_
    rw [cut_from] at hp2
    refine q_cat (s4 _ _ hp1) hp2 (by rw [List.length_take, List.length_drop, tn_len]; omega) fun t H5 s5 ht => ?_
    have eo : (tn L).take at_ ++ (tn L).drop (at_ + 1) = tn (oth L at_) := by unfold oth tn; rw [List.map_append, List.map_take, List.map_drop]
    rw [eo] at ht
    refine ⟨t, oth L at_, rfl, SqT.of ht, ho.len, ho.okl.each, by omega, fun ql H6 s6 hql0 ⟨bs, hql, tqs⟩ => ⟨ql, rfl, ⟨_, SqL.of hql⟩, ?_⟩⟩
    have s26 := ((s3.trans s4).trans s5).trans s6
    have s16 := s2.trans s26
    have nf : ql ≠ f := (ne_of_none (((s3.trans s4).trans s5) _ _ hf2) hql0).symm
    have nfl : pl ≠ f := ne_of_none hpl hf
    have hf0 : H f = none := s1.free hf
    refine for_itE (walk_refs tqs.len) (fun i σ H7 => But f H6 H7 ∧ (∃ cs : List Addr, H7 f = some (.lst (cs.map V.ref)) ∧ cs.length = i ∧ (∀ (e : Nat) a r, cs[e]? = some a → (spotsN L at_)[e]? = some r → H7 a = some (.lst (tn r))) ∧ ∀ a ∈ cs, H6 a = none) ∧ ∃ u4 u5, σ = [some (.ref la), some (.int (at_ : Int)), some (.ref pl), some (.ref f), u4, u5]) ⟨Same.but f (Same.refl H6), ⟨[], s26 _ _ hf2, rfl, fun e a r h => by simp at h, fun a h => by cases h⟩, none, none, rfl⟩ (fun i σ H7 _ h => SqL.of (h.1 _ _ nf hql)) ?_ ?_
    · rintro i x σ H7 H8 hi ⟨b7, ⟨cs, hf7, hcs, hrow, hnew⟩, u4, u5, rfl⟩ ⟨rfl, qa, hqa, rfl⟩
      obtain ⟨pq, hpq, hpt⟩ := tqs.get hqa
      have hin := mem_places.mp (List.mem_of_getElem? hpq)
      have tup7 : ∀ b xs, H6 b = some (.tup xs) → H8 b = some (.tup xs) := fun b xs e => b7 _ _ (ne_of e (s26 _ _ hf2) (by intro z; cases z)) e
      have hpt7 := tup7 _ _ hpt
      have hla7 := tup7 _ _ (s26 _ _ hla2)
      have hpl7 := b7 _ _ nfl (s16 _ _ hpl)
      have tps7 : Tups H8 as (places L) := (tps.same s16).keep fun b xs e => tup7 b xs e
      have hsp := spotsN_at hpq
      generalize hnn : L.getD at_ 0 = n at hn hn24 hsp
      refine ⟨_, rfl, .inl ⟨rfl, _, SqL.of hf7⟩, _, rfl, _, rfl, q_ixT (i := at_) hla7 (tn_get hn) ⟨(n : Int), rfl, by omega, by omega, fun D hD => ?_⟩⟩
      refine lc_new (walk_rng (m := n) rfl) (by omega) hD (fun k y _ => ∃ z : Nat, ((List.range n).map fun k => idx L (ins pq at_ k))[k]? = some z ∧ y = .int (z : Int)) (fun _ _ => trivial) (fun _ _ _ _ _ h => h) ?_ ?_
      · rintro k x H9 H10 Kt hk s9 hacc ⟨rfl, rfl⟩ kt
        have hi2 := inb_ins hin hn hk
        have hpt9 := s9 _ _ hpt7
        have hpl9 := s9 _ _ hpl7
        refine ⟨rfl, _, rfl, .inl ⟨rfl, _, SqL.of hpl9⟩, _, rfl, _, rfl, _, rfl, q_slT hpt9 fun r1 H11 s11 hr1 => ?_⟩
        rw [cut_to] at hr1
        refine ⟨_, rfl, sz_ok (by show 1 ≤ 100000; decide), fun r2 hr2 => ?_⟩
        have s12 : Same H11 (upd H11 r2 (.tup [.int (k : Int)])) := Same.new hr2
        have hpl5 := hin.len
        refine q_cat (s12 _ _ hr1) upd_same (by rw [List.length_take, tn_len]; show _ + 1 ≤ 100000; omega) fun r3 H13 s13 hr3 => ?_
        refine ⟨_, rfl, _, rfl, _, rfl, ?_⟩
        dsimp only [tNoPart]
        refine q_slT (s13 _ _ (s12 _ _ (s11 _ _ hpt9))) fun r4 H14 s14 hr4 => ?_
        rw [cut_from] at hr4
        refine q_cat (s14 _ _ hr3) hr4 (by rw [List.length_append, List.length_take, List.length_drop, tn_len]; show _ + 1 + _ ≤ 100000; omega) fun r5 H15 s15 hr5 => ?_
        have e5 : (tn pq).take at_ ++ [V.int (k : Int)] ++ (tn pq).drop at_ = tn (ins pq at_ k) := by
          unfold ins tn
          rw [List.map_append, List.map_append, List.map_take, List.map_drop]
          rfl
        rw [e5] at hr5
        have s915 := (((s11.trans s12).trans s13).trans s14).trans s15
        have tps15 : Tups H15 as (places L) := (tps7.same s9).same s915
        have hpi := places_idx hi2
        refine ⟨pl, .ref r5, dT (ins pq at_ k), (places L).map dT, idx L (ins pq at_ k), dT (ins pq at_ k), rfl, rfl, .lst (SqL.of (s915 _ _ hpl9)) (dp_refs tps15), dp_tup (SqT.of hr5), sh_map cl_T dep_T _, sh_T _, by rw [List.getElem?_map, hpi]; rfl, by rw [eqv_T]; simp, fun m z' hm hz => ?_, kt _ _ s915 ⟨_, by rw [List.getElem?_map, List.getElem?_range hk]; rfl, rfl⟩⟩
        rw [List.getElem?_map] at hz
        cases e : (places L)[m]? with
        | none => rw [e] at hz; cases hz
        | some p' =>
          rw [e] at hz
          cases hz
          rw [eqv_T]
          refine decide_eq_false fun e2 => ?_
          have := idx_at e
          rw [e2] at this
          omega
      · intro ys H9 s9 hD9 hy hR
        have e := ys_tn (p := (List.range n).map fun k => idx L (ins pq at_ k)) (by rw [hy, List.length_map, List.length_range]) hR
        subst e
        have hf9 := s9 _ _ hf7
        have nDf : D ≠ f := (ne_of_none hf7 hD).symm
        have hi600 : i < 90000 := by
          have := (List.getElem?_eq_some_iff.mp hpq).1
          rw [places_len] at this
          omega
        have b79 : But f H6 H9 := b7.trans (Same.but f s9)
        have hD6 : H6 D = none := by
          cases z : H6 D with
          | none => rfl
          | some o => rw [b7 _ _ nDf z] at hD; cases hD
        refine ⟨f, _, _, rfl, rfl, hf9, sz_lt (by rw [List.length_map, hcs]; omega), ?_⟩
        refine ⟨fun b o n' e => by rw [upd_ne n']; exact b79 b o n' e, ⟨cs ++ [D], by rw [upd_same, List.map_append]; rfl, by rw [List.length_append, hcs]; rfl, fun e a r h1 h2 => ?_, fun a h => ?_⟩, _, _, rfl⟩
        · by_cases he : e < cs.length
          · rw [List.getElem?_append_left he] at h1
            have haf : a ≠ f := fun z => by
              have := hnew a (List.mem_of_getElem? h1)
              rw [z, s26 _ _ hf2] at this; cases this
            rw [upd_ne haf]
            exact s9 _ _ (hrow e a r h1 h2)
          · rw [List.getElem?_append_right (by omega)] at h1
            have ee : e - cs.length = 0 := by
              cases q : e - cs.length with
              | zero => rfl
              | succ m => rw [q] at h1; simp at h1
            rw [ee] at h1
            have e1 : D = a := by simpa using h1
            have e2 : e = i := by omega
            rw [e2, hsp] at h2
            cases h2
            rw [← e1, upd_ne nDf]
            exact hD9
        · rcases List.mem_append.mp h with z | z
          · exact hnew a z
          · rw [List.mem_singleton.mp z]; exact hD6
    · rintro σ H7 ⟨b7, ⟨cs, hf7, hcs, hrow, hnew⟩, u4, u5, rfl⟩
      have s06 := s02.trans s26
      refine ⟨_, rfl, q f cs H7 (But.same hf0 ((Same.but f s06).trans b7)) hf0 hf7 ⟨?_, hrow⟩ fun a h => s06.free (hnew a h)⟩
      rw [hcs]
      unfold spotsN
      rw [List.length_map]
end
end VG
-- VgLawL
set_option Elab.async false
set_option linter.all false
set_option maxRecDepth 100000
set_option maxHeartbeats 4000000
namespace VG
open PySem PySem.Spec PyProof.Rows L2 LamX NdefX
def lf0 : List Int → Int := fun xs => xs.getD 0 0 % 10007 - 3
def lf1 : List Int → Int := fun xs => (xs.getD 0 0 + xs.getD 1 0) % 1000000000
def lf2 : List Int → Int := fun xs => if xs.getD 1 0 > xs.getD 0 0 then xs.getD 1 0 else xs.getD 0 0
def lf3 : List Int → Int := fun xs => xs.getD 0 0 - xs.getD 1 0
def lf4 : List Int → Int := fun xs => (xs.getD 0 0 + 2 * xs.getD 1 0) % 1000000000000
/-- answers f of its ar numbers, does nothing -/
def spFn (ar : Nat) (f : List Int → Int) : Sp := fun vs H Q _ => ∃ xs : List Int, vs = ti xs ∧ xs.length = ar ∧ Q (.int (f xs)) H
theorem one_of {xs : List Int} (h : xs.length = 1) : ∃ a, xs = [a] := by
  match xs, h with
  | [a], _ => exact ⟨a, rfl⟩
theorem two_of {xs : List Int} (h : xs.length = 2) : ∃ a b, xs = [a, b] := by
  match xs, h with
  | [a, b], _ => exact ⟨a, b, rfl⟩
section
variable {P : Program} {w : World} {K : PySem.W.Frag} {mg : Str → Option Value} {base : Heap}
theorem deed_of {f c : Addr} {q : Str} {e : Expr} {ar : Nat} {fn : List Int → Int} (a : Act P w K mg base 1 f (LamG f (FL q e [] c) (lamBody e) [] []) (spFn ar fn)) : Deed P w K mg base 1 f ar fn (LamG f (FL q e [] c) (lamBody e) [] []) (spFn ar fn) :=
  ⟨a, fun H H' g k => ⟨k _ _ g.fn, k _ _ g.code, capH_nil⟩, fun xs H Q hl q => ⟨xs, rfl, hl, q⟩⟩
theorem act_into0 {q : Str} {c f : Addr} : Act P w K mg base 1 f (LamG f (FL q s_lam_l_into0 [] c) (lamBody s_lam_l_into0) [] []) (spFn 1 lf0) := by
  refine act_lam (k := 0) (ps := ["_law_a"]) sc_lam_l_into0 (fun _ _ us hl => match us, hl with | [_], _ => rfl) (fun vs H Q E h => by obtain ⟨xs, rfl, h, _⟩ := h; rw [ti_len, h]; rfl) (fun A outer s H cs vs Q hr g hs h => ?_)
  obtain ⟨xs, rfl, hl, q⟩ := h
  obtain ⟨a, rfl⟩ := one_of hl
  refine ⟨_, (pe_op op_sub (pe_op op_mod (pv 0) pe_int) pe_int), ?_⟩
  refine ⟨_, rfl, _, _, rfl, rfl, (by show (0 : Int) < 10007; decide), _, _, rfl, rfl, fun _ => ?_⟩
  rw [over_less hs]
  exact q
theorem act_into1 {q : Str} {c f : Addr} : Act P w K mg base 1 f (LamG f (FL q s_lam_l_into1 [] c) (lamBody s_lam_l_into1) [] []) (spFn 2 lf1) := by
  refine act_lam (k := 0) (ps := ["_law_a", "_law_b"]) sc_lam_l_into1 (fun _ _ us hl => match us, hl with | [_, _], _ => rfl) (fun vs H Q E h => by obtain ⟨xs, rfl, h, _⟩ := h; rw [ti_len, h]; rfl) (fun A outer s H cs vs Q hr g hs h => ?_)
  obtain ⟨xs, rfl, hl, q⟩ := h
  obtain ⟨a, b, rfl⟩ := two_of hl
  refine ⟨_, (pe_op op_mod (pe_op op_add (pv 0) (pv 1)) (pe_op op_pow pe_int pe_int)), ?_⟩
  refine ⟨_, rfl, _, rfl, _, _, rfl, rfl, _, _, rfl, rfl, ⟨by decide, by decide, by decide⟩, _, _, rfl, rfl, (by show (0 : Int) < 10 ^ (9 : Int).toNat; decide), fun _ => ?_⟩
  rw [over_less hs]
  exact q
theorem act_into2 (T : Tx K mg) {q : Str} {c f : Addr} : Act P w K mg base 1 f (LamG f (FL q s_lam_l_into2 [] c) (lamBody s_lam_l_into2) [] []) (spFn 2 lf2) := by
  refine act_lam (k := 0) (ps := ["_law_a", "_law_b"]) sc_lam_l_into2 (fun _ _ us hl => match us, hl with | [_, _], _ => rfl) (fun vs H Q E h => by obtain ⟨xs, rfl, h, _⟩ := h; rw [ti_len, h]; rfl) (fun A outer s H cs vs Q hr g hs h => ?_)
  obtain ⟨xs, rfl, hl, q⟩ := h
  obtain ⟨a, b, rfl⟩ := two_of hl
  refine ⟨_, (pe_callB (call_max2 rfl) (by rfl) (z_max T) (by decide +kernel) (pa_cons (pv 0) (pa_cons (pv 1) pa_nil))), ?_⟩
  refine ⟨_, rfl, _, rfl, _, _, rfl, fun _ => ?_⟩
  rw [over_less hs]
  exact q
theorem act_into3 {q : Str} {c f : Addr} : Act P w K mg base 1 f (LamG f (FL q s_lam_l_into3 [] c) (lamBody s_lam_l_into3) [] []) (spFn 2 lf3) := by
  refine act_lam (k := 0) (ps := ["_law_a", "_law_b"]) sc_lam_l_into3 (fun _ _ us hl => match us, hl with | [_, _], _ => rfl) (fun vs H Q E h => by obtain ⟨xs, rfl, h, _⟩ := h; rw [ti_len, h]; rfl) (fun A outer s H cs vs Q hr g hs h => ?_)
  obtain ⟨xs, rfl, hl, q⟩ := h
  obtain ⟨a, b, rfl⟩ := two_of hl
  refine ⟨_, (pe_op op_sub (pv 0) (pv 1)), ?_⟩
  refine ⟨_, rfl, _, rfl, _, _, rfl, rfl, fun _ => ?_⟩
  rw [over_less hs]
  exact q
theorem act_side {q : Str} {c f : Addr} : Act P w K mg base 1 f (LamG f (FL q s_lam_l_side0 [] c) (lamBody s_lam_l_side0) [] []) (spFn 2 lf4) := by
  refine act_lam (k := 0) (ps := ["_law_a", "_law_b"]) sc_lam_l_side0 (fun _ _ us hl => match us, hl with | [_, _], _ => rfl) (fun vs H Q E h => by obtain ⟨xs, rfl, h, _⟩ := h; rw [ti_len, h]; rfl) (fun A outer s H cs vs Q hr g hs h => ?_)
  obtain ⟨xs, rfl, hl, q⟩ := h
  obtain ⟨a, b, rfl⟩ := two_of hl
  refine ⟨_, (pe_op op_mod (pe_op op_add (pv 0) (pe_op op_mul pe_int (pv 1))) (pe_op op_pow pe_int pe_int)), ?_⟩
  refine ⟨_, rfl, _, rfl, _, _, rfl, rfl, .inl ⟨by decide, by decide⟩, _, _, rfl, rfl, _, _, rfl, rfl, ⟨by decide, by decide, by decide⟩, _, _, rfl, rfl, (by show (0 : Int) < 10 ^ (12 : Int).toNat; decide), fun _ => ?_⟩
  rw [over_less hs]
  exact q
end
end VG
-- VgLaw12
set_option Elab.async false
set_option linter.all false
set_option maxRecDepth 100000
set_option maxHeartbeats 4000000
namespace VG
open PySem PySem.Spec PyProof.Rows L2 LamX NdefX
/-- where the law's things stand -/
structure LA where
  p : Addr
  tb : Addr
  t0 : Addr
  t1 : Addr
  t2 : Addr
  w : Addr
  rooms : Addr
  r0 : Addr
  r1 : Addr
  wb : Int
  wss : List Int
def LA.lists (A : LA) (D : LD) : List Addr := [A.tb, A.rooms, A.r1, D.ca, D.cs]
structure St (K : PySem.W.Frag) (H : Hp) (A : LA) (D : LD) (d e : RD) (k : Nat) (R : List Int) : Prop where
  sy : SysD K H d e
  f : LF D d.ns.length
  wl : A.wss.length = D.ls.length
  wc : cells D.ls A.wb A.wss = D.Cs
  vt : VwD K H D.t d.a D.L D.b D.st
  vs : VwD K H D.s d.a D.ls D.sb D.ss
  vw : VwD K H A.w e.a D.ls A.wb A.wss
  la : H D.la = some (.tup (tn D.L))
  lsa : H D.lsa = some (.tup (tn D.ls))
  ca : H D.ca = some (.lst (ti D.C))
  cs : H D.cs = some (.lst (ti D.Cs))
  tb : H A.tb = some (.lst [.ref A.t0, .ref A.t1, .ref A.t2])
  t0 : H A.t0 = some (.tup [.ref D.t, .int 0, .ref D.la, .ref D.ca])
  t1 : H A.t1 = some (.tup [.ref D.s, .int 0, .ref D.lsa, .ref D.cs])
  t2 : H A.t2 = some (.tup [.ref A.w, .int 1, .ref D.lsa, .ref D.cs])
  rooms : H A.rooms = some (.lst [.ref A.r0, .ref A.r1])
  r0 : H A.r0 = some (.lst (ti R))
  r1 : H A.r1 = some (.lst (ti e.ns))
  rl : R.length = d.ns.length
  pu : Purse H A.p k
  tbs : Tbs K H
  off : ∀ b, b = A.p ∨ b = A.r0 ∨ b ∈ A.lists D → ¬ d.ft b ∧ ¬ e.ft b
  npr : A.p ≠ A.r0
  np : A.p ∉ A.lists D
  nr : A.r0 ∉ A.lists D
/-- what is kept from one state to the next -/
structure Fr2 (A : LA) (d e d' e' : RD) (H H' : Hp) : Prop where
  keep : ∀ b o, H b = some o → b ≠ A.p → b ≠ A.r0 → ¬ d.ft b → (∀ ps, o ≠ .tbl ps) → H' b = some o
  new : ∀ b, d'.ft b → d.ft b ∨ H b = none
  newe : ∀ b, e'.ft b → e.ft b
  there : ∀ b, H' b = none → H b = none
theorem Fr2.refl {A : LA} {d e : RD} {H : Hp} : Fr2 A d e d e H H := ⟨fun _ _ e _ _ _ _ => e, fun _ h => .inl h, fun _ h => h, fun _ h => h⟩
theorem Fr2.trans {A : LA} {d e d1 e1 d2 e2 : RD} {H H1 H2 : Hp} (a : Fr2 A d e d1 e1 H H1) (b : Fr2 A d1 e1 d2 e2 H1 H2) : Fr2 A d e d2 e2 H H2 := by
  refine ⟨fun x o h n1 n2 n3 n4 => b.keep x o (a.keep x o h n1 n2 n3 n4) n1 n2 (fun f => ?_) n4, fun x f => ?_, fun x f => a.newe x (b.newe x f), fun x h => a.there x (b.there x h)⟩
  · rcases a.new x f with z | z
    · exact n3 z
    · rw [h] at z; cases z
  · rcases b.new x f with z | z
    · exact a.new x z
    · exact .inr (a.there x z)
section
variable {K : PySem.W.Frag} {H H' : Hp} {A : LA} {D : LD} {d e d' e' : RD} {k k' : Nat} {R R' : List Int}
theorem St.notTup (s : St K H A D d e k R) {b : Addr} {xs : List V} (h : H b = some (.tup xs)) : b ≠ A.p ∧ b ≠ A.r0 ∧ ¬ d.ft b := by
  refine ⟨?_, ne_of h s.r0 (by intro z; cases z), fun f => ?_⟩
  · obtain ⟨ys, hp⟩ := s.pu.some
    exact ne_of h hp (by intro z; cases z)
  · obtain ⟨o, h2, n, _⟩ := foot_at s.sy.r0 f
    rw [h] at h2; cases h2
    exact n _ rfl
theorem St.lists_at (s : St K H A D d e k R) {b : Addr} (h : b ∈ A.lists D) : ∃ xs, H b = some (.lst xs) := by
  unfold LA.lists at h
  simp only [List.mem_cons, List.mem_nil_iff, or_false] at h
  rcases h with rfl | rfl | rfl | rfl | rfl
  · exact ⟨_, s.tb⟩
  · exact ⟨_, s.rooms⟩
  · exact ⟨_, s.r1⟩
  · exact ⟨_, s.ca⟩
  · exact ⟨_, s.cs⟩
/-- on to the next state -/
theorem St.move (s : St K H A D d e k R) (fr : Fr2 A d e d' e' H H') (sy : SysD K H' d' e') (ha : d'.a = d.a) (hea : e'.a = e.a) (hl : d'.ns.length = d.ns.length) (hen : e'.ns = e.ns) (pu : Purse H' A.p k') (r0 : H' A.r0 = some (.lst (ti R'))) (rl : R'.length = d'.ns.length) (tbs : Tbs K H') : St K H' A D d' e' k' R' := by
  have tup : ∀ {b xs}, H b = some (.tup xs) → H' b = some (.tup xs) := fun {b xs} h => by
    obtain ⟨n1, n2, n3⟩ := s.notTup h
    exact fr.keep _ _ h n1 n2 n3 (fun _ z => by cases z)
  have lst : ∀ {b xs}, b ∈ A.lists D → H b = some (.lst xs) → H' b = some (.lst xs) := fun {b xs} hb h => fr.keep _ _ h (fun z => s.np (z ▸ hb)) (fun z => s.nr (z ▸ hb)) (s.off _ (.inr (.inr hb))).1 (fun _ z => by cases z)
  have vw : ∀ {v r ls b ss}, VwD K H v r ls b ss → VwD K H' v r ls b ss := fun {v r ls b ss} ⟨la, sa, ⟨dx, h1⟩, h2, h3⟩ => by
    refine ⟨la, sa, ⟨dx, fr.keep _ _ h1 ?_ (ne_of h1 s.r0 (by intro z; cases z)) (fun f => ?_) (fun _ z => by cases z)⟩, tup h2, tup h3⟩
    · obtain ⟨ys, hp⟩ := s.pu.some
      exact ne_of h1 hp (by intro z; cases z)
    · obtain ⟨o, h4, _, n⟩ := foot_at s.sy.r0 f
      rw [h1] at h4; cases h4
      exact n rfl
  have m1 : A.tb ∈ A.lists D := by simp [LA.lists]
  have m2 : A.rooms ∈ A.lists D := by simp [LA.lists]
  have m3 : A.r1 ∈ A.lists D := by simp [LA.lists]
  have m4 : D.ca ∈ A.lists D := by simp [LA.lists]
  have m5 : D.cs ∈ A.lists D := by simp [LA.lists]
  refine ⟨sy, by rw [hl]; exact s.f, s.wl, s.wc, by rw [ha]; exact vw s.vt, by rw [ha]; exact vw s.vs, by rw [hea]; exact vw s.vw, tup s.la, tup s.lsa, lst m4 s.ca, lst m5 s.cs, lst m1 s.tb, tup s.t0, tup s.t1, tup s.t2, lst m2 s.rooms, r0, by rw [hen]; exact lst m3 s.r1, rl, pu, tbs, fun b hb => ⟨fun f => ?_, fun f => (s.off b hb).2 (fr.newe b f)⟩, s.npr, s.np, s.nr⟩
  rcases fr.new b f with z | z
  · exact (s.off b hb).1 z
  · rcases hb with rfl | rfl | hb
    · exact s.pu.ne z
    · rw [s.r0] at z; cases z
    · obtain ⟨xs, h⟩ := s.lists_at hb
      rw [h] at z; cases z
/-- all but the tables stays -/
theorem St.ext (s : St K H A D d e k R) (x : Ext H H') (tbs : Tbs K H') : St K H' A D d e k R ∧ Fr2 A d e d e H H' := by
  have fr : Fr2 A d e d e H H' := ⟨fun b o h _ _ _ n => x.n b o h n, fun _ h => .inl h, fun _ h => h, x.there⟩
  refine ⟨s.move fr (s.sy.ext x) rfl rfl rfl rfl (s.pu.keep fun o h => ?_) (x.n _ _ s.r0 (fun _ z => by cases z)) s.rl tbs, fr⟩
  obtain ⟨xs, h2⟩ := s.pu.some
  rw [h2] at h
  exact x.n _ _ (by rw [h2]; exact h) (fun _ z => by rw [← Option.some.inj h] at z; cases z)
theorem St.same (s : St K H A D d e k R) (x : Same H H') : St K H' A D d e k R ∧ Fr2 A d e d e H H' := s.ext (Ext.of x) (s.tbs.ext x)
/-- the room was written -/
theorem St.wrote {ns : List Int} (s : St K H A D d e k R) (w : WroteT K H H' d e d' e' ns) (hn : ns.length = d.ns.length) (tbs : Tbs K H') : St K H' A D d' e' k R ∧ Fr2 A d e d' e' H H' := by
  obtain ⟨w1, w2, w3, w4, w5, w6, w7⟩ := w
  have fr : Fr2 A d e d' e' H H' := ⟨fun b o h _ _ n m => w7.keep b o h n m, w7.new, w5.f, w7.there⟩
  refine ⟨s.move fr w1 w4 w5.a (by rw [w2]; exact hn) w3 (s.pu.keep fun o h => ?_) (w7.keep _ _ s.r0 (s.off _ (.inr (.inl rfl))).1 (fun _ z => by cases z)) (by rw [s.rl, w2, hn]) tbs, fr⟩
  obtain ⟨xs, h2⟩ := s.pu.some
  rw [h2] at h
  exact w7.keep _ _ (by rw [h2]; exact h) (s.off _ (.inl rfl)).1 (fun _ z => by rw [← Option.some.inj h] at z; cases z)
/-- a list or the purse changed, no table or part of a room -/
theorem St.tbsBut {b : Addr} {xs : List V} (s : St K H A D d e k R) (hb : H b = some (.lst xs)) (bt : But b H H') : Tbs K H' := fun p hp => tabN_keep (s.tbs p hp) (fun c ps h => bt c _ (ne_of h hb (by intro z; cases z)) h) (fun c φ h => bt c _ (ne_of h hb (by intro z; cases z)) h)
theorem St.sysBut {b : Addr} (s : St K H A D d e k R) (h1 : ¬ d.ft b) (h2 : ¬ e.ft b) (bt : But b H H') : SysD K H' d e :=
  { s.sy with r0 := s.sy.r0.keep fun c o f h => bt c o (fun z => h1 (z ▸ f)) h, r1 := s.sy.r1.keep fun c o f h => bt c o (fun z => h2 (z ▸ f)) h }
/-- numbers were taken -/
theorem St.take (s : St K H A D d e k R) (bt : But A.p H H') (pu : Purse H' A.p k') : St K H' A D d e k' R ∧ Fr2 A d e d e H H' := by
  obtain ⟨xs, h2⟩ := s.pu.some
  have fr : Fr2 A d e d e H H' := ⟨fun b o h n _ _ _ => bt b o n h, fun _ h => .inl h, fun _ h => h, bt.there pu.ne⟩
  have o := s.off _ (.inl rfl)
  exact ⟨s.move fr (s.sysBut o.1 o.2 bt) rfl rfl rfl rfl pu (bt _ _ s.npr.symm s.r0) s.rl (s.tbsBut h2 bt), fr⟩
/-- the kept numbers of room 0 changed -/
theorem St.setR (s : St K H A D d e k R) (hl : R'.length = R.length) : St K (upd H A.r0 (.lst (ti R'))) A D d e k R' ∧ Fr2 A d e d e H (upd H A.r0 (.lst (ti R'))) := by
  have bt : But A.r0 H (upd H A.r0 (.lst (ti R'))) := But.put
  have fr : Fr2 A d e d e H (upd H A.r0 (.lst (ti R'))) := ⟨fun b o h _ n _ _ => bt b o n h, fun _ h => .inl h, fun _ h => h, bt.there (by rw [upd_same]; intro z; cases z)⟩
  have o := s.off _ (.inr (.inl rfl))
  exact ⟨s.move fr (s.sysBut o.1 o.2 bt) rfl rfl rfl rfl (s.pu.keep fun o h => by rw [upd_ne s.npr]; exact h) upd_same (by rw [hl]; exact s.rl) (s.tbsBut s.r0 bt), fr⟩
/-- a list of no concern changed -/
theorem St.other {b : Addr} {xs : List V} (s : St K H A D d e k R) (hb : H b = some (.lst xs)) (n1 : b ≠ A.p) (n2 : b ≠ A.r0) (n3 : b ∉ A.lists D) (h1 : ¬ d.ft b) (h2 : ¬ e.ft b) (ys : List V) : St K (upd H b (.lst ys)) A D d e k R := by
  have bt : But b H (upd H b (.lst ys)) := But.put
  have tup : ∀ {c xs}, H c = some (.tup xs) → (upd H b (.lst ys)) c = some (.tup xs) := fun {c xs} h => bt _ _ (ne_of h hb (by intro z; cases z)) h
  have vw : ∀ {v r ls b' ss}, VwD K H v r ls b' ss → VwD K (upd H b (.lst ys)) v r ls b' ss := fun {v r ls b' ss} ⟨la, sa, ⟨dx, h1⟩, h2, h3⟩ => ⟨la, sa, ⟨dx, bt _ _ (ne_of h1 hb (by intro z; cases z)) h1⟩, tup h2, tup h3⟩
  have lst : ∀ {c xs}, c ∈ A.lists D → H c = some (.lst xs) → (upd H b (.lst ys)) c = some (.lst xs) := fun {c xs} hc h => bt _ _ (fun z => n3 (z ▸ hc)) h
  have m1 : A.tb ∈ A.lists D := by simp [LA.lists]
  have m2 : A.rooms ∈ A.lists D := by simp [LA.lists]
  have m3 : A.r1 ∈ A.lists D := by simp [LA.lists]
  have m4 : D.ca ∈ A.lists D := by simp [LA.lists]
  have m5 : D.cs ∈ A.lists D := by simp [LA.lists]
  exact ⟨s.sysBut h1 h2 bt, s.f, s.wl, s.wc, vw s.vt, vw s.vs, vw s.vw, tup s.la, tup s.lsa, lst m4 s.ca, lst m5 s.cs, lst m1 s.tb, tup s.t0, tup s.t1, tup s.t2, lst m2 s.rooms, bt _ _ n2.symm s.r0, lst m3 s.r1, s.rl, s.pu.keep fun o h => bt _ _ n1.symm h, s.tbsBut hb bt, s.off, s.npr, s.np, s.nr⟩
theorem St.tgt (s : St K H A D d e k R) : Tgt K H D.t d e D.L D.b D.st := ⟨s.sy, s.vt, s.f.hL.okl, s.f.st, s.f.inj, s.f.w, s.f.n2⟩
theorem St.src0 (s : St K H A D d e k R) : Src K H D.t d.a d.ns D.L D.b D.st := ⟨s.vt, ⟨_, _, _, _, _, _, _, s.sy.r0⟩, s.f.st, s.f.hL.okl, s.f.w, s.f.n2⟩
theorem St.src1 (s : St K H A D d e k R) : Src K H D.s d.a d.ns D.ls D.sb D.ss := ⟨s.vs, ⟨_, _, _, _, _, _, _, s.sy.r0⟩, s.f.ss, s.f.hl.okl, s.f.ws, s.f.n2⟩
theorem St.src2 (s : St K H A D d e k R) : Src K H A.w e.a e.ns D.ls A.wb A.wss := ⟨s.vw, ⟨_, _, _, _, _, _, _, s.sy.r1⟩, s.wl, s.f.hl.okl, by rw [s.wc, ← s.sy.ln]; exact s.f.ws, by rw [← s.sy.ln]; exact s.f.n2⟩
def tAt (A : LA) : Nat → Addr
  | 0 => A.t0
  | 1 => A.t1
  | _ => A.t2
theorem tAt_at {A : LA} {j : Nat} (h : j < 3) : [V.ref A.t0, .ref A.t1, .ref A.t2][j]? = some (.ref (tAt A j)) := by
  match j, h with
  | 0, _ => rfl
  | 1, _ => rfl
  | 2, _ => rfl
/-- a row of the law's tables -/
structure Ent (K : PySem.W.Frag) (H : Hp) (A : LA) (D : LD) (t : Addr) (S : SD) (la ca rl : Addr) (wh : Nat) : Prop where
  tup : H t = some (.tup [.ref S.v, .int (wh : Int), .ref la, .ref ca])
  src : SrcD K H S
  la : H la = some (.tup (tn S.ls))
  ca : H ca = some (.lst (ti (cells S.ls S.b S.ss)))
  rs : [V.ref A.r0, V.ref A.r1][wh]? = some (.ref rl)
  rl : H rl = some (.lst (ti S.ns))
  len : Len S.ls
  fit : Fit S.ls D.L
  ls : S.ls = D.L ∨ S.ls = D.ls
theorem fit_refl (L : List Nat) : Fit L L := ⟨Nat.le_refl _, fun i x l h1 h2 => by rw [h1] at h2; exact .inl (Option.some.inj h2)⟩
theorem St.ent (s : St K H A D d e k d.ns) {j : Nat} (h : j < 3) : ∃ S la ca rl wh, Ent K H A D (tAt A j) S la ca rl wh := by
  match j, h with
  | 0, _ => exact ⟨⟨D.t, d.a, d.ns, D.L, D.b, D.st⟩, D.la, D.ca, A.r0, 0, s.t0, s.src0, s.la, s.ca, rfl, s.r0, s.f.hL, fit_refl _, .inl rfl⟩
  | 1, _ => exact ⟨⟨D.s, d.a, d.ns, D.ls, D.sb, D.ss⟩, D.lsa, D.cs, A.r0, 0, s.t1, s.src1, s.lsa, s.cs, rfl, s.r0, s.f.hl, s.f.fit, .inr rfl⟩
  | 2, _ => exact ⟨⟨A.w, e.a, e.ns, D.ls, A.wb, A.wss⟩, D.lsa, D.cs, A.r1, 1, s.t2, s.src2, s.lsa, by show H D.cs = some (.lst (ti (cells D.ls A.wb A.wss))); rw [s.wc]; exact s.cs, rfl, s.r1, s.f.hl, s.f.fit, .inr rfl⟩
theorem St.entry (s : St K H A D d e k d.ns) {j : Nat} (h : j < 3) : Entry K H [.ref A.r0, .ref A.r1] (tAt A j) := by
  obtain ⟨S, la, ca, rl, wh, E⟩ := s.ent h
  exact ⟨S.v, S.r, la, ca, rl, wh, S.ns, S.ls, S.b, S.ss, E.tup, E.src, E.ca, E.rs, E.rl⟩
end
end VG
-- VgInto
set_option Elab.async false
set_option linter.all false
set_option maxRecDepth 100000
set_option maxHeartbeats 4000000
namespace VG
open PySem PySem.Spec PyProof.Rows L2 LamX NdefX
theorem Ent.same {K : PySem.W.Frag} {H H' : Hp} {B : LA} {D : LD} {t la ca rl : Addr} {S : SD} {wh : Nat} (x : Ent K H B D t S la ca rl wh) (s : Same H H') : Ent K H' B D t S la ca rl wh :=
  ⟨s _ _ x.tup, x.src.same s, s _ _ x.la, s _ _ x.ca, x.rs, s _ _ x.rl, x.len, x.fit, x.ls⟩
theorem Ent.ext {K : PySem.W.Frag} {H H' : Hp} {B : LA} {D : LD} {t la ca rl : Addr} {S : SD} {wh : Nat} (x : Ent K H B D t S la ca rl wh) (s : Ext H H') : Ent K H' B D t S la ca rl wh :=
  ⟨s.n _ _ x.tup (fun _ z => by cases z), x.src.ext s, s.n _ _ x.la (fun _ z => by cases z), s.n _ _ x.ca (fun _ z => by cases z), x.rs, s.n _ _ x.rl (fun _ z => by cases z), x.len, x.fit, x.ls⟩
/-- common sides of two rows of the tables -/
theorem common {L ls l1 l2 : List Nat} (f : Fit ls L) (h1 : l1 = L ∨ l1 = ls) (h2 : l2 = L ∨ l2 = ls) : ∃ L', (L' = l1 ∨ L' = l2) ∧ Fit l1 L' ∧ Fit l2 L' ∧ Fit L' L ∧ (L' = L ∨ L' = ls) := by
  rcases h1 with rfl | rfl
  · refine ⟨l1, .inl rfl, fit_refl _, ?_, fit_refl _, .inl rfl⟩
    rcases h2 with rfl | rfl
    · exact fit_refl _
    · exact f
  · rcases h2 with rfl | rfl
    · exact ⟨l2, .inr rfl, f, fit_refl _, fit_refl _, .inl rfl⟩
    · exact ⟨l2, .inl rfl, fit_refl _, fit_refl _, f, .inr rfl⟩
theorem tog_wide {LT L : List Nat} {f : List Int → Int} {Ds : List SD} (h1 : ∀ S ∈ Ds, Fit S.ls L) (h2 : Fit L LT) : wideN LT L (togOut f L Ds) = outN (sz LT) f (Ds.map fun S => wideN LT S.ls S.row) := by
  unfold togOut
  rw [wideN_out h2 (fun r hr => by obtain ⟨S, _, rfl⟩ := List.mem_map.mp hr; exact wideN_len _ _ _), List.map_map]
  congr 1
  exact List.map_congr_left fun S hS => wideN_wideN (h1 S hS) h2
theorem outN_at {n i : Nat} {f : List Int → Int} {rows : List (List Int)} (h : i < n) : (outN n f rows)[i]? = some (f (rows.map fun r => r.getD i 0)) := by
  unfold outN
  rw [List.getElem?_map, List.getElem?_range h]
  rfl
theorem getD_at {R : List Int} {i : Nat} {x : Int} (h : R[i]? = some x) : R.getD i 0 = x := by
  rw [List.getD_eq_getElem?_getD, h]; rfl
section
variable {P : Program} {w : World} {K : PySem.W.Frag} {mg : Str → Option Value} {base : Heap}
/-- together(.., into=the first view) -/
theorem into_done {H : Hp} {B : LA} {D : LD} {d e : RD} {k : Nat} {fa vl : Addr} {Ds : List SD} {L' : List Nat} {f : List Int → Int} {G : Hp → Prop} {sp : Sp} {Q : VK} {E : XK} (S : St K H B D d e k d.ns) (hvl : H vl = some (.lst (Ds.map fun X => V.ref X.v))) (hD : ∀ X ∈ Ds, SrcD K H X) (h12 : Ds.length = 1 ∨ Ds.length = 2)
    (hL : L' ∈ Ds.map (·.ls)) (hfit : ∀ X ∈ Ds, Fit X.ls L') (hok : Okl L') (hLL : Fit L' D.L) (hd : Deed P w K mg base 1 fa Ds.length f G sp) (hG : G H)
    (q : ∀ H' d' e', St K H' B D d' e' k d.ns → Fr2 B d e d' e' H H' → d'.ns = wr d.ns D.C (outN (sz D.L) f (Ds.map fun X => wideN D.L X.ls X.row)) → Q (.ref D.t) H') : spTogether P w K mg base 1 [.ref fa, .ref vl, .ref D.t] H Q E := by
  refine ⟨fa, vl, .ref D.t, Ds, L', f, G, sp, rfl, hvl, hD, h12, hL, hfit, hok, hd, hG, S.tbs, .inr ⟨D.t, d, e, D.L, D.b, D.st, rfl, S.tgt, hLL, fun H' d' e' W tb' => ?_⟩⟩
  rw [tog_wide hfit hLL] at W
  obtain ⟨S2, fr⟩ := S.wrote W (by rw [wr, wr_len]) tb'
  exact q H' d' e' S2 fr W.2.1
def spLInto (K : PySem.W.Frag) : Sp := fun vs H Q _ => ∃ (B : LA) (D : LD) (d e : RD) (k : Nat), vs = [.ref B.p, .ref B.tb, .ref B.rooms] ∧ St K H B D d e k d.ns ∧ k + 3 < 100000 ∧ ∀ H' d' e', St K H' B D d' e' (k + 3) d'.ns → Fr2 B d e d' e' H H' → Q .non H'
theorem ok_l_into (T : Tx K mg) (tb : TbB K mg base) : Def P w K mg base 12 "_law_into" ["_law_purse_here", "_law_tables", "_law_rooms"] [] (spLInto K) := by
  obtain ⟨fd, F⟩ := f_l_into T
  have hp : (("_law_into", none) : He.Defn) ∈ tf := by decide +kernel
  refine ⟨⟨_, fd, [], fn_okC (k := 11) (p := ("_law_into", none)) F sc_l_into (fun vs H Q E h => ?_) (fun cdv A outer s H vs Q E hcd hr h => ?_), g_l_into T, F.kp, F.bindsN (fun _ _ _ _ _ _ us hl => match us, hl with | [_, _, _], _ => rfl), .nil⟩⟩
  · obtain ⟨B, D, d, e, k, rfl, _⟩ := h; rfl
  · obtain ⟨B, D, d, e, k, rfl, S0, hk, q⟩ := h
    subst hcd
    refine ⟨_, (pss_cons (ps_par (i := 3) (j := 4) (by rfl) sc_l_into.nd rfl rfl (by decide) rfl rfl (pa_cons (pe_ix (ix_K (K := K) rfl) (pv 1) pe_int (fun _ _ => rfl)) (pa_cons (pe_fK (K := K) (P := P) (w := w) (mg := mg) (base := base) ((ok_l_take T).mono (by omega)) rfl rfl rfl rfl rfl hr (by rfl) (pa_cons (pv 0) (pa_cons pe_int pa_nil))) pa_nil)) (by rfl))
    (pss_cons (ps_set (i := 5) sc_l_into.nd rfl (Or.inl rfl) (pe_ix (ix_K (K := K) rfl) (pv 1) (pe_fK (K := K) (P := P) (w := w) (mg := mg) (base := base) ((ok_l_take T).mono (by omega)) rfl rfl rfl rfl rfl hr (by rfl) (pa_cons (pv 0) (pa_cons (pe_callB (call_lenK (K := K) rfl) (by rfl) (z_len T) (by decide +kernel) (pa_cons (pv 1) pa_nil)) pa_nil))) (fun _ _ => rfl)))
    (pss_cons (ps_set (i := 6) sc_l_into.nd rfl (Or.inl rfl) (pe_ix (ix_K (K := K) rfl) (pv 1) (pe_fK (K := K) (P := P) (w := w) (mg := mg) (base := base) ((ok_l_take T).mono (by omega)) rfl rfl rfl rfl rfl hr (by rfl) (pa_cons (pv 0) (pa_cons (pe_callB (call_lenK (K := K) rfl) (by rfl) (z_len T) (by decide +kernel) (pa_cons (pv 1) pa_nil)) pa_nil))) (fun _ _ => rfl)))
    (pss_cons (ps_par (i := 7) (j := 8) (by rfl) sc_l_into.nd rfl rfl (by decide) rfl rfl (pa_cons (pe_fK (K := K) (P := P) (w := w) (mg := mg) (base := base) ((ok_l_read T).mono (by omega)) rfl rfl rfl rfl rfl hr (by rfl) (pa_cons (pv 5) (pa_cons (pv 2) (pa_cons (pe_ix (ix_K (K := K) rfl) (pv 3) pe_int (fun _ _ => rfl)) pa_nil)))) (pa_cons (pe_fK (K := K) (P := P) (w := w) (mg := mg) (base := base) ((ok_l_read T).mono (by omega)) rfl rfl rfl rfl rfl hr (by rfl) (pa_cons (pv 6) (pa_cons (pv 2) (pa_cons (pe_ix (ix_K (K := K) rfl) (pv 3) pe_int (fun _ _ => rfl)) pa_nil)))) pa_nil)) (by rfl))
    (C8.pss_cut (ps_if (pt_cmpR op_eq (pv 4) pe_int (nomark _)) (pss_cons (ps_expr (pe_fKW (K := K) (P := P) (w := w) (mg := mg) (base := base) ((okw_together T 1 tb).mono (show 1 + 9 ≤ 11 by omega)) rfl rfl rfl rfl rfl hr (by rfl) (pa_cons (pe_lam (Ps := PsT K) (nm := nmL) (tb _ hp) rfl (List.mem_map.mpr ⟨_, hp, rfl⟩) (by kernel_rfl) (ndef_free (sc := defScope s_l_into) (fr := []) (by decide +kernel))) (pa_cons (pe_lst (pa_cons (pe_ix (ix_K (K := K) rfl) (pv 5) pe_int (fun _ _ => rfl)) pa_nil)) pa_nil)) (pk_cons (pe_ix (ix_K (K := K) rfl) (pv 3) pe_int (fun _ _ => rfl)) pk_nil)))
    (pss_one (ps_setLc (i := 9) (own := [("_law_a", 10)]) (tt := tYes) rfl sc_l_into.nd rfl rfl (sw_true rfl rfl rfl (by decide +kernel)) (pi_listK (K := K) rfl (pv 7)) (blkOk_by (own := [("_law_a", 10)]) (sc := defScope s_l_into) (N := n_l_into) (by decide +kernel)) (fun _ _ _ _ _ => (pg_name (i := 10) sc_l_into.nd rfl (by first | exact Or.inl rfl | exact Or.inr rfl))) (fun _ _ _ _ _ => pts_nil) (fun _ _ _ _ _ => (pe_op op_sub (pe_op op_mod (pv 10) pe_int) pe_int))))) (pss_one (ps_if (pt_cmpR op_eq (pv 4) pe_int (nomark _)) (pss_cons (ps_expr (pe_fKW (K := K) (P := P) (w := w) (mg := mg) (base := base) ((okw_together T 1 tb).mono (show 1 + 9 ≤ 11 by omega)) rfl rfl rfl rfl rfl hr (by rfl) (pa_cons (pe_lam (Ps := PsT K) (nm := nmL) (tb _ hp) rfl (List.mem_map.mpr ⟨_, hp, rfl⟩) (by kernel_rfl) (ndef_free (sc := defScope s_l_into) (fr := []) (by decide +kernel))) (pa_cons (pe_lst (pa_cons (pe_ix (ix_K (K := K) rfl) (pv 5) pe_int (fun _ _ => rfl)) (pa_cons (pe_ix (ix_K (K := K) rfl) (pv 6) pe_int (fun _ _ => rfl)) pa_nil))) pa_nil)) (pk_cons (pe_ix (ix_K (K := K) rfl) (pv 3) pe_int (fun _ _ => rfl)) pk_nil)))
    (pss_one (ps_setLc (i := 9) (own := [("_law_a", 10), ("_law_b", 11)]) (tt := tYes) rfl sc_l_into.nd rfl rfl (sw_true rfl rfl rfl (by decide +kernel)) (pi_zipK (K := K) rfl (by rfl) (z_zip T) (pa_cons (pv 7) (pa_cons (pv 8) pa_nil))) (blkOk_by (own := [("_law_a", 10), ("_law_b", 11)]) (sc := defScope s_l_into) (N := n_l_into) (by decide +kernel)) (fun _ _ _ _ _ => (pg_tupK (K := K) (n := 2) rfl rfl (pgs_cons (pg_name (i := 10) sc_l_into.nd rfl (by first | exact Or.inl rfl | exact Or.inr rfl)) (pgs_cons (pg_name (i := 11) sc_l_into.nd rfl (by first | exact Or.inl rfl | exact Or.inr rfl)) pgs_nil)))) (fun _ _ _ _ _ => pts_nil) (fun _ _ _ _ _ => (pe_op op_mod (pe_op op_add (pv 10) (pv 11)) (pe_op op_pow pe_int pe_int)))))) (pss_one (ps_if (pt_cmpR op_eq (pv 4) pe_int (nomark _)) (pss_cons (ps_expr (pe_fKW (K := K) (P := P) (w := w) (mg := mg) (base := base) ((okw_together T 1 tb).mono (show 1 + 9 ≤ 11 by omega)) rfl rfl rfl rfl rfl hr (by rfl) (pa_cons (pe_lam (Ps := PsT K) (nm := nmL) (tb _ hp) rfl (List.mem_map.mpr ⟨_, hp, rfl⟩) (by kernel_rfl) (ndef_free (sc := defScope s_l_into) (fr := []) (by decide +kernel))) (pa_cons (pe_lst (pa_cons (pe_ix (ix_K (K := K) rfl) (pv 5) pe_int (fun _ _ => rfl)) (pa_cons (pe_ix (ix_K (K := K) rfl) (pv 6) pe_int (fun _ _ => rfl)) pa_nil))) pa_nil)) (pk_cons (pe_ix (ix_K (K := K) rfl) (pv 3) pe_int (fun _ _ => rfl)) pk_nil)))
    (pss_one (ps_setLc (i := 9) (own := [("_law_a", 10), ("_law_b", 11)]) (tt := tYes) rfl sc_l_into.nd rfl rfl (sw_true rfl rfl rfl (by decide +kernel)) (pi_zipK (K := K) rfl (by rfl) (z_zip T) (pa_cons (pv 7) (pa_cons (pv 8) pa_nil))) (blkOk_by (own := [("_law_a", 10), ("_law_b", 11)]) (sc := defScope s_l_into) (N := n_l_into) (by decide +kernel)) (fun _ _ _ _ _ => (pg_tupK (K := K) (n := 2) rfl rfl (pgs_cons (pg_name (i := 10) sc_l_into.nd rfl (by first | exact Or.inl rfl | exact Or.inr rfl)) (pgs_cons (pg_name (i := 11) sc_l_into.nd rfl (by first | exact Or.inl rfl | exact Or.inr rfl)) pgs_nil)))) (fun _ _ _ _ _ => pts_nil) (fun _ _ _ _ _ => (pe_callB (call_max2 rfl) (by rfl) (z_max T) (by decide +kernel) (pa_cons (pv 10) (pa_cons (pv 11) pa_nil))))))) (pss_cons (ps_set (i := 12) sc_l_into.nd rfl (Or.inl rfl) (pe_fK (K := K) (P := P) (w := w) (mg := mg) (base := base) ((ok_together T 1 tb).mono (show 1 + 9 ≤ 11 by omega)) rfl rfl rfl rfl rfl hr (by rfl) (pa_cons (pe_lam (Ps := PsT K) (nm := nmL) (tb _ hp) rfl (List.mem_map.mpr ⟨_, hp, rfl⟩) (by kernel_rfl) (ndef_free (sc := defScope s_l_into) (fr := []) (by decide +kernel))) (pa_cons (pe_lst (pa_cons (pe_ix (ix_K (K := K) rfl) (pv 6) pe_int (fun _ _ => rfl)) (pa_cons (pe_ix (ix_K (K := K) rfl) (pv 5) pe_int (fun _ _ => rfl)) pa_nil))) pa_nil))))
    (pss_cons (ps_expr (pe_fK (K := K) (P := P) (w := w) (mg := mg) (base := base) ((ok_written T).mono (by omega)) rfl rfl rfl rfl rfl hr (by rfl) (pa_cons (pe_ix (ix_K (K := K) rfl) (pv 3) pe_int (fun _ _ => rfl)) (pa_cons (pv 12) pa_nil))))
    (pss_one (ps_setLc (i := 9) (own := [("_law_a", 10), ("_law_b", 11)]) (tt := tYes) rfl sc_l_into.nd rfl rfl (sw_true rfl rfl rfl (by decide +kernel)) (pi_zipK (K := K) rfl (by rfl) (z_zip T) (pa_cons (pv 7) (pa_cons (pv 8) pa_nil))) (blkOk_by (own := [("_law_a", 10), ("_law_b", 11)]) (sc := defScope s_l_into) (N := n_l_into) (by decide +kernel)) (fun _ _ _ _ _ => (pg_tupK (K := K) (n := 2) rfl rfl (pgs_cons (pg_name (i := 10) sc_l_into.nd rfl (by first | exact Or.inl rfl | exact Or.inr rfl)) (pgs_cons (pg_name (i := 11) sc_l_into.nd rfl (by first | exact Or.inl rfl | exact Or.inr rfl)) pgs_nil)))) (fun _ _ _ _ _ => pts_nil) (fun _ _ _ _ _ => (pe_op op_sub (pv 11) (pv 10))))))))))))
    (pss_one (ps_for PassesOwn.never rfl (pi_zipK (K := K) rfl (by rfl) (z_zip T) (pa_cons (pe_ix (ix_K (K := K) rfl) (pv 3) pe_int (fun _ _ => rfl)) (pa_cons (pv 9) pa_nil))) (pg_tupK (K := K) (n := 2) rfl rfl (pgs_cons (pg_name (i := 13) sc_l_into.nd rfl (Or.inl rfl)) (pgs_cons (pg_name (i := 14) sc_l_into.nd rfl (Or.inl rfl)) pgs_nil)))
    (pss_one (ps_asg (pv 14) (pg_sub (pe_ix (ix_K (K := K) rfl) (pv 2) (pe_ix (ix_K (K := K) rfl) (pv 3) pe_int (fun _ _ => rfl)) (fun _ _ => rfl)) (pv 13) set_list)))))))))), ?_⟩
    refine ⟨_, rfl, q_ixL (i := 0) (SqL.of S0.tb) rfl ?_⟩
    refine q_take (m := 4) rfl S0.pu (by decide) (by decide) (by omega) fun way H1 hway b1 pu1 => ⟨_, _, rfl, ?_⟩
    obtain ⟨S1, fr1⟩ := S0.take b1 pu1
    have m110 : ((3 : Nat) : Int).natAbs < 2 ^ 110 := by decide
    refine ⟨_, rfl, _, rfl, _, rfl, B.tb, _, rfl, .inl (SqL.of S1.tb), B.p, ((3 : Nat) : Int), _, rfl, S1.pu, by omega, m110, by omega, fun j1 H2 hj1 b2 pu2 => ?_⟩
    have hj1 : j1 < 3 := by omega
    obtain ⟨S2, fr2⟩ := S1.take b2 pu2
    refine q_ixL (i := j1) (SqL.of S2.tb) (tAt_at hj1) ?_
    refine ⟨_, rfl, _, rfl, _, rfl, B.tb, _, rfl, .inl (SqL.of S2.tb), B.p, ((3 : Nat) : Int), _, rfl, S2.pu, by omega, m110, by omega, fun j2 H3 hj2 b3 pu3 => ?_⟩
    have hj2 : j2 < 3 := by omega
    obtain ⟨S3, fr3⟩ := S2.take b3 pu3
    refine q_ixL (i := j2) (SqL.of S3.tb) (tAt_at hj2) ?_
    obtain ⟨Sa, la1, ca1, rl1, wh1, E1⟩ := S3.ent hj1
    obtain ⟨Sb, la2, ca2, rl2, wh2, E2⟩ := S3.ent hj2
    have hLL := S3.f.hL
    refine ⟨_, rfl, _, rfl, _, rfl, q_ixT (i := 2) S3.t0 rfl ⟨tAt B j1, B.rooms, D.la, Sa.v, la1, ca1, rl1, wh1, _, D.L, Sa.ls, cells Sa.ls Sa.b Sa.ss, Sa.ns, rfl, E1.tup, S3.rooms, E1.rs, E1.rl, S3.la, E1.la, E1.ca, hLL, E1.len, E1.fit, cells_len _ _ _, E1.src.wi, fun al H4 s4 hal0 hal => ?_⟩⟩
    obtain ⟨S4, fr4⟩ := S3.same s4
    have E1 := E1.same s4
    have E2 := E2.same s4
    refine ⟨_, rfl, _, rfl, _, rfl, q_ixT (i := 2) S4.t0 rfl ⟨tAt B j2, B.rooms, D.la, Sb.v, la2, ca2, rl2, wh2, _, D.L, Sb.ls, cells Sb.ls Sb.b Sb.ss, Sb.ns, rfl, E2.tup, S4.rooms, E2.rs, E2.rl, S4.la, E2.la, E2.ca, hLL, E2.len, E2.fit, cells_len _ _ _, E2.src.wi, fun bl H5 s5 hbl0 hbl => ⟨_, _, rfl, ?_⟩⟩⟩
    obtain ⟨S5, fr5⟩ := S4.same s5
    have E1 := E1.same s5
    have E2 := E2.same s5
    have hal5 := s5 _ _ hal
    have fr05 : Fr2 B d e d e H H5 := (((fr1.trans fr2).trans fr3).trans fr4).trans fr5
    have nal : al ≠ B.p ∧ al ≠ B.r0 ∧ ¬ d.ft al ∧ bl ≠ B.p ∧ bl ≠ B.r0 ∧ ¬ d.ft bl := by
      obtain ⟨xs, hp3⟩ := S3.pu.some
      obtain ⟨ys, hp4⟩ := S4.pu.some
      exact ⟨(ne_of_none hp3 hal0).symm, (ne_of_none S3.r0 hal0).symm, fun f => (by obtain ⟨o, h, _⟩ := foot_at S3.sy.r0 f; rw [hal0] at h; cases h), (ne_of_none hp4 hbl0).symm, (ne_of_none S4.r0 hbl0).symm, fun f => (by obtain ⟨o, h, _⟩ := foot_at S4.sy.r0 f; rw [hbl0] at h; cases h)⟩
    obtain ⟨nal1, nal2, nal3, nbl1, nbl2, nbl3⟩ := nal
    generalize hk3 : k + 1 + 1 + 1 = k3 at S5
    obtain ⟨ar, har⟩ : ∃ ar, ar = wideN D.L Sa.ls Sa.row := ⟨_, rfl⟩
    obtain ⟨br, hbr⟩ : ∃ br, br = wideN D.L Sb.ls Sb.row := ⟨_, rfl⟩
    have hal5 : H5 al = some (.lst (ti ar)) := by rw [har]; exact hal5
    have hbl : H5 bl = some (.lst (ti br)) := by rw [hbr]; exact hbl
    have har2 : ar.length = sz D.L := by rw [har]; exact wideN_len _ _ _
    have hbr2 : br.length = sz D.L := by rw [hbr]; exact wideN_len _ _ _
    have h600 := hLL.okl.size
    refine ⟨fun σ H' => ∃ (d' e' : RD) (dl : Addr) (due : List Int) (u10 u11 u12 : Option V), St K H' B D d' e' k3 d.ns ∧ Fr2 B d e d' e' H H' ∧ d'.ns = wr d.ns D.C due ∧ due.length = sz D.L ∧ H' dl = some (.lst (ti due)) ∧ dl ≠ B.r0 ∧ σ = [some (.ref B.p), some (.ref B.tb), some (.ref B.rooms), some (.ref B.t0), some (.int (way : Int)), some (.ref (tAt B j1)), some (.ref (tAt B j2)), some (.ref al), some (.ref bl), some (.ref dl), u10, u11, u12, none, none], ?_, ?_⟩
    · refine ⟨_, rfl, rfl, _, rfl, ite2 (fun z => ?_) fun z => ?_⟩
      · refine ⟨S5.tbs, fun f c' H6 eN nn tb6 f0 hf6 hc6 => ?_⟩
        have x6 : Ext H5 H6 := ⟨eN, nn⟩
        obtain ⟨S6, fr6⟩ := S5.ext x6 tb6
        have E1 := E1.ext x6
        have E2 := E2.ext x6
        have hal6 := eN _ _ hal5 (fun _ z => by cases z)
        have hbl6 := eN _ _ hbl (fun _ z => by cases z)
        obtain ⟨qz, oz, g0⟩ : ∃ q c, LamG f (FL q s_lam_l_into0 [] c) (lamBody s_lam_l_into0) [] [] H6 := ⟨_, _, lamG_of hf6 hc6 capH_nil⟩
        have dd := deed_of (act_into0 (P := P) (w := w) (K := K) (mg := mg) (base := base) (q := qz) (c := oz) (f := f))
        refine ⟨_, rfl, q_ixT (i := 0) E1.tup rfl ⟨sz_ok (by show 1 ≤ 100000; decide), fun vl hvl => ?_⟩⟩
        have s7 : Same H6 (upd H6 vl (.lst [.ref Sa.v])) := Same.new hvl
        have hvl7 : (upd H6 vl (.lst [.ref Sa.v])) vl = some (.lst [.ref Sa.v]) := upd_same
        obtain ⟨S7, fr7⟩ := S6.same s7
        have E1 := E1.same s7
        have E2 := E2.same s7
        have hal7 := s7 _ _ hal6
        have hbl7 := s7 _ _ hbl6
        have g7 := dd.stay _ _ g0 fun a φ h => s7 _ _ h
        generalize upd H6 vl (.lst [.ref Sa.v]) = H7 at s7 hvl7 S7 fr7 E1 E2 hal7 hbl7 g7
        have hok : Okl Sa.ls := E1.len.okl
        have hLf := E1.fit
        have hL' : Sa.ls ∈ [Sa].map (·.ls) := by simp
        have hfit : ∀ X ∈ [Sa], Fit X.ls Sa.ls := fun X hX => by rw [List.mem_singleton.mp hX]; exact fit_refl _
        have hDs : ∀ X ∈ [Sa], SrcD K H7 X := fun X hX => by rw [List.mem_singleton.mp hX]; exact E1.src
        generalize hL'' : Sa.ls = L' at hok hLf hL' hfit
        refine ⟨_, rfl, q_ixT (i := 0) S7.t0 rfl ⟨rfl, rfl, ?_⟩⟩
        refine into_done (Ds := [Sa]) (L' := L') S7 hvl7 hDs (by simp) hL' hfit hok hLf dd g7 fun H8 d' e' S8 fr8 hdn => ?_
        have hal8 := fr8.keep _ _ hal7 nal1 nal2 nal3 (fun _ z => by cases z)
        have hbl8 := fr8.keep _ _ hbl7 nbl1 nbl2 nbl3 (fun _ z => by cases z)
        have hdn2 : d'.ns = wr d.ns D.C (outN (sz D.L) lf0 [ar]) := by rw [hdn, har]; rfl
        refine ⟨_, rfl, al, rfl, ⟨_, SqL.of hal8⟩, fun Dd hDd => ?_⟩
        refine lc_new walk_ti (by omega) hDd (fun i y _ => ∃ k : Int, (outN (sz D.L) lf0 [ar])[i]? = some k ∧ y = .int k) (fun H9 s9 => SqL.of (s9 _ _ hal8)) (fun _ _ _ _ _ h => h) ?_ ?_
        · rintro i x H9 H10 Kt hi s9 hacc ⟨rfl, a, ha, rfl⟩ kt
          refine ⟨rfl, _, rfl, _, _, rfl, rfl, (by show (0 : Int) < 10007; decide), _, _, rfl, rfl, kt _ _ (Same.refl _) ⟨_, outN_at (by omega), ?_⟩⟩
          rw [List.map_cons, List.map_nil, getD_at ha]
          rfl
        · intro ys H9 s9 hD9 hy hR
          have e := ys_ti (p := outN (sz D.L) lf0 [ar]) (by rw [hy, outN_len, har2]) hR
          subst e
          obtain ⟨S9, fr9⟩ := S8.same s9
          exact ⟨d', e', Dd, _, _, _, _, S9, ((((fr05.trans fr6).trans fr7).trans fr8).trans fr9), hdn2, outN_len _ _ _, hD9, (ne_of_none S8.r0 hDd).symm, rfl⟩
      · refine ⟨_, rfl, rfl, _, rfl, ite2 (fun z => ?_) fun z => ?_⟩
        · refine ⟨S5.tbs, fun f c' H6 eN nn tb6 f0 hf6 hc6 => ?_⟩
          have x6 : Ext H5 H6 := ⟨eN, nn⟩
          obtain ⟨S6, fr6⟩ := S5.ext x6 tb6
          have E1 := E1.ext x6
          have E2 := E2.ext x6
          have hal6 := eN _ _ hal5 (fun _ z => by cases z)
          have hbl6 := eN _ _ hbl (fun _ z => by cases z)
          obtain ⟨qz, oz, g0⟩ : ∃ q c, LamG f (FL q s_lam_l_into1 [] c) (lamBody s_lam_l_into1) [] [] H6 := ⟨_, _, lamG_of hf6 hc6 capH_nil⟩
          have dd := deed_of (act_into1 (P := P) (w := w) (K := K) (mg := mg) (base := base) (q := qz) (c := oz) (f := f))
          refine ⟨_, rfl, q_ixT (i := 0) E1.tup rfl ⟨_, rfl, q_ixT (i := 0) E2.tup rfl ⟨sz_ok (by show 2 ≤ 100000; decide), fun vl hvl => ?_⟩⟩⟩
          have s7 : Same H6 (upd H6 vl (.lst [.ref Sa.v, .ref Sb.v])) := Same.new hvl
          have hvl7 : (upd H6 vl (.lst [.ref Sa.v, .ref Sb.v])) vl = some (.lst [.ref Sa.v, .ref Sb.v]) := upd_same
          obtain ⟨S7, fr7⟩ := S6.same s7
          have E1 := E1.same s7
          have E2 := E2.same s7
          have hal7 := s7 _ _ hal6
          have hbl7 := s7 _ _ hbl6
          have g7 := dd.stay _ _ g0 fun a φ h => s7 _ _ h
          generalize upd H6 vl (.lst [.ref Sa.v, .ref Sb.v]) = H7 at s7 hvl7 S7 fr7 E1 E2 hal7 hbl7 g7
          obtain ⟨L', hc1, hc2, hc3, hLf, hc4⟩ := common S5.f.fit E1.ls E2.ls
          have hok : Okl L' := by rcases hc4 with rfl | rfl; exact S5.f.hL.okl; exact S5.f.hl.okl
          have hL' : L' ∈ [Sa, Sb].map (·.ls) := by rcases hc1 with rfl | rfl <;> simp
          have hfit : ∀ X ∈ [Sa, Sb], Fit X.ls L' := fun X hX => by
            simp only [List.mem_cons, List.mem_nil_iff, or_false] at hX
            rcases hX with rfl | rfl <;> assumption
          have hDs : ∀ X ∈ [Sa, Sb], SrcD K H7 X := fun X hX => by
            simp only [List.mem_cons, List.mem_nil_iff, or_false] at hX
            rcases hX with rfl | rfl
            · exact E1.src
            · exact E2.src
          refine ⟨_, rfl, q_ixT (i := 0) S7.t0 rfl ⟨rfl, rfl, ?_⟩⟩
          refine into_done (Ds := [Sa, Sb]) (L' := L') S7 hvl7 hDs (by simp) hL' hfit hok hLf dd g7 fun H8 d' e' S8 fr8 hdn => ?_
          have hal8 := fr8.keep _ _ hal7 nal1 nal2 nal3 (fun _ z => by cases z)
          have hbl8 := fr8.keep _ _ hbl7 nbl1 nbl2 nbl3 (fun _ z => by cases z)
          have hdn2 : d'.ns = wr d.ns D.C (outN (sz D.L) lf1 [ar, br]) := by rw [hdn, har, hbr]; rfl
          refine ⟨_, rfl, _, rfl, al, bl, ti ar, ti br, rfl, .inl ⟨SqL.of hal8, SqL.of hbl8, fun Dd hDd => ?_⟩⟩
          refine lc_new (walk_zipL (n := sz D.L) (by rw [ti_len, har2]) (by rw [ti_len, hbr2])) (by omega) hDd (fun i y _ => ∃ k : Int, (outN (sz D.L) lf1 [ar, br])[i]? = some k ∧ y = .int k) (fun H9 s9 => ⟨SqL.of (s9 _ _ hal8), SqL.of (s9 _ _ hbl8)⟩) (fun _ _ _ _ _ h => h) ?_ ?_
          · rintro i x H9 H10 Kt hi s9 hacc ⟨T1, x1, y1, rfl, hT, rfl, e1, e2⟩ kt
            obtain ⟨a, ha, rfl⟩ := ti_at e1
            obtain ⟨b, hb, rfl⟩ := ti_at e2
            refine ⟨T1, _, rfl, SqT.of upd_same, rfl, _, _, rfl, _, _, rfl, rfl, rfl, _, rfl, _, rfl, _, _, rfl, rfl, _, _, rfl, rfl, ⟨by decide, by decide, by decide⟩, _, _, rfl, rfl, (by show (0 : Int) < 10 ^ (9 : Int).toNat; decide), kt _ _ (Same.new hT) ⟨_, outN_at hi, ?_⟩⟩
            rw [List.map_cons, List.map_cons, List.map_nil, getD_at ha, getD_at hb]
            rfl
          · intro ys H9 s9 hD9 hy hR
            have e := ys_ti (p := outN (sz D.L) lf1 [ar, br]) (by rw [hy, outN_len]) hR
            subst e
            obtain ⟨S9, fr9⟩ := S8.same s9
            exact ⟨d', e', Dd, _, _, _, _, S9, ((((fr05.trans fr6).trans fr7).trans fr8).trans fr9), hdn2, outN_len _ _ _, hD9, (ne_of_none S8.r0 hDd).symm, rfl⟩
        · refine ⟨_, rfl, rfl, _, rfl, ite2 (fun z => ?_) fun z => ?_⟩
          · refine ⟨S5.tbs, fun f c' H6 eN nn tb6 f0 hf6 hc6 => ?_⟩
            have x6 : Ext H5 H6 := ⟨eN, nn⟩
            obtain ⟨S6, fr6⟩ := S5.ext x6 tb6
            have E1 := E1.ext x6
            have E2 := E2.ext x6
            have hal6 := eN _ _ hal5 (fun _ z => by cases z)
            have hbl6 := eN _ _ hbl (fun _ z => by cases z)
            obtain ⟨qz, oz, g0⟩ : ∃ q c, LamG f (FL q s_lam_l_into2 [] c) (lamBody s_lam_l_into2) [] [] H6 := ⟨_, _, lamG_of hf6 hc6 capH_nil⟩
            have dd := deed_of (act_into2 T (P := P) (w := w) (K := K) (mg := mg) (base := base) (q := qz) (c := oz) (f := f))
            refine ⟨_, rfl, q_ixT (i := 0) E1.tup rfl ⟨_, rfl, q_ixT (i := 0) E2.tup rfl ⟨sz_ok (by show 2 ≤ 100000; decide), fun vl hvl => ?_⟩⟩⟩
            have s7 : Same H6 (upd H6 vl (.lst [.ref Sa.v, .ref Sb.v])) := Same.new hvl
            have hvl7 : (upd H6 vl (.lst [.ref Sa.v, .ref Sb.v])) vl = some (.lst [.ref Sa.v, .ref Sb.v]) := upd_same
            obtain ⟨S7, fr7⟩ := S6.same s7
            have E1 := E1.same s7
            have E2 := E2.same s7
            have hal7 := s7 _ _ hal6
            have hbl7 := s7 _ _ hbl6
            have g7 := dd.stay _ _ g0 fun a φ h => s7 _ _ h
            generalize upd H6 vl (.lst [.ref Sa.v, .ref Sb.v]) = H7 at s7 hvl7 S7 fr7 E1 E2 hal7 hbl7 g7
            obtain ⟨L', hc1, hc2, hc3, hLf, hc4⟩ := common S5.f.fit E1.ls E2.ls
            have hok : Okl L' := by rcases hc4 with rfl | rfl; exact S5.f.hL.okl; exact S5.f.hl.okl
            have hL' : L' ∈ [Sa, Sb].map (·.ls) := by rcases hc1 with rfl | rfl <;> simp
            have hfit : ∀ X ∈ [Sa, Sb], Fit X.ls L' := fun X hX => by
              simp only [List.mem_cons, List.mem_nil_iff, or_false] at hX
              rcases hX with rfl | rfl <;> assumption
            have hDs : ∀ X ∈ [Sa, Sb], SrcD K H7 X := fun X hX => by
              simp only [List.mem_cons, List.mem_nil_iff, or_false] at hX
              rcases hX with rfl | rfl
              · exact E1.src
              · exact E2.src
            refine ⟨_, rfl, q_ixT (i := 0) S7.t0 rfl ⟨rfl, rfl, ?_⟩⟩
            refine into_done (Ds := [Sa, Sb]) (L' := L') S7 hvl7 hDs (by simp) hL' hfit hok hLf dd g7 fun H8 d' e' S8 fr8 hdn => ?_
            have hal8 := fr8.keep _ _ hal7 nal1 nal2 nal3 (fun _ z => by cases z)
            have hbl8 := fr8.keep _ _ hbl7 nbl1 nbl2 nbl3 (fun _ z => by cases z)
            have hdn2 : d'.ns = wr d.ns D.C (outN (sz D.L) lf2 [ar, br]) := by rw [hdn, har, hbr]; rfl
            refine ⟨_, rfl, _, rfl, al, bl, ti ar, ti br, rfl, .inl ⟨SqL.of hal8, SqL.of hbl8, fun Dd hDd => ?_⟩⟩
            refine lc_new (walk_zipL (n := sz D.L) (by rw [ti_len, har2]) (by rw [ti_len, hbr2])) (by omega) hDd (fun i y _ => ∃ k : Int, (outN (sz D.L) lf2 [ar, br])[i]? = some k ∧ y = .int k) (fun H9 s9 => ⟨SqL.of (s9 _ _ hal8), SqL.of (s9 _ _ hbl8)⟩) (fun _ _ _ _ _ h => h) ?_ ?_
            · rintro i x H9 H10 Kt hi s9 hacc ⟨T1, x1, y1, rfl, hT, rfl, e1, e2⟩ kt
              obtain ⟨a, ha, rfl⟩ := ti_at e1
              obtain ⟨b, hb, rfl⟩ := ti_at e2
              refine ⟨T1, _, rfl, SqT.of upd_same, rfl, _, _, rfl, _, _, rfl, rfl, rfl, _, rfl, _, rfl, _, _, rfl, kt _ _ (Same.new hT) ⟨_, outN_at hi, ?_⟩⟩
              rw [List.map_cons, List.map_cons, List.map_nil, getD_at ha, getD_at hb]
              rfl
            · intro ys H9 s9 hD9 hy hR
              have e := ys_ti (p := outN (sz D.L) lf2 [ar, br]) (by rw [hy, outN_len]) hR
              subst e
              obtain ⟨S9, fr9⟩ := S8.same s9
              exact ⟨d', e', Dd, _, _, _, _, S9, ((((fr05.trans fr6).trans fr7).trans fr8).trans fr9), hdn2, outN_len _ _ _, hD9, (ne_of_none S8.r0 hDd).symm, rfl⟩
          · refine ⟨S5.tbs, fun f c' H6 eN nn tb6 f0 hf6 hc6 => ?_⟩
            have x6 : Ext H5 H6 := ⟨eN, nn⟩
            obtain ⟨S6, fr6⟩ := S5.ext x6 tb6
            have E1 := E1.ext x6
            have E2 := E2.ext x6
            have hal6 := eN _ _ hal5 (fun _ z => by cases z)
            have hbl6 := eN _ _ hbl (fun _ z => by cases z)
            obtain ⟨qz, oz, g0⟩ : ∃ q c, LamG f (FL q s_lam_l_into3 [] c) (lamBody s_lam_l_into3) [] [] H6 := ⟨_, _, lamG_of hf6 hc6 capH_nil⟩
            have dd := deed_of (act_into3 (P := P) (w := w) (K := K) (mg := mg) (base := base) (q := qz) (c := oz) (f := f))
            refine ⟨_, rfl, q_ixT (i := 0) E2.tup rfl ⟨_, rfl, q_ixT (i := 0) E1.tup rfl ⟨sz_ok (by show 2 ≤ 100000; decide), fun vl hvl => ?_⟩⟩⟩
            have s7 : Same H6 (upd H6 vl (.lst [.ref Sb.v, .ref Sa.v])) := Same.new hvl
            have hvl7 : (upd H6 vl (.lst [.ref Sb.v, .ref Sa.v])) vl = some (.lst [.ref Sb.v, .ref Sa.v]) := upd_same
            obtain ⟨S7, fr7⟩ := S6.same s7
            have E1 := E1.same s7
            have E2 := E2.same s7
            have hal7 := s7 _ _ hal6
            have hbl7 := s7 _ _ hbl6
            have g7 := dd.stay _ _ g0 fun a φ h => s7 _ _ h
            generalize upd H6 vl (.lst [.ref Sb.v, .ref Sa.v]) = H7 at s7 hvl7 S7 fr7 E1 E2 hal7 hbl7 g7
            obtain ⟨L', hc1, hc2, hc3, hLf, hc4⟩ := common S5.f.fit E1.ls E2.ls
            have hok : Okl L' := by rcases hc4 with rfl | rfl; exact S5.f.hL.okl; exact S5.f.hl.okl
            have hL' : L' ∈ [Sb, Sa].map (·.ls) := by rcases hc1 with rfl | rfl <;> simp
            have hfit : ∀ X ∈ [Sb, Sa], Fit X.ls L' := fun X hX => by
              simp only [List.mem_cons, List.mem_nil_iff, or_false] at hX
              rcases hX with rfl | rfl <;> assumption
            have hDs : ∀ X ∈ [Sb, Sa], SrcD K H7 X := fun X hX => by
              simp only [List.mem_cons, List.mem_nil_iff, or_false] at hX
              rcases hX with rfl | rfl
              · exact E2.src
              · exact E1.src
            refine ⟨f, vl, .non, [Sb, Sa], L', lf3, _, _, rfl, hvl7, hDs, .inr rfl, hL', hfit, hok, dd, g7, S7.tbs, .inl ⟨rfl, fun v H8a x8 tb8 nv => ?_⟩⟩
            obtain ⟨S8a, fr8a⟩ := S7.ext x8 tb8
            obtain ⟨r, vb, vss, Gf, a1, a2, a3, a4, a5, a6⟩ := nv
            have elen : (togOut lf3 L' [Sb, Sa]).length = sz L' := outN_len _ _ _
            have hwi : Within (cells L' vb vss) (togOut lf3 L' [Sb, Sa]).length := by rw [a3, elen]; exact within_range _
            have hsm : (togOut lf3 L' [Sb, Sa]).length ≤ 20000 := by have := hok.size; omega
            refine ⟨_, rfl, q_ixT (i := 0) S8a.t0 rfl ⟨_, rfl, D.t, v, r, d, e, D.L, L', D.b, vb, D.st, vss, togOut lf3 L' [Sb, Sa], rfl, S8a.tgt, ⟨a1, a4.r, a2, hok, hwi, hsm⟩, hLf, fun H8 d' e' Wr => ?_⟩⟩
            have ep : pick (togOut lf3 L' [Sb, Sa]) (cells D.L vb (wst D.L L' vss)) = outN (sz D.L) lf3 ([Sb, Sa].map fun X => wideN D.L X.ls X.row) := by
              rw [pick_wide hLf a2, a3, ← elen, pick_range, tog_wide hfit hLf]
            rw [ep] at Wr
            obtain ⟨S8, fr8b⟩ := S8a.wrote (WroteT.of Wr) (by rw [wr, wr_len]) (tb8.wrote S8a.sy Wr)
            have hdn := Wr.2.1
            have fr8 := fr8a.trans fr8b
            have hal8 := fr8.keep _ _ hal7 nal1 nal2 nal3 (fun _ z => by cases z)
            have hbl8 := fr8.keep _ _ hbl7 nbl1 nbl2 nbl3 (fun _ z => by cases z)
            have hdn2 : d'.ns = wr d.ns D.C (outN (sz D.L) lf3 [br, ar]) := by rw [hdn, har, hbr]; rfl
            refine ⟨_, rfl, _, rfl, al, bl, ti ar, ti br, rfl, .inl ⟨SqL.of hal8, SqL.of hbl8, fun Dd hDd => ?_⟩⟩
            refine lc_new (walk_zipL (n := sz D.L) (by rw [ti_len, har2]) (by rw [ti_len, hbr2])) (by omega) hDd (fun i y _ => ∃ k : Int, (outN (sz D.L) lf3 [br, ar])[i]? = some k ∧ y = .int k) (fun H9 s9 => ⟨SqL.of (s9 _ _ hal8), SqL.of (s9 _ _ hbl8)⟩) (fun _ _ _ _ _ h => h) ?_ ?_
            · rintro i x H9 H10 Kt hi s9 hacc ⟨T1, x1, y1, rfl, hT, rfl, e1, e2⟩ kt
              obtain ⟨a, ha, rfl⟩ := ti_at e1
              obtain ⟨b, hb, rfl⟩ := ti_at e2
              refine ⟨T1, _, rfl, SqT.of upd_same, rfl, _, _, rfl, _, _, rfl, rfl, rfl, _, rfl, _, rfl, _, _, rfl, rfl, kt _ _ (Same.new hT) ⟨_, outN_at hi, ?_⟩⟩
              rw [List.map_cons, List.map_cons, List.map_nil, getD_at hb, getD_at ha]
              rfl
            · intro ys H9 s9 hD9 hy hR
              have e := ys_ti (p := outN (sz D.L) lf3 [br, ar]) (by rw [hy, outN_len]) hR
              subst e
              obtain ⟨S9, fr9⟩ := S8.same s9
              exact ⟨d', e', Dd, _, _, _, _, S9, ((((fr05.trans fr6).trans fr7).trans fr8).trans fr9), hdn2, outN_len _ _ _, hD9, (ne_of_none S8.r0 hDd).symm, rfl⟩
    · rintro σ H6 ⟨d', e', dl, due, u10, u11, u12, S6, fr6, hdn, hdl, hdue, ndl, rfl⟩
      have lC : D.C.length = sz D.L := cells_len _ _ _
      refine ⟨_, rfl, q_ixT (i := 3) S6.t0 rfl ⟨_, rfl, D.ca, dl, ti D.C, ti due, rfl, .inl ⟨SqL.of S6.ca, SqL.of hdue, ?_⟩⟩⟩
      have S6' : St K H6 B D d' e' k3 (((D.C.zip due).take 0).foldl (fun (a : List Int) q => a.set q.1.toNat q.2) d.ns) := by rw [List.take_zero]; exact S6
      refine for_itE (walk_zipL (n := sz D.L) (by rw [ti_len, lC]) (by rw [ti_len, hdl])) (fun i σ H7 => St K H7 B D d' e' k3 (((D.C.zip due).take i).foldl (fun (a : List Int) q => a.set q.1.toNat q.2) d.ns) ∧ Fr2 B d' e' d' e' H6 H7 ∧ H7 dl = some (.lst (ti due)) ∧ ∃ u10 u11 u12 u13 u14, σ = [some (.ref B.p), some (.ref B.tb), some (.ref B.rooms), some (.ref B.t0), some (.int (way : Int)), some (.ref (tAt B j1)), some (.ref (tAt B j2)), some (.ref al), some (.ref bl), some (.ref dl), u10, u11, u12, u13, u14]) ⟨S6', Fr2.refl, hdue, _, _, _, _, _, rfl⟩ (fun i σ H7 _ h => ⟨SqL.of h.1.ca, SqL.of h.2.2.1⟩) ?_ ?_
      · rintro i x σ H7 H8 hi ⟨S7, fr7, hdue7, v10, v11, v12, v13, v14, rfl⟩ ⟨T1, x1, y1, rfl, hT, rfl, e1, e2⟩
        obtain ⟨c, hc, rfl⟩ := ti_at e1
        obtain ⟨num, hnum, rfl⟩ := ti_at e2
        have hcw := S7.f.w c (List.mem_of_getElem? hc)
        obtain ⟨ci, rfl⟩ := Int.eq_ofNat_of_zero_le hcw.1
        have s8 : Same H7 (upd H7 T1 (.tup [.int (ci : Int), .int num])) := Same.new hT
        obtain ⟨S8, fr8⟩ := S7.same s8
        have hdue8 := s8 _ _ hdue7
        refine ⟨T1, _, rfl, SqT.of upd_same, rfl, _, _, rfl, _, _, rfl, rfl, ?_⟩
        refine ⟨_, rfl, _, rfl, _, rfl, q_ixT (i := 1) S8.t0 rfl (q_ixL (i := 0) (SqL.of S8.rooms) rfl ⟨_, rfl, B.r0, _, _, ci, rfl, rfl, S8.r0, ixN_n (by rw [ti_len, S8.rl]; omega), ?_⟩)⟩
        have es : ∀ R : List Int, (ti R).set ci (.int num) = ti (R.set ci num) := fun R => by unfold ti; rw [List.map_set]
        obtain ⟨S9, fr9⟩ := S8.setR (R' := (((D.C.zip due).take i).foldl (fun (a : List Int) q => a.set q.1.toNat q.2) d.ns).set ci num) (List.length_set ..)
        rw [es]
        refine ⟨?_, (fr7.trans fr8).trans fr9, (upd_ne ndl).trans hdue8, _, _, _, _, _, rfl⟩
        rw [wr_take hc hnum]
        exact S9
      · rintro σ H7 ⟨S7, fr7, hdue7, v10, v11, v12, v13, v14, rfl⟩
        have ef : (((D.C.zip due).take (sz D.L)).foldl (fun (a : List Int) q => a.set q.1.toNat q.2) d.ns) = d'.ns := by
          rw [List.take_of_length_le (by rw [List.length_zip]; omega), hdn]
          rfl
        rw [ef, ← hk3] at S7
        exact q H7 d' e' S7 (fr6.trans fr7)
end
end VG
-- VgMath8
set_option linter.all false
namespace VG
/-- R is ns but for the cells of S, where W stands -/
structure Part (ns R C W : List Int) (S : Nat → Prop) : Prop where
  len : R.length = ns.length
  in_ : ∀ j c v, S j → C[j]? = some c → W[j]? = some v → R[c.toNat]? = some v
  out : ∀ x, (∀ j c, S j → C[j]? = some c → c.toNat ≠ x) → R[x]? = ns[x]?
section
variable {ns R R' C W : List Int} {S S' : Nat → Prop}
theorem Part.start (h : ∀ j, ¬ S j) : Part ns ns C W S := ⟨rfl, fun j _ _ s => absurd s (h j), fun _ _ => rfl⟩
theorem Part.congr (p : Part ns R C W S) (h : ∀ j, S' j ↔ S j) : Part ns R C W S' := ⟨p.len, fun j c v s => p.in_ j c v ((h j).mp s), fun x k => p.out x fun j c s => k j c ((h j).mpr s)⟩
theorem cell_ne (hI : Inj C) (hw : Within C ns.length) {i j : Nat} {c d : Int} (hi : C[i]? = some c) (hj : C[j]? = some d) (n : i ≠ j) : c.toNat ≠ d.toNat := fun z => by
  have h1 := hw c (List.mem_of_getElem? hi)
  have h2 := hw d (List.mem_of_getElem? hj)
  have e : c = d := by omega
  exact n (hI _ _ _ hi (e ▸ hj))
theorem Part.step (hI : Inj C) (hw : Within C ns.length) (p : Part ns R C W S) {j : Nat} {c v : Int} (hc : C[j]? = some c) (hv : W[j]? = some v) (hS : ∀ i, S' i ↔ S i ∨ i = j) : Part ns (R.set c.toNat v) C W S' := by
  have hcw := hw c (List.mem_of_getElem? hc)
  refine ⟨by rw [List.length_set]; exact p.len, fun i d u s hd hu => ?_, fun x h => ?_⟩
  · by_cases e : i = j
    · rw [e, hc] at hd
      rw [e, hv] at hu
      cases hd
      cases hu
      exact set_same (by rw [p.len]; omega)
    · rw [set_ne (cell_ne hI hw hd hc e)]
      exact p.in_ i d u (((hS i).mp s).resolve_right e) hd hu
  · rw [set_ne (Ne.symm (h j c ((hS j).mpr (.inr rfl)) hc))]
    exact p.out x fun i d s => h i d ((hS i).mpr (.inl s))
theorem part_take (hI : Inj C) (hw : Within C ns.length) (hl : W.length = C.length) : ∀ i, i ≤ C.length → Part ns (((C.zip W).take i).foldl (fun (a : List Int) q => a.set q.1.toNat q.2) ns) C W (· < i)
  | 0, _ => by rw [List.take_zero]; exact Part.start fun j h => absurd h (by omega)
  | i + 1, h => by
    have ih := part_take hI hw hl i (by omega)
    have hc : C[i]? = some C[i] := List.getElem?_eq_getElem (by omega)
    have hv : W[i]? = some W[i] := List.getElem?_eq_getElem (by omega)
    rw [wr_take hc hv]
    exact ih.step hI hw hc hv fun j => by omega
theorem part_wr (hI : Inj C) (hw : Within C ns.length) (hl : W.length = C.length) : Part ns (wr ns C W) C W (· < C.length) := by
  have h := part_take hI hw hl C.length (Nat.le_refl _)
  rw [List.take_of_length_le (by rw [List.length_zip]; omega)] at h
  exact h
theorem Part.eq (hl : W.length = C.length) (p : Part ns R C W S) (q : Part ns R' C W S') (h : ∀ j, j < C.length → S j) (h' : ∀ j, j < C.length → S' j) : R = R' := by
  apply List.ext_getElem?
  intro x
  by_cases e : ∃ (j : Nat) (c : Int), C[j]? = some c ∧ c.toNat = x
  · obtain ⟨j, c, hc, rfl⟩ := e
    have hj := (List.getElem?_eq_some_iff.mp hc).1
    have hv : W[j]? = some (W[j]'(by omega)) := List.getElem?_eq_getElem (by omega)
    rw [p.in_ j c _ (h j hj) hc hv, q.in_ j c _ (h' j hj) hc hv]
  · rw [p.out x fun j c _ hc z => e ⟨j, c, hc, z⟩, q.out x fun j c _ hc z => e ⟨j, c, hc, z⟩]
theorem Part.read (hI : Inj C) (hw : Within C ns.length) (p : Part ns R C W S) {j : Nat} {c : Int} (hc : C[j]? = some c) (n : ¬ S j) : R[c.toNat]? = ns[c.toNat]? :=
  p.out _ fun i d s hd => cell_ne hI hw hd hc fun e => n (e ▸ s)
end
theorem ins_oth : ∀ {p L : List Nat} {at_ : Nat}, Inb p L → at_ < L.length → ins (oth p at_) at_ (p.getD at_ 0) = p
  | [], [], _, _, h => by simp at h
  | k :: p, l :: L, 0, h, _ => by simp [ins, oth]
  | k :: p, l :: L, at_ + 1, h, e => by
    have ih := ins_oth (at_ := at_) h.2 (by simpa using e)
    have e1 : oth (k :: p) (at_ + 1) = k :: oth p at_ := by simp [oth]
    have e2 : ∀ q m, ins (k :: q) (at_ + 1) m = k :: ins q at_ m := fun q m => by simp [ins]
    rw [e1, e2]
    congr 1
  | [], _ :: _, _, h, _ => h.elim
  | _ :: _, [], _, h, _ => h.elim
theorem oth_ins {q : List Nat} {at_ k : Nat} (h : at_ ≤ q.length) : oth (ins q at_ k) at_ = q := by
  unfold oth ins
  have e1 : (q.take at_ ++ [k] ++ q.drop at_).take at_ = q.take at_ := by
    rw [List.append_assoc, List.take_append_of_le_length (by rw [List.length_take]; omega), List.take_take, Nat.min_self]
  have e2 : (q.take at_ ++ [k] ++ q.drop at_).drop (at_ + 1) = q.drop at_ := by
    have l : (q.take at_ ++ [k]).length = at_ + 1 := by rw [List.length_append, List.length_take]; simp; omega
    rw [← l, List.drop_left]
  rw [e1, e2, List.take_append_drop]
theorem ins_at {q : List Nat} {at_ k : Nat} (h : at_ ≤ q.length) : (ins q at_ k).getD at_ 0 = k := by
  unfold ins
  rw [List.getD_eq_getElem?_getD, List.append_assoc, List.getElem?_append_right (by rw [List.length_take]; omega), List.length_take]
  have e : at_ - min at_ q.length = 0 := by omega
  rw [e]
  rfl
theorem oth_len {L : List Nat} {at_ : Nat} (h : at_ < L.length) : (oth L at_).length + 1 = L.length := by
  unfold oth
  rw [List.length_append, List.length_take, List.length_drop]
  omega
theorem filter_one : ∀ {L q : List Nat}, Inb q L → (places L).filter (· == q) = [q]
  | [], [], _ => rfl
  | l :: L, a :: q, h => by
    have ih := filter_one h.2
    simp only [places, List.filter_flatMap, List.filter_map]
    have e : (fun k => List.map (fun x => k :: x) (List.filter ((fun x => x == a :: q) ∘ fun x => k :: x) (places L))) = fun k => if k = a then [a :: q] else [] := by
      funext k
      by_cases z : k = a
      · rw [if_pos z, z]
        have : ((fun x => x == a :: q) ∘ fun x => a :: x) = (· == q) := by funext x; simp
        rw [this, ih]
        rfl
      · rw [if_neg z]
        have : ((fun x => x == a :: q) ∘ fun x => k :: x) = fun _ => false := by
          funext x
          simp [z]
        rw [this]
        simp
    rw [e]
    exact pick_one h.1
  | [], _ :: _, h => h.elim
  | _ :: _, [], h => h.elim
where
  pick_one {α : Type} {x : α} {a : Nat} : ∀ {l : Nat}, a < l → ((List.range l).flatMap fun k => if k = a then [x] else []) = [x]
    | 0, h => absurd h (by omega)
    | l + 1, h => by
      rw [List.range_succ, List.flatMap_append]
      by_cases z : a = l
      · have e : ((List.range l).flatMap fun k => if k = a then [x] else []) = [] := by
          rw [List.flatMap_eq_nil_iff]
          intro k hk
          have := List.mem_range.mp hk
          rw [if_neg (by omega)]
        rw [e, z]
        simp
      · rw [pick_one (by omega)]
        have : ¬ l = a := fun q => z q.symm
        simp [this]
theorem pick_some {α : Type} {xs : List α} {a : Nat} : ∀ {l : Nat}, a < l → ((List.range l).flatMap fun k => if k = a then xs else []) = xs
  | 0, h => absurd h (by omega)
  | l + 1, h => by
    rw [List.range_succ, List.flatMap_append]
    by_cases z : a = l
    · have e : ((List.range l).flatMap fun k => if k = a then xs else []) = [] := by
        rw [List.flatMap_eq_nil_iff]
        intro k hk
        have := List.mem_range.mp hk
        rw [if_neg (by omega)]
      rw [e, z]
      simp
    · rw [pick_some (by omega)]
      have : ¬ l = a := fun q => z q.symm
      simp [this]
theorem filter_along : ∀ {L : List Nat} {at_ : Nat} {q : List Nat}, at_ < L.length → Inb q (oth L at_) → (places L).filter (fun p => p.set at_ 0 == ins q at_ 0) = (List.range (L.getD at_ 0)).map (ins q at_ ·)
  | [], _, _, h, _ => by simp at h
  | l :: L, 0, q, _, h => by
    have hq : Inb q L := by simpa [oth] using h
    simp only [places, List.filter_flatMap, List.filter_map]
    have e : (fun k => List.map (fun x => k :: x) (List.filter ((fun p => List.set p 0 0 == ins q 0 0) ∘ fun x => k :: x) (places L))) = fun k => [ins q 0 k] := by
      funext k
      have : ((fun p => List.set p 0 0 == ins q 0 0) ∘ fun x => k :: x) = (· == q) := by funext x; simp [ins]
      rw [this, filter_one hq]
      simp [ins]
    rw [e]
    show (List.range l).flatMap (fun k => [ins q 0 k]) = (List.range l).map (ins q 0 ·)
    generalize List.range l = xs
    induction xs with
    | nil => rfl
    | cons x xs ih => rw [List.flatMap_cons, ih]; rfl
  | l :: L, at_ + 1, [], h, hq => by simp [oth, Inb] at hq
  | l :: L, at_ + 1, a :: q, h, hq => by
    have hq2 : a < l ∧ Inb q (oth L at_) := by simpa [oth, Inb] using hq
    have ih := filter_along (L := L) (at_ := at_) (by simpa using h) hq2.2
    have e2 : ∀ m, ins (a :: q) (at_ + 1) m = a :: ins q at_ m := fun m => by simp [ins]
    simp only [places, List.filter_flatMap, List.filter_map]
    have e : (fun k => List.map (fun x => k :: x) (List.filter ((fun p => List.set p (at_ + 1) 0 == ins (a :: q) (at_ + 1) 0) ∘ fun x => k :: x) (places L))) = fun k => if k = a then (List.range (L.getD at_ 0)).map (fun m => ins (a :: q) (at_ + 1) m) else [] := by
      funext k
      by_cases z : k = a
      · rw [if_pos z, z]
        have : ((fun p => List.set p (at_ + 1) 0 == ins (a :: q) (at_ + 1) 0) ∘ fun x => a :: x) = fun p => p.set at_ 0 == ins q at_ 0 := by funext x; simp [e2]
        rw [this, ih, List.map_map]
        refine List.map_congr_left fun m _ => ?_
        rw [e2]
        rfl
      · rw [if_neg z]
        have : ((fun p => List.set p (at_ + 1) 0 == ins (a :: q) (at_ + 1) 0) ∘ fun x => k :: x) = fun _ => false := by
          funext x
          simp [e2, z]
        rw [this]
        simp
    rw [e, pick_some hq2.1]
    rfl
end VG
-- VgMath9
set_option linter.all false
namespace VG
/-- all but the side at_ stays -/
def cAt (at_ : Nat) : Nat → Bool := fun i => decide (i ∈ [at_])
theorem projN_at : ∀ {p : List Nat} {at_ : Nat}, projN (cAt at_) p = p.set at_ 0
  | p, at_ => by
    apply List.ext_getElem?
    intro i
    unfold projN
    rw [List.getElem?_mapIdx, List.getElem?_set]
    by_cases e : at_ = i
    · subst e
      rw [if_pos rfl]
      by_cases h : at_ < p.length
      · rw [List.getElem?_eq_getElem h, if_pos h, Option.map_some, if_pos (by simp [cAt])]
      · rw [List.getElem?_eq_none (by omega), if_neg h]; rfl
    · rw [if_neg e]
      cases h : p[i]? with
      | none => rfl
      | some k =>
        rw [Option.map_some, if_neg]
        have : ¬ i = at_ := fun z => e z.symm
        simp [cAt, this]
theorem leftN_at {L : List Nat} {at_ : Nat} : leftN (cAt at_) L = L.set at_ 1 := by
  apply List.ext_getElem?
  intro i
  unfold leftN
  rw [List.getElem?_mapIdx, List.getElem?_set]
  by_cases e : at_ = i
  · subst e
    rw [if_pos rfl]
    by_cases h : at_ < L.length
    · rw [List.getElem?_eq_getElem h, if_pos h, Option.map_some, if_pos (by simp [cAt])]
    · rw [List.getElem?_eq_none (by omega), if_neg h]; rfl
  · rw [if_neg e]
    cases h : L[i]? with
    | none => rfl
    | some k =>
      rw [Option.map_some, if_neg]
      have : ¬ i = at_ := fun z => e z.symm
      simp [cAt, this]
theorem set_ins {q : List Nat} {at_ k : Nat} (h : at_ ≤ q.length) : (ins q at_ k).set at_ 0 = ins q at_ 0 := by
  unfold ins
  have l : (q.take at_).length = at_ := by rw [List.length_take]; omega
  rw [List.append_assoc, List.append_assoc, List.set_append_right _ _ (by omega), l, Nat.sub_self]
  rfl
theorem getD_some {α : Type} {l : List α} {i : Nat} {a d : α} (h : l[i]? = some a) : l.getD i d = a := by
  rw [List.getD_eq_getElem?_getD, h]; rfl
theorem clip1_self : ∀ {L p : List Nat}, Inb p L → clip1 L p = p
  | [], [], _ => rfl
  | l :: L, k :: p, h => by
    have ih := clip1_self h.2
    have h1 := h.1
    simp only [clip1, ih]
    congr 1
    split <;> omega
  | [], _ :: _, h => h.elim
  | _ :: _, [], h => h.elim
theorem clip_self {L p : List Nat} (h : Inb p L) : clip L L p = p := by
  unfold clip
  rw [Nat.sub_self, List.drop_zero, clip1_self h]
theorem wideN_self {L : List Nat} {xs : List Int} (h : xs.length = sz L) : wideN L L xs = xs := by
  apply List.ext_getElem?
  intro i
  unfold wideN
  rw [List.getElem?_map]
  cases e : (places L)[i]? with
  | none =>
    have := List.getElem?_eq_none_iff.mp e
    rw [places_len] at this
    rw [List.getElem?_eq_none (by omega)]
    rfl
  | some p =>
    have hi := (List.getElem?_eq_some_iff.mp e).1
    rw [places_len] at hi
    have hp := mem_places.mp (List.mem_of_getElem? e)
    rw [Option.map_some, clip_self hp, idx_at e, List.getD_eq_getElem?_getD, List.getElem?_eq_getElem (by omega)]
    rfl
theorem clip1_set : ∀ {L p : List Nat} {at_ : Nat}, Inb p L → at_ < L.length → clip1 (L.set at_ 1) p = p.set at_ 0
  | l :: L, k :: p, 0, h, _ => by
    have := clip1_self h.2
    simp only [List.set_cons_zero, clip1, this]
    rfl
  | l :: L, k :: p, at_ + 1, h, e => by
    have ih := clip1_set (at_ := at_) h.2 (by simpa using e)
    have h1 := h.1
    simp only [List.set_cons_succ, clip1, ih]
    congr 1
    split <;> omega
  | [], _, _, _, e => by simp at e
  | _ :: _, [], _, h, _ => h.elim
theorem clip_set {L p : List Nat} {at_ : Nat} (h : Inb p L) (e : at_ < L.length) : clip L (L.set at_ 1) p = p.set at_ 0 := by
  unfold clip
  rw [List.length_set, Nat.sub_self, List.drop_zero, clip1_set h e]
theorem fit_set {L : List Nat} {at_ : Nat} : Fit (L.set at_ 1) L := by
  refine ⟨by rw [List.length_set]; exact Nat.le_refl _, fun i x l h1 h2 => ?_⟩
  have hi : i < L.length := by have := (List.getElem?_eq_some_iff.mp h2).1; rw [List.length_reverse] at this; exact this
  rw [List.getElem?_reverse (by rw [List.length_set]; exact hi), List.length_set] at h1
  rw [List.getElem?_reverse hi] at h2
  rcases set_at h1 with ⟨_, rfl⟩ | ⟨_, h3⟩
  · exact .inr rfl
  · rw [h3] at h2; exact .inl (Option.some.inj h2)
theorem szM_set : ∀ (L : List Nat) (at_ : Nat), szM (L.set at_ 1) ≤ szM L
  | [], _ => Nat.le_refl _
  | l :: L, 0 => by
    show max 1 1 * szM L ≤ max 1 l * szM L
    exact Nat.mul_le_mul_right _ (by omega)
  | l :: L, at_ + 1 => Nat.mul_le_mul_left _ (szM_set L at_)
theorem Len.set {L : List Nat} (h : Len L) (at_ : Nat) : Len (L.set at_ 1) := by
  refine ⟨by rw [List.length_set]; exact h.len, fun l hl => ?_, Nat.le_trans (szM_set L at_) h.sz⟩
  rcases List.mem_or_eq_of_mem_set hl with z | z
  · exact h.each l z
  · omega
theorem inb_set {p L : List Nat} {at_ : Nat} (h : Inb p L) : Inb (p.set at_ 0) (L.set at_ 1) := by
  have := inb_proj (cAt at_) h
  rw [projN_at, leftN_at] at this
  exact this
theorem idx_set : ∀ {L q : List Nat} {at_ k : Nat}, Inb q (oth L at_) → at_ < L.length → idx (L.set at_ 1) (ins q at_ 0) = idx (oth L at_) q
  | [], _, _, _, _, h => by simp at h
  | l :: L, q, 0, k, hq, _ => by
    have e1 : oth (l :: L) 0 = L := by simp [oth]
    have e2 : ins q 0 0 = 0 :: q := by simp [ins]
    rw [e1, e2]
    show 0 * sz L + idx L q = idx L q
    omega
  | l :: L, [], at_ + 1, _, hq, _ => by simp [oth, Inb] at hq
  | l :: L, a :: q, at_ + 1, k, hq, h => by
    have hq2 : a < l ∧ Inb q (oth L at_) := by simpa [oth, Inb] using hq
    have h' : at_ < L.length := by simpa using h
    have ih := idx_set (k := k) hq2.2 h'
    have e1 : oth (l :: L) (at_ + 1) = l :: oth L at_ := by simp [oth]
    have e2 : ins (a :: q) (at_ + 1) 0 = a :: ins q at_ 0 := by simp [ins]
    have e3 : ∀ {L : List Nat} {at_ : Nat}, at_ < L.length → sz (L.set at_ 1) = sz (oth L at_) := by
      intro L
      induction L with
      | nil => intro at_ h; simp at h
      | cons x L ih2 =>
        intro at_ h
        cases at_ with
        | zero => simp [oth, sz]
        | succ m =>
          have e4 : oth (x :: L) (m + 1) = x :: oth L m := by simp [oth]
          rw [e4, List.set_cons_succ, sz, sz, ih2 (by simpa using h)]
    rw [e1, e2, List.set_cons_succ]
    simp only [idx]
    rw [ih, e3 h']
theorem sz_set : ∀ {L : List Nat} {at_ : Nat}, at_ < L.length → sz (L.set at_ 1) = sz (oth L at_)
  | [], _, h => by simp at h
  | x :: L, 0, _ => by simp [oth, sz]
  | x :: L, m + 1, h => by
    have e4 : oth (x :: L) (m + 1) = x :: oth L m := by simp [oth]
    rw [e4, List.set_cons_succ, sz, sz, sz_set (by simpa using h)]
/-- the row along at_ of the i-th place of the others -/
def rowAt (L : List Nat) (at_ : Nat) (q : List Nat) (xs : List Int) : List Int := (List.range (L.getD at_ 0)).map fun k => xs.getD (idx L (ins q at_ k)) 0
theorem rowAt_len (L : List Nat) (at_ : Nat) (q : List Nat) (xs : List Int) : (rowAt L at_ q xs).length = L.getD at_ 0 := by
  unfold rowAt; rw [List.length_map, List.length_range]
section
variable {L q : List Nat} {at_ k i : Nat} {xs : List Int}
theorem oth_le (hq : Inb q (oth L at_)) (h : at_ < L.length) : at_ ≤ q.length := by
  have := hq.len
  have := oth_len h
  omega
theorem run_at {f : List Int → Int} (hq : Inb q (oth L at_)) (h : at_ < L.length) (hk : k < L.getD at_ 0) : (runningN f L at_ xs)[idx L (ins q at_ k)]? = some ((runN f (rowAt L at_ q xs)).getD k 0) := by
  have hn : L[at_]? = some (L.getD at_ 0) := by rw [List.getD_eq_getElem?_getD, List.getElem?_eq_getElem h]; rfl
  have hi := inb_ins hq hn hk
  have hl := oth_le hq h
  unfold runningN laidN
  rw [List.getElem?_map, places_idx hi, Option.map_some, oth_ins hl, ins_at hl]
  congr 2
  have e : (alongN L at_ xs)[idx (oth L at_) q]? = some (rowAt L at_ q xs) := alongN_at (places_idx hq)
  exact getD_some (by rw [List.getElem?_map, e]; rfl)
theorem sum_at (hq : Inb q (oth L at_)) (h : at_ < L.length) (hk : k < L.getD at_ 0) : (wideN L (L.set at_ 1) (sumsN (cAt at_) L xs))[idx L (ins q at_ k)]? = some (rowAt L at_ q xs).sum := by
  have hn : L[at_]? = some (L.getD at_ 0) := by rw [List.getD_eq_getElem?_getD, List.getElem?_eq_getElem h]; rfl
  have hi := inb_ins hq hn hk
  have hl := oth_le hq h
  unfold wideN
  rw [List.getElem?_map, places_idx hi, Option.map_some, clip_set hi h, set_ins hl]
  congr 1
  refine getD_some ?_
  unfold sumsN
  rw [leftN_at, List.getElem?_map]
  have hz : Inb (ins q at_ 0) (L.set at_ 1) := by
    have := inb_set (at_ := at_) hi
    rw [set_ins hl] at this
    exact this
  rw [places_idx hz, Option.map_some]
  congr 1
  unfold totN
  rw [List.take_of_length_le (by rw [places_len]; exact Nat.le_refl _)]
  have ef : (fun p => projN (cAt at_) p == ins q at_ 0) = fun p => p.set at_ 0 == ins q at_ 0 := by funext p; rw [projN_at]
  rw [ef, filter_along h hq, List.map_map]
  rfl
theorem min_at (hq : Inb q (oth L at_)) (h : at_ < L.length) (hk : k < L.getD at_ 0) : (wideN L (L.set at_ 1) (minsN L at_ xs))[idx L (ins q at_ k)]? = some (minZ (rowAt L at_ q xs)) := by
  have hn : L[at_]? = some (L.getD at_ 0) := by rw [List.getD_eq_getElem?_getD, List.getElem?_eq_getElem h]; rfl
  have hi := inb_ins hq hn hk
  have hl := oth_le hq h
  unfold wideN
  rw [List.getElem?_map, places_idx hi, Option.map_some, clip_set hi h, set_ins hl, idx_set (k := 0) hq h]
  congr 1
  refine getD_some ?_
  unfold minsN
  have e : (alongN L at_ xs)[idx (oth L at_) q]? = some (rowAt L at_ q xs) := alongN_at (places_idx hq)
  rw [List.getElem?_map, e]
  rfl
end
/-- all together -/
theorem sums_all {L : List Nat} {xs : List Int} (h : xs.length = sz L) : sumsN (fun i => decide (i ∈ List.range L.length)) L xs = [xs.sum] := by
  have hc : ∀ i, i < L.length → decide (i ∈ List.range L.length) = true := fun i hi => decide_eq_true (List.mem_range.mpr hi)
  have h1 := leftN_ones (c := fun i => decide (i ∈ List.range L.length)) hc
  have hp : ∀ p ∈ places L, projN (fun i => decide (i ∈ List.range L.length)) p = List.replicate L.length 0 := by
    intro p hp
    have hl := (mem_places.mp hp).len
    apply List.ext_getElem?
    intro i
    unfold projN
    rw [List.getElem?_mapIdx, List.getElem?_replicate]
    by_cases hi : i < L.length
    · rw [List.getElem?_eq_getElem (by omega), if_pos hi, Option.map_some, if_pos (hc i hi)]
    · rw [List.getElem?_eq_none (by omega), if_neg hi]; rfl
  have hq : places (leftN (fun i => decide (i ∈ List.range L.length)) L) = [List.replicate L.length 0] := by
    have e : leftN (fun i => decide (i ∈ List.range L.length)) L = List.replicate L.length 1 := by
      apply List.ext_getElem?
      intro i
      unfold leftN
      rw [List.getElem?_mapIdx, List.getElem?_replicate]
      by_cases hi : i < L.length
      · rw [List.getElem?_eq_getElem hi, if_pos hi, Option.map_some, if_pos (hc i hi)]
      · rw [List.getElem?_eq_none (by omega), if_neg hi]; rfl
    rw [e]
    induction L.length with
    | zero => rfl
    | succ n ih =>
      rw [List.replicate_succ, places, ih, List.replicate_succ]
      rfl
  unfold sumsN
  rw [hq, List.map_cons, List.map_nil]
  congr 1
  unfold totN
  rw [List.take_of_length_le (by rw [places_len]; exact Nat.le_refl _), List.filter_eq_self.mpr fun p hp' => by rw [hp p hp']; simp]
  congr 1
  apply List.ext_getElem?
  intro i
  rw [List.getElem?_map]
  cases e : (places L)[i]? with
  | none =>
    have := List.getElem?_eq_none_iff.mp e
    rw [places_len] at this
    rw [List.getElem?_eq_none (by omega)]
    rfl
  | some p =>
    have hi := (List.getElem?_eq_some_iff.mp e).1
    rw [places_len] at hi
    rw [Option.map_some, idx_at e, List.getD_eq_getElem?_getD, List.getElem?_eq_getElem (by omega)]
    rfl
end VG
-- VgMath10
set_option Elab.async false
set_option linter.all false
set_option maxRecDepth 100000
set_option maxHeartbeats 4000000
namespace VG
open PySem PySem.Spec PyProof.Rows L2
/-- the places of the first i rows, and of the next one the first k -/
def Sik (L : List Nat) (at_ i k j : Nat) : Prop := ∃ p, Inb p L ∧ idx L p = j ∧ (idx (oth L at_) (oth p at_) < i ∨ (idx (oth L at_) (oth p at_) = i ∧ p.getD at_ 0 < k))
section
variable {L q : List Nat} {at_ i k : Nat}
theorem sik_zero : ∀ j, ¬ Sik L at_ 0 0 j := fun j ⟨p, _, _, h⟩ => by omega
theorem sik_is (hq : (places (oth L at_))[i]? = some q) (h : at_ < L.length) {p : List Nat} (hp : Inb p L) (hi : idx (oth L at_) (oth p at_) = i) : p = ins q at_ (p.getD at_ 0) := by
  have e := idx_inj (inb_oth at_ hp) (mem_places.mp (List.mem_of_getElem? hq)) (by rw [hi, idx_at hq])
  rw [← e, ins_oth hp h]
theorem sik_step (hq : (places (oth L at_))[i]? = some q) (h : at_ < L.length) (hk : k < L.getD at_ 0) : ∀ j, Sik L at_ i (k + 1) j ↔ Sik L at_ i k j ∨ j = idx L (ins q at_ k) := by
  have hn : L[at_]? = some (L.getD at_ 0) := by rw [List.getD_eq_getElem?_getD, List.getElem?_eq_getElem h]; rfl
  have hqi := mem_places.mp (List.mem_of_getElem? hq)
  have hl := oth_le hqi h
  intro j
  constructor
  · rintro ⟨p, hp, hj, z | ⟨z1, z2⟩⟩
    · exact .inl ⟨p, hp, hj, .inl z⟩
    · by_cases e : p.getD at_ 0 < k
      · exact .inl ⟨p, hp, hj, .inr ⟨z1, e⟩⟩
      · have e2 : p.getD at_ 0 = k := by omega
        have := sik_is hq h hp z1
        rw [e2] at this
        exact .inr (by rw [← hj, this])
  · rintro (⟨p, hp, hj, z⟩ | rfl)
    · exact ⟨p, hp, hj, by omega⟩
    · exact ⟨ins q at_ k, inb_ins hqi hn hk, rfl, .inr ⟨by rw [oth_ins hl, idx_at hq], by rw [ins_at hl]; omega⟩⟩
theorem sik_next (h : at_ < L.length) : ∀ j, Sik L at_ (i + 1) 0 j ↔ Sik L at_ i (L.getD at_ 0) j := by
  intro j
  constructor
  · rintro ⟨p, hp, hj, z⟩
    have := (inb_at hp h).2
    exact ⟨p, hp, hj, by omega⟩
  · rintro ⟨p, hp, hj, z⟩
    exact ⟨p, hp, hj, by omega⟩
theorem sik_all : ∀ j, j < sz L → Sik L at_ (sz (oth L at_)) 0 j := fun j hj => by
  have e : (places L)[j]? = some ((places L)[j]'(by rw [places_len]; exact hj)) := List.getElem?_eq_getElem _
  generalize (places L)[j]'(by rw [places_len]; exact hj) = p at e
  have hp := mem_places.mp (List.mem_of_getElem? e)
  exact ⟨p, hp, idx_at e, .inl (idx_lt (inb_oth at_ hp))⟩
theorem sik_not (hq : (places (oth L at_))[i]? = some q) (h : at_ < L.length) (hk : k < L.getD at_ 0) : ¬ Sik L at_ i 0 (idx L (ins q at_ k)) := by
  have hn : L[at_]? = some (L.getD at_ 0) := by rw [List.getD_eq_getElem?_getD, List.getElem?_eq_getElem h]; rfl
  have hqi := mem_places.mp (List.mem_of_getElem? hq)
  have hl := oth_le hqi h
  rintro ⟨p, hp, hj, z⟩
  have e := idx_inj hp (inb_ins hqi hn hk) hj
  rw [e, oth_ins hl, idx_at hq] at z
  omega
end
theorem run_zero {f : List Int → Int} {r : List Int} (h : 0 < r.length) : (runN f r).getD 0 0 = r.getD 0 0 := by
  cases r with
  | nil => simp at h
  | cons a r => rfl
theorem run_succ {f : List Int → Int} {r : List Int} {m : Nat} (h : m + 1 < r.length) : (runN f r).getD (m + 1) 0 = f [(runN f r).getD m 0, r.getD (m + 1) 0] := by
  cases r with
  | nil => simp at h
  | cons x xs =>
    have hm : m < xs.length := by simpa using h
    have hy : xs[m]? = some xs[m] := List.getElem?_eq_getElem hm
    have hl : m < (runN f (x :: xs)).length := by rw [runN_len]; simp; omega
    have hz : (runN f (x :: xs))[m]? = some ((runN f (x :: xs))[m]) := List.getElem?_eq_getElem hl
    have st := scanN_step f x xs m xs[m] hy _ hz
    have e : (runN f (x :: xs))[m + 1]? = some (f [(runN f (x :: xs))[m], xs[m]]) := by
      have l1 : m + 1 < (runN f (x :: xs)).length := by rw [runN_len]; simpa using h
      have : ((runN f (x :: xs)).take (m + 2))[m + 1]? = some (f [(runN f (x :: xs))[m], xs[m]]) := by
        show ((x :: scanN f x xs).take (m + 2))[m + 1]? = _
        rw [st, List.getElem?_append_right (by rw [List.length_take]; omega), List.length_take]
        have hll : (x :: scanN f x xs).length = xs.length + 1 := by simp [scanN_len]
        have e0 : m + 1 - min (m + 1) (x :: scanN f x xs).length = 0 := by omega
        rw [e0]
        rfl
      rw [List.getElem?_take_of_lt (by omega)] at this
      exact this
    rw [getD_some e, getD_some hz]
    congr 3
    rw [List.getD_cons_succ, getD_some hy]
/-- what is written at the k-th place of a row -/
def valN (way : Nat) (r : List Int) (k : Nat) : Int := if way = 0 then (runN lf4 r).getD k 0 else if way = 1 then r.sum else minZ r
section
variable {P : Program} {w : World} {K : PySem.W.Frag} {mg : Str → Option Value} {base : Heap}
theorem ok_running (T : Tx K mg) (tb : TbB K mg base) : Def P w K mg base 10 "running" ["view", "deed", "side"] [] (spRunning P w K mg base 1) := by
  obtain ⟨fd, F⟩ := f_running T
  obtain ⟨ds, h1, h2⟩ := b_running F
  exact ⟨⟨_, fd, ds, fn_running T 1 tb F, g_running T, F.kp, h2, h1⟩⟩
theorem ok_sums (T : Tx K mg) : Def P w K mg base 9 "sums" ["view", "some", "start", "keep"] [V.non, V.int 0, V.bl false] (spSums K) := by
  obtain ⟨fd, F⟩ := f_sums T
  obtain ⟨ds, h1, h2⟩ := b_sums1 F
  exact ⟨⟨_, fd, ds, fn_sums T F, g_sums T, F.kp, h2, h1⟩⟩
theorem okw_sums (T : Tx K mg) : DefK P w K mg base 9 "sums" ["view", "some", "start", "keep"] 2 ["keep"] (fun vs zs => vs ++ ([V.int 0] ++ zs)) (spSums K) := by
  obtain ⟨fd, F⟩ := f_sums T
  obtain ⟨g, h⟩ := b_sums2 F
  exact ⟨⟨_, fd, g, fn_sums T F, g_sums T, F.kp, h⟩⟩
end
end VG
-- VgSide
set_option Elab.async false
set_option linter.all false
set_option maxRecDepth 100000
set_option maxHeartbeats 4000000
namespace VG
open PySem PySem.Spec PyProof.Rows L2 LamX NdefX
section
variable {P : Program} {w : World} {K : PySem.W.Frag} {mg : Str → Option Value} {base : Heap}
/-- what was told written over the first view -/
theorem written_told {H : Hp} {B : LA} {D : LD} {d e : RD} {k : Nat} {x r : Addr} {X : List Int} {Lt : List Nat} {vb : Int} {vss : List Int} {Q : VK} {E : XK} (S : St K H B D d e k d.ns) (R : Src K H x r X Lt vb vss) (hc : cells Lt vb vss = toI (List.range (sz Lt))) (hX : X.length = sz Lt) (hf : Fit Lt D.L)
    (q : ∀ H' d' e', St K H' B D d' e' k d.ns → Fr2 B d e d' e' H H' → d'.ns = wr d.ns D.C (wideN D.L Lt X) → Q .non H') : spWritten K [.ref D.t, .ref x] H Q E := by
  refine ⟨D.t, x, r, d, e, D.L, Lt, D.b, vb, D.st, vss, X, rfl, S.tgt, R, hf, fun H' d' e' Wr => ?_⟩
  have ep : pick X (cells D.L vb (wst D.L Lt vss)) = wideN D.L Lt X := by rw [pick_wide hf R.sl, hc, ← hX, pick_range]
  rw [ep] at Wr
  obtain ⟨S2, fr⟩ := S.wrote (WroteT.of Wr) (by rw [wr, wr_len]) (S.tbs.wrote S.sy Wr)
  exact q H' d' e' S2 fr Wr.2.1
theorem newV_src {H0 H : Hp} {x : Addr} {Lt : List Nat} {X : List Int} (nv : NewV K H0 H x Lt X) (ok : Okl Lt) (hX : X.length = sz Lt) : ∃ r vb vss, Src K H x r X Lt vb vss ∧ cells Lt vb vss = toI (List.range (sz Lt)) := by
  obtain ⟨r, vb, vss, Gf, a1, a2, a3, a4, a5, a6⟩ := nv
  exact ⟨r, vb, vss, ⟨a1, a4.r, a2, ok, by rw [a3, hX]; exact within_range _, by have := ok.size; omega⟩, a3⟩
theorem take_set {L : List Nat} {at_ : Nat} (h : at_ < L.length) : (tn L).take at_ ++ [V.int 1] ++ (tn L).drop (at_ + 1) = tn (L.set at_ 1) := by
  rw [List.set_eq_take_append_cons_drop, if_pos h]
  unfold tn
  rw [List.map_append, List.map_cons, List.map_take, List.map_drop, List.append_assoc]
  rfl
def spLSide (K : PySem.W.Frag) : Sp := fun vs H Q _ => ∃ (B : LA) (D : LD) (d e : RD) (k : Nat), vs = [.ref B.p, .ref B.tb, .ref B.rooms] ∧ St K H B D d e k d.ns ∧ 0 < D.L.length ∧ k + 2 < 100000 ∧ ∀ H' d' e', St K H' B D d' e' (k + 2) d'.ns → Fr2 B d e d' e' H H' → Q .non H'
theorem ok_l_side (T : Tx K mg) (tb : TbB K mg base) : Def P w K mg base 14 "_law_side" ["_law_purse_here", "_law_tables", "_law_rooms"] [] (spLSide K) := by
  obtain ⟨fd, F⟩ := f_l_side T
  have hp : (("_law_side", none) : He.Defn) ∈ tf := by decide +kernel
  refine ⟨⟨_, fd, [], fn_okC (k := 13) (p := ("_law_side", none)) F sc_l_side (fun vs H Q E h => ?_) (fun cdv A outer s H vs Q E hcd hr h => ?_), g_l_side T, F.kp, F.bindsN (fun _ _ _ _ _ _ us hl => match us, hl with | [_, _, _], _ => rfl), .nil⟩⟩
  · obtain ⟨B, D, d, e, k, rfl, _⟩ := h; rfl
  · obtain ⟨B, D, d, e, k, rfl, S0, hL0, hk, q⟩ := h
    subst hcd
    refine ⟨_, (pss_cons (ps_asg (pe_ix (ix_K (K := K) rfl) (pv 1) pe_int (fun _ _ => rfl)) (pg_tupK (K := K) (n := 4) rfl rfl (pgs_cons (pg_name (i := 3) sc_l_side.nd rfl (Or.inl rfl)) (pgs_cons (pg_name (i := 4) sc_l_side.nd rfl (Or.inr rfl)) (pgs_cons (pg_name (i := 5) sc_l_side.nd rfl (Or.inl rfl)) (pgs_cons (pg_name (i := 6) sc_l_side.nd rfl (Or.inr rfl)) pgs_nil))))))
    (pss_cons (ps_par (i := 7) (j := 8) (by rfl) sc_l_side.nd rfl rfl (by decide) rfl rfl (pa_cons (pe_fK (K := K) (P := P) (w := w) (mg := mg) (base := base) ((ok_l_take T).mono (by omega)) rfl rfl rfl rfl rfl hr (by rfl) (pa_cons (pv 0) (pa_cons (pe_callB (call_lenK (K := K) rfl) (by rfl) (z_len T) (by decide +kernel) (pa_cons (pv 5) pa_nil)) pa_nil))) (pa_cons (pe_fK (K := K) (P := P) (w := w) (mg := mg) (base := base) ((ok_l_take T).mono (by omega)) rfl rfl rfl rfl rfl hr (by rfl) (pa_cons (pv 0) (pa_cons pe_int pa_nil))) pa_nil)) (by rfl))
    (C8.pss_cut (ps_if (pt_cmpR op_eq (pv 8) pe_int (nomark _)) (pss_one (ps_expr (pe_fK (K := K) (P := P) (w := w) (mg := mg) (base := base) ((ok_written T).mono (by omega)) rfl rfl rfl rfl rfl hr (by rfl) (pa_cons (pv 3) (pa_cons (pe_fK (K := K) (P := P) (w := w) (mg := mg) (base := base) ((ok_running T tb).mono (by omega)) rfl rfl rfl rfl rfl hr (by rfl) (pa_cons (pv 3) (pa_cons (pe_lam (Ps := PsT K) (nm := nmL) (tb _ hp) rfl (List.mem_map.mpr ⟨_, hp, rfl⟩) (by kernel_rfl) (ndef_free (sc := defScope s_l_side) (fr := []) (by decide +kernel))) (pa_cons (pv 7) pa_nil)))) pa_nil))))) (pss_one (ps_if (pt_cmpR op_eq (pv 8) pe_int (nomark _)) (pss_one (ps_expr (pe_fK (K := K) (P := P) (w := w) (mg := mg) (base := base) ((ok_written T).mono (by omega)) rfl rfl rfl rfl rfl hr (by rfl) (pa_cons (pv 3) (pa_cons (pe_fKW (K := K) (P := P) (w := w) (mg := mg) (base := base) ((okw_sums T).mono (show 9 ≤ 13 by omega)) rfl rfl rfl rfl rfl hr (by rfl) (pa_cons (pv 3) (pa_cons (pe_tup (pa_cons (pv 7) pa_nil)) pa_nil)) (pk_cons pe_bl pk_nil)) pa_nil))))) (pss_cons (ps_set (i := 9) sc_l_side.nd rfl (Or.inl rfl) (pe_fKW (K := K) (P := P) (w := w) (mg := mg) (base := base) ((okw_least T tb).mono (show 12 ≤ 13 by omega)) rfl rfl rfl rfl rfl hr (by rfl) (pa_cons (pv 3) (pa_cons (pv 7) pa_nil)) (pk_cons pe_int pk_nil)))
    (pss_one (ps_expr (pe_fK (K := K) (P := P) (w := w) (mg := mg) (base := base) ((ok_written T).mono (by omega)) rfl rfl rfl rfl rfl hr (by rfl) (pa_cons (pv 3) (pa_cons (pe_mkK (K := K) (P := P) (w := w) (mg := mg) (base := base) ((ok_View_init T).mono (by omega)) rfl rfl rfl rfl rfl hr (by rfl) (pa_cons (pe_m0K (K := K) (P := P) (w := w) (mg := mg) (base := base) ((ok_View_room T).mono (by omega)) (cl_View T) rfl rfl rfl rfl rfl hr (pv 9)) (pa_cons (pe_op (op_catK (K := K) rfl) (pe_op (op_catK (K := K) rfl) (pe_slice (sl_TK (K := K) rfl) (pv 5) po_none (po_some (pv 7))) (pe_tup (pa_cons pe_int pa_nil))) (pe_slice (sl_TK (K := K) rfl) (pv 5) (po_some (pe_op op_add (pv 7) pe_int)) po_none)) pa_nil))) pa_nil)))))))))
    (pss_one (ps_for PassesOwn.never rfl (pi_listK (K := K) rfl (pe_fK (K := K) (P := P) (w := w) (mg := mg) (base := base) ((ok_l_along T).mono (by omega)) rfl rfl rfl rfl rfl hr (by rfl) (pa_cons (pv 5) (pa_cons (pv 7) pa_nil)))) (pg_name (i := 10) sc_l_side.nd rfl (Or.inl rfl))
    (pss_cons (ps_setLc (i := 11) (own := [("_law_spot", 12)]) (tt := tYes) rfl sc_l_side.nd rfl rfl (sw_true rfl rfl rfl (by decide +kernel)) (pi_listK (K := K) rfl (pv 10)) (blkOk_by (own := [("_law_spot", 12)]) (sc := defScope s_l_side) (N := n_l_side) (by decide +kernel)) (fun _ _ _ _ _ => (pg_name (i := 12) sc_l_side.nd rfl (by first | exact Or.inl rfl | exact Or.inr rfl))) (fun _ _ _ _ _ => pts_nil) (fun _ _ _ _ _ => (pe_ix (ix_K (K := K) rfl) (pe_ix (ix_K (K := K) rfl) (pv 2) (pv 4) (fun _ _ => rfl)) (pe_ix (ix_K (K := K) rfl) (pv 6) (pv 12) (fun _ _ => rfl)) (fun _ _ => rfl))))
    (pss_cons (ps_set (i := 13) sc_l_side.nd rfl (Or.inl rfl) pe_int)
    (pss_one (ps_for PassesOwn.never rfl (pi_enumLK (K := K) rfl (by rfl) (z_enumerate T) (pa_cons (pv 10) pa_nil)) (pg_tupK (K := K) (n := 2) rfl rfl (pgs_cons (pg_name (i := 14) sc_l_side.nd rfl (Or.inl rfl)) (pgs_cons (pg_name (i := 12) sc_l_side.nd rfl (Or.inl rfl)) pgs_nil)))
    (pss_cons (ps_set (i := 13) sc_l_side.nd rfl (Or.inl rfl) (pe_ifExp (pt_cmpR op_eq (pv 14) pe_int (nomark _)) (pe_ix (ix_K (K := K) rfl) (pv 11) pe_int (fun _ _ => rfl)) (pe_op op_mod (pe_op op_add (pv 13) (pe_op op_mul pe_int (pe_ix (ix_K (K := K) rfl) (pv 11) (pv 14) (fun _ _ => rfl)))) (pe_op op_pow pe_int pe_int))))
    (pss_one (ps_asg (pe_ix (ix_K (K := K) rfl) (pe_lst (pa_cons (pv 13) (pa_cons (pe_callB (cr_sumK (K := K) rfl rfl) (by rfl) (z_sum T) (by decide +kernel) (pa_cons (pv 11) pa_nil)) (pa_cons (pe_callB (cr_minK' (K := K) rfl rfl) (by rfl) (z_min T) (by decide +kernel) (pa_cons (pv 11) pa_nil)) pa_nil)))) (pv 8) (fun _ _ => rfl)) (pg_sub (pe_ix (ix_K (K := K) rfl) (pv 2) (pv 4) (fun _ _ => rfl)) (pe_ix (ix_K (K := K) rfl) (pv 6) (pv 12) (fun _ _ => rfl)) set_list))))))))))))), ?_⟩
    refine ⟨_, rfl, q_ixL (i := 0) (SqL.of S0.tb) rfl ⟨B.t0, _, rfl, SqT.of S0.t0, rfl, _, _, rfl, _, _, rfl, _, _, rfl, _, _, rfl, rfl, ?_⟩⟩
    have h5 := S0.f.hL.len
    refine ⟨_, rfl, _, rfl, D.la, _, rfl, .inr (SqT.of S0.la), ?_⟩
    rw [tn_len]
    refine ⟨B.p, (D.L.length : Int), _, rfl, S0.pu, by omega, ?_, by omega, fun at_ H1 hat b1 pu1 => ?_⟩
    · have : (2 : Nat) ^ 110 = 1298074214633706907132624082305024 := by decide
      omega
    have hat : at_ < D.L.length := by omega
    obtain ⟨S1, fr1⟩ := S0.take b1 pu1
    refine q_take (m := 3) rfl S1.pu (by decide) (by decide) (by omega) fun way H2 hway b2 pu2 => ⟨_, _, rfl, ?_⟩
    obtain ⟨S2, fr2⟩ := S1.take b2 pu2
    generalize hk2 : k + 1 + 1 = k2 at S2
    have fr02 := fr1.trans fr2
    obtain ⟨row, hrow⟩ : ∃ row, row = pick d.ns D.C := ⟨_, rfl⟩
    have hrl : row.length = sz D.L := by rw [hrow]; unfold pick; rw [List.length_map]; exact cells_len _ _ _
    obtain ⟨n, hn⟩ : ∃ n, n = D.L.getD at_ 0 := ⟨_, rfl⟩
    refine ⟨fun σ H' => ∃ (d' e' : RD) (W : List Int) (u9 : Option V), St K H' B D d' e' k2 d.ns ∧ Fr2 B d e d' e' H H' ∧ d'.ns = wr d.ns D.C W ∧ W.length = sz D.L ∧ (∀ q k', Inb q (oth D.L at_) → k' < n → W[idx D.L (ins q at_ k')]? = some (valN way (rowAt D.L at_ q row) k')) ∧ σ = [some (.ref B.p), some (.ref B.tb), some (.ref B.rooms), some (.ref D.t), some (.int 0), some (.ref D.la), some (.ref D.ca), some (.int (at_ : Int)), some (.int (way : Int)), u9, none, none, none, none, none], ?_, ?_⟩
    · refine ⟨_, rfl, rfl, _, rfl, ite2 (fun z => ?_) fun z => ?_⟩
      · have hw0 : way = 0 := by have := V.int.inj (of_decide_eq_true z); omega
        subst hw0
        refine ⟨_, rfl, _, rfl, S2.tbs, fun f c' H6 eN nn tb6 f0 hf6 hc6 => ?_⟩
        have x6 : Ext H2 H6 := ⟨eN, nn⟩
        obtain ⟨S6, fr6⟩ := S2.ext x6 tb6
        obtain ⟨qz, oz, g0⟩ : ∃ q c, LamG f (FL q s_lam_l_side0 [] c) (lamBody s_lam_l_side0) [] [] H6 := ⟨_, _, lamG_of hf6 hc6 capH_nil⟩
        have dd := deed_of (act_side (P := P) (w := w) (K := K) (mg := mg) (base := base) (q := qz) (c := oz) (f := f))
        have hX : (runningN lf4 D.L at_ row).length = sz D.L := by unfold runningN laidN; rw [List.length_map, places_len]
        refine ⟨_, rfl, D.t, d.a, f, D.L, D.b, D.st, d.ns, at_, lf4, _, _, rfl, S6.src0, hat, dd, g0, S6.tbs, fun x H7 x7 tb7 nv => ?_⟩
        obtain ⟨S7, fr7⟩ := S6.ext x7 tb7
        rw [← hrow] at nv
        obtain ⟨r, vb, vss, hsrc, hcl⟩ := newV_src nv S7.f.hL.okl hX
        unfold tNil
        show spWritten K [V.ref D.t, V.ref x] H7 _ _
        refine written_told S7 hsrc hcl hX (fit_refl _) fun H8 d' e' S8 fr8 hdn => ?_
        rw [wideN_self hX] at hdn
        refine ⟨d', e', _, none, S8, ((fr02.trans fr6).trans fr7).trans fr8, hdn, hX, fun q k' hq hk' => ?_, rfl⟩
        rw [run_at hq hat (by rw [← hn]; exact hk')]
        rfl
      · have hw0 : way ≠ 0 := fun z' => z (by rw [z']; rfl)
        refine ⟨_, rfl, rfl, _, rfl, ite2 (fun z => ?_) fun z => ?_⟩
        · have hw1 : way = 1 := by have := V.int.inj (of_decide_eq_true z); omega
          subst hw1
          have okS : Okl (leftN (fun i => decide (i ∈ [at_])) D.L) := by
            show Okl (leftN (cAt at_) D.L)
            rw [leftN_at]; exact (S2.f.hL.set at_).okl
          refine ⟨_, rfl, _, rfl, _, rfl, sz_ok (by show 1 ≤ 100000; decide), fun t ht => ?_⟩
          have s6 : Same H2 (upd H2 t (.tup [.int (at_ : Int)])) := Same.new ht
          have ht6 : (upd H2 t (.tup [.int (at_ : Int)])) t = some (.tup (tn [at_])) := upd_same
          obtain ⟨S6, fr6⟩ := S2.same s6
          generalize upd H2 t (.tup [.int (at_ : Int)]) = H6 at s6 ht6 S6 fr6
          refine ⟨rfl, rfl, D.t, d.a, .ref t, true, D.L, [at_], _, D.b, D.st, d.ns, rfl, S6.src0, .inr ⟨t, at_, rfl, ht6, hat, rfl, rfl, rfl⟩, okS, fun x H7 s7 nv => ?_⟩
          obtain ⟨S7, fr7⟩ := S6.same s7
          rw [← hrow] at nv
          have nv2 : NewV K H6 H7 x (D.L.set at_ 1) (sumsN (cAt at_) D.L row) := by
            have := nv
            rw [show leftN (fun i => decide (i ∈ [at_])) D.L = D.L.set at_ 1 from leftN_at] at this
            exact this
          have hX : (sumsN (cAt at_) D.L row).length = sz (D.L.set at_ 1) := by unfold sumsN; rw [List.length_map, places_len, leftN_at]
          obtain ⟨r, vb, vss, hsrc, hcl⟩ := newV_src nv2 (S7.f.hL.set at_).okl hX
          unfold tNil
          show spWritten K [V.ref D.t, V.ref x] H7 _ _
          refine written_told S7 hsrc hcl hX fit_set fun H8 d' e' S8 fr8 hdn => ?_
          refine ⟨d', e', _, none, S8, ((fr02.trans fr6).trans fr7).trans fr8, hdn, wideN_len _ _ _, fun q k' hq hk' => ?_, rfl⟩
          rw [sum_at hq hat (by rw [← hn]; exact hk')]
          rfl
        · have hw1 : way ≠ 1 := fun z' => z (by rw [z']; rfl)
          have hw2 : way = 2 := by omega
          subst hw2
          refine ⟨_, rfl, _, rfl, rfl, rfl, D.t, d.a, D.L, D.b, D.st, d.ns, at_, rfl, S2.src0, hat, (S2.f.hL.oth at_).okl, S2.tbs, fun y H6 x6 tb6 nv => ?_⟩
          obtain ⟨S6, fr6⟩ := S2.ext x6 tb6
          rw [← hrow] at nv
          have hX : (minsN D.L at_ row).length = sz (D.L.set at_ 1) := by unfold minsN alongN; rw [List.length_map, List.length_map, places_len, sz_set hat]
          obtain ⟨r, vb, vss, Gf, a1, a2, a3, a4, a5, a6⟩ := nv
          obtain ⟨yla, ysa, ⟨ydx, y1⟩, y2, y3⟩ := id a1
          have ea : ((at_ : Int) + 1) = ((at_ + 1 : Nat) : Int) := by omega
          refine ⟨_, rfl, _, rfl, y, ydx, _, rfl, y1, view_no (by decide) (by decide) (by decide) (by decide), y, r, oth D.L at_, vb, vss, rfl, a1, ?_⟩
          refine ⟨_, rfl, _, rfl, _, rfl, q_slT S6.la fun p1 H7 s7 hp1 => ?_⟩
          rw [cut_to] at hp1
          refine ⟨sz_ok (by show 1 ≤ 100000; decide), fun p2 hp2 => ?_⟩
          have s8 : Same H7 (upd H7 p2 (.tup [.int 1])) := Same.new hp2
          refine q_cat (s8 _ _ hp1) upd_same (by rw [List.length_take, tn_len]; show _ + 1 ≤ 100000; omega) fun p3 H9 s9 hp3 => ?_
          have s69 := (s7.trans s8).trans s9
          refine ⟨_, rfl, _, rfl, _, _, rfl, rfl, _, rfl, ?_⟩
          rw [ea]
          dsimp only [tNoPart]
          refine q_slT (s69 _ _ S6.la) fun p4 H10 s10 hp4 => ?_
          rw [cut_from] at hp4
          refine q_cat (s10 _ _ hp3) hp4 (by rw [List.length_append, List.length_take, List.length_drop, tn_len]; show _ + 1 + _ ≤ 100000; omega) fun p5 H11 s11 hp5 => ?_
          rw [take_set hat] at hp5
          have s611 := (s69.trans s10).trans s11
          have okS := (S6.f.hL.set at_).okl
          have rmS := a4.r.same s611
          refine fun x dx hx hdx hne => ?_
          have s12 : Same H11 (upd (upd H11 dx (.own x)) x (.ins (He.ga K "View") dx [])) := (Same.new hdx).trans (Same.new (by rw [upd_ne (Ne.symm hne)]; exact hx))
          have hdl : (toI (dense (D.L.set at_ 1))).length = (D.L.set at_ 1).length := by unfold toI; rw [List.length_map, dense_len]
          have nx : ∀ y o, H11 y = some o → y ≠ x := fun y o e => ne_of_none e hx
          refine ⟨x, dx, r, p5, D.L.set at_ 1, 0, .non, toI (dense (D.L.set at_ 1)), minsN D.L at_ row, rfl, upd_same, rmS.same s12, by rw [hX]; have := okS.size; omega, s12 _ _ hp5, okS, .inl ⟨rfl, rfl⟩, by rw [cells_dense, hX]; exact within_range _, fun H13 k13 vw13 => ⟨rfl, ?_⟩⟩
          have s1113 : Same H11 H13 := fun y o e => k13 y o (nx y o e) (s12 y o e)
          obtain ⟨S13, fr13⟩ := S6.same (s611.trans s1113)
          have hcl : cells (D.L.set at_ 1) (nb (D.L.set at_ 1) 0) (nst (D.L.set at_ 1) (toI (dense (D.L.set at_ 1)))) = toI (List.range (sz (D.L.set at_ 1))) := by rw [cells_norm 0 hdl, cells_dense]
          have hsrc : Src K H13 x r (minsN D.L at_ row) (D.L.set at_ 1) (nb (D.L.set at_ 1) 0) (nst (D.L.set at_ 1) (toI (dense (D.L.set at_ 1)))) := ⟨vw13, rmS.same s1113, nst_len hdl, okS, by rw [hcl, hX]; exact within_range _, by rw [hX]; have := okS.size; omega⟩
          unfold tNil
          show spWritten K [V.ref D.t, V.ref x] H13 _ _
          refine written_told S13 hsrc hcl hX fit_set fun H8 d' e' S8 fr8 hdn => ?_
          refine ⟨d', e', _, some (.ref y), S8, ((fr02.trans fr6).trans fr13).trans fr8, hdn, wideN_len _ _ _, fun q k' hq hk' => ?_, rfl⟩
          rw [min_at hq hat (by rw [← hn]; exact hk')]
          rfl
    · rintro σ H6 ⟨d', e', W, u9, S6, fr6, hdn, hWl, hW, rfl⟩
      refine ⟨_, rfl, _, rfl, D.la, D.L, at_, rfl, S6.la, S6.f.hL, hat, fun l as H7 s7 hl0 hl7 hsp has0 => ⟨l, rfl, ⟨_, SqL.of hl7⟩, ?_⟩⟩
      obtain ⟨S7, fr7⟩ := S6.same s7
      have hnl : D.L[at_]? = some n := by rw [hn, List.getD_eq_getElem?_getD, List.getElem?_eq_getElem hat]; rfl
      have hn24 := S6.f.hL.each n (List.mem_of_getElem? hnl)
      have hI := S6.f.inj
      have hwC : Within D.C d.ns.length := S0.f.w
      have lC : D.C.length = sz D.L := cells_len _ _ _
      have lsp : (spotsN D.L at_).length = sz (oth D.L at_) := by unfold spotsN; rw [List.length_map, places_len]
      -- new things stay
      have stay : ∀ {H8 : Hp} {b : Addr} {o : HO}, Fr2 B d' e' d' e' H7 H8 → H6 b = none → H7 b = some o → (∀ ps, o ≠ .tbl ps) → H8 b = some o := fun {H8 b o} fr h0 h n => by
        refine fr.keep _ _ h (fun z => ?_) (fun z => ?_) (fun f => ?_) n
        · rw [z] at h0; exact S6.pu.ne h0
        · rw [z, S6.r0] at h0; cases h0
        · obtain ⟨o', h', _⟩ := foot_at S6.sy.r0 f
          rw [h0] at h'; cases h'
      refine for_itE (walk_refs hsp.1) (fun i σ H8 => (∃ R, St K H8 B D d' e' k2 R ∧ Part d.ns R D.C W (Sik D.L at_ i 0)) ∧ Fr2 B d' e' d' e' H7 H8 ∧ ∃ u9 u10 u11 u12 u13 u14, σ = [some (.ref B.p), some (.ref B.tb), some (.ref B.rooms), some (.ref D.t), some (.int 0), some (.ref D.la), some (.ref D.ca), some (.int (at_ : Int)), some (.int (way : Int)), u9, u10, u11, u12, u13, u14]) ⟨⟨_, S7, Part.start sik_zero⟩, Fr2.refl, _, _, _, _, _, _, rfl⟩ (fun i σ H8 _ h => SqL.of (stay h.2.1 hl0 hl7 (fun _ z => by cases z))) ?_ ?_
      · rintro i x σ H8 H9 hi ⟨⟨R, S8, pt8⟩, fr8, v9, v10, v11, v12, v13, v14, rfl⟩ ⟨rfl, sa, hsa, rfl⟩
        obtain ⟨q', hq'⟩ : ∃ q', (places (oth D.L at_))[i]? = some q' := ⟨(places (oth D.L at_))[i]'(by rw [places_len]; omega), List.getElem?_eq_getElem _⟩
        have hqi := mem_places.mp (List.mem_of_getElem? hq')
        have hspi := spotsN_at hq'
        rw [← hn] at hspi
        have hsa7 := hsp.2 i sa _ hsa hspi
        have hsa0 := has0 sa (List.mem_of_getElem? hsa)
        have hsa8 := stay fr8 hsa0 hsa7 (fun _ z => by cases z)
        obtain ⟨sp, hspd⟩ : ∃ sp, sp = (List.range n).map fun k => idx D.L (ins q' at_ k) := ⟨_, rfl⟩
        rw [← hspd] at hsa8 hsa7
        have lspd : sp.length = n := by rw [hspd, List.length_map, List.length_range]
        have spAt : ∀ m, m < n → sp[m]? = some (idx D.L (ins q' at_ m)) := fun m hm => by rw [hspd, List.getElem?_map, List.getElem?_range hm]; rfl
        have insI : ∀ m, m < n → Inb (ins q' at_ m) D.L := fun m hm => inb_ins hqi hnl hm
        have cAt' : ∀ m, m < n → D.C[idx D.L (ins q' at_ m)]? = some (cellAt D.b D.st (ins q' at_ m)) := fun m hm => cells_idx (insI m hm)
        obtain ⟨r, hr⟩ : ∃ r, r = rowAt D.L at_ q' row := ⟨_, rfl⟩
        have hrlen : r.length = n := by rw [hr, rowAt_len, hn]
        have rAt : ∀ m, m < n → r[m]? = some (at0 d.ns (cellAt D.b D.st (ins q' at_ m))) := fun m hm => by
          rw [hr]
          unfold rowAt
          rw [← hn, List.getElem?_map, List.getElem?_range hm, Option.map_some, hrow]
          congr 1
          exact getD_some (pick_at (cAt' m hm))
        have h600 := S8.f.hL.okl.size
        refine ⟨_, rfl, sa, rfl, ⟨_, SqL.of hsa8⟩, fun Dd hDd => ?_⟩
        have wk : Walk (Itl K sa) n (fun H => SqL K H sa (tn sp)) (fun i H x H' => H' = H ∧ ∃ z, sp[i]? = some z ∧ x = .int (z : Int)) := by
          have w1 := walk_list (K := K) (a := sa) (xs := tn sp)
          rw [tn_len, lspd] at w1
          exact w1.mono (fun _ q => q) fun i H x H' hi _ y => ⟨y.1, tn_at y.2⟩
        refine lc_new wk (by omega) hDd (fun m y _ => ∃ z : Int, r[m]? = some z ∧ y = .int z) (fun H3 s3 => SqL.of (s3 _ _ hsa8)) (fun _ _ _ _ _ h => h) ?_ ?_
        · rintro m x H10 H11 Kt hm s10 hacc ⟨rfl, z, hz, rfl⟩ kt
          rw [spAt m hm] at hz
          cases hz
          obtain ⟨S10, fr10⟩ := S8.same s10
          have hc := cAt' m hm
          have hcw := hwC _ (List.mem_of_getElem? hc)
          have hpr := pt8.read hI hwC hc (sik_not hq' hat (by rw [← hn]; exact hm))
          have h0R : at0 R (cellAt D.b D.st (ins q' at_ m)) = at0 d.ns (cellAt D.b D.st (ins q' at_ m)) := by
            unfold at0
            rw [List.getD_eq_getElem?_getD, List.getD_eq_getElem?_getD, hpr]
          refine ⟨rfl, _, rfl, _, rfl, q_ixL (i := 0) (SqL.of S10.rooms) rfl ⟨_, rfl, _, rfl, q_ixL (i := idx D.L (ins q' at_ m)) (SqL.of S10.ca) (ti_get hc) (q_cell S10.r0 hcw.1 (by rw [pt8.len]; exact hcw.2) (kt _ _ (Same.refl _) ⟨_, rAt m hm, ?_⟩))⟩⟩
          rw [h0R]
        intro ys H10 s10 hD10 hy hR
        have ey := ys_ti (p := r) (by rw [hy, hrlen]) hR
        subst ey
        obtain ⟨S10, fr10⟩ := S8.same s10
        have hsa10 := s10 _ _ hsa8
        have nDr0 : Dd ≠ B.r0 := (ne_of_none S8.r0 hDd).symm
        have nDp : Dd ≠ B.p := by
          obtain ⟨xs, e⟩ := S8.pu.some
          exact (ne_of_none e hDd).symm
        have nDf : ¬ d'.ft Dd := fun f => by
          obtain ⟨o', h', _⟩ := foot_at S8.sy.r0 f
          rw [hDd] at h'; cases h'
        refine ⟨_, rfl, sa, _, rfl, SqL.of hsa10, ?_⟩
        have walk2 : Walk (Ite K sa) n (fun H => SqL K H sa (tn sp)) (YPair (fun i => some (.int (i : Nat))) (fun i => (tn sp)[i]?)) := by
          have w1 := walk_enum (K := K) (a := sa) (xs := tn sp)
          rw [tn_len, lspd] at w1
          exact w1
        have stay2 : ∀ {H11 : Hp} {b : Addr} {o : HO}, Fr2 B d' e' d' e' H10 H11 → b ≠ B.p → b ≠ B.r0 → ¬ d'.ft b → H10 b = some o → (∀ ps, o ≠ .tbl ps) → H11 b = some o := fun fr n1 n2 n3 h n4 => fr.keep _ _ h n1 n2 n3 n4
        have nsa : sa ≠ B.p ∧ sa ≠ B.r0 ∧ ¬ d'.ft sa := by
          refine ⟨fun z => ?_, fun z => ?_, fun f => ?_⟩
          · rw [z] at hsa0; exact S6.pu.ne hsa0
          · rw [z, S6.r0] at hsa0; cases hsa0
          · obtain ⟨o', h', _⟩ := foot_at S6.sy.r0 f
            rw [hsa0] at h'; cases h'
        refine for_itE walk2 (fun m σ H11 => (∃ R, St K H11 B D d' e' k2 R ∧ Part d.ns R D.C W (Sik D.L at_ i m)) ∧ Fr2 B d' e' d' e' H10 H11 ∧ ∃ u12 u14, σ = [some (.ref B.p), some (.ref B.tb), some (.ref B.rooms), some (.ref D.t), some (.int 0), some (.ref D.la), some (.ref D.ca), some (.int (at_ : Int)), some (.int (way : Int)), v9, some (.ref sa), some (.ref Dd), u12, some (.int (if m = 0 then 0 else (runN lf4 r).getD (m - 1) 0)), u14]) ⟨⟨R, S10, pt8⟩, Fr2.refl, _, _, rfl⟩ (fun m σ H11 _ h => SqL.of (stay2 h.2.1 nsa.1 nsa.2.1 nsa.2.2 hsa10 (fun _ z => by cases z))) ?_ ?_
        · rintro m x σ H11 H12 hm ⟨⟨R', S11, pt11⟩, fr11, w12, w14, rfl⟩ ⟨T1, x1, y1, rfl, hT, rfl, e1, e2⟩
          cases e1
          obtain ⟨z, hz, rfl⟩ := tn_at e2
          rw [spAt m hm] at hz
          cases hz
          have s12 : Same H11 (upd H11 T1 (.tup [.int (m : Int), .int ((idx D.L (ins q' at_ m) : Nat) : Int)])) := Same.new hT
          obtain ⟨S12, fr12⟩ := S11.same s12
          have hD12 := s12 _ _ (stay2 fr11 nDp nDr0 nDf hD10 (fun _ z => by cases z))
          refine ⟨T1, _, rfl, SqT.of upd_same, rfl, _, _, rfl, _, _, rfl, rfl, ?_⟩
          generalize upd H11 T1 (.tup [.int (m : Int), .int ((idx D.L (ins q' at_ m) : Nat) : Int)]) = H12 at s12 S12 fr12 hD12
          have hc := cAt' m hm
          have hcw := hwC _ (List.mem_of_getElem? hc)
          obtain ⟨ci, hci⟩ := Int.eq_ofNat_of_zero_le hcw.1
          have hrm := rAt m hm
          have hr0 := rAt 0 (by omega)
          -- what follows the new number so far
          have tail : ∀ sf : Int, sf = (runN lf4 r).getD m 0 →
              (tAsg (tOp (rIx K) (tLst (tCons (tVar 13) (tCons (tCB (rSum K) (tCons (tVar 11) tNil)) (tCons (tCB (rMin K) (tCons (tVar 11) tNil)) tNil)))) (tVar 8)) (gSub (tOp (rIx K) (tVar 2) (tVar 4)) (tOp (rIx K) (tVar 6) (tVar 12)) rSetL))
              { nx := fun σ H11 => (∃ R, St K H11 B D d' e' k2 R ∧ Part d.ns R D.C W (Sik D.L at_ i (m + 1))) ∧ Fr2 B d' e' d' e' H10 H11 ∧ ∃ u12 u14, σ = [some (.ref B.p), some (.ref B.tb), some (.ref B.rooms), some (.ref D.t), some (.int 0), some (.ref D.la), some (.ref D.ca), some (.int (at_ : Int)), some (.int (way : Int)), v9, some (.ref sa), some (.ref Dd), u12, some (.int (if m + 1 = 0 then 0 else (runN lf4 r).getD (m + 1 - 1) 0)), u14], rt := Q }
              ([some (.ref B.p), some (.ref B.tb), some (.ref B.rooms), some (.ref D.t), some (.int 0), some (.ref D.la), some (.ref D.ca), some (.int (at_ : Int)), some (.int (way : Int)), v9, some (.ref sa), some (.ref Dd), some (.int ((idx D.L (ins q' at_ m) : Nat) : Int)), some (.int sf), some (.int (m : Int))] : L2.St) H12 := by
            intro sf hsf
            refine ⟨_, rfl, _, rfl, Dd, r, rfl, SqL.of hD12, _, rfl, Dd, r, rfl, SqL.of hD12, by omega, fun mn hmn hle => ⟨sz_ok (by show 3 ≤ 100000; decide), fun ll hll => ?_⟩⟩
            have emn := minZ_of hmn hle
            have hval : [V.int sf, .int r.sum, .int mn][way]? = some (.int (valN way r m)) := by
              match way, hway with
              | 0, _ => show some (V.int sf) = some (.int (valN 0 r m)); rw [hsf]; rfl
              | 1, _ => rfl
              | 2, _ => show some (V.int mn) = some (.int (valN 2 r m)); rw [emn]; rfl
            have s13 : Same H12 (upd H12 ll (.lst [.int sf, .int r.sum, .int mn])) := Same.new hll
            obtain ⟨S13, fr13⟩ := S12.same s13
            refine ⟨_, rfl, q_ixL (i := way) (SqL.of upd_same) hval ?_⟩
            refine ⟨_, rfl, _, rfl, q_ixL (i := 0) (SqL.of S13.rooms) rfl ⟨_, rfl, _, rfl, q_ixL (i := idx D.L (ins q' at_ m)) (SqL.of S13.ca) (ti_get hc) ?_⟩⟩
            have hciw : ci < R'.length := by have := pt11.len; omega
            refine ⟨B.r0, _, _, ci, rfl, by rw [hci], S13.r0, ixN_n (by rw [ti_len]; exact hciw), ?_⟩
            have es : (ti R').set ci (.int (valN way r m)) = ti (R'.set ci (valN way r m)) := by unfold ti; rw [List.map_set]
            rw [es]
            obtain ⟨S14, fr14⟩ := S13.setR (R' := R'.set ci (valN way r m)) (List.length_set ..)
            refine ⟨⟨_, S14, ?_⟩, ((fr11.trans fr12).trans fr13).trans fr14, some (.int ((idx D.L (ins q' at_ m) : Nat) : Int)), some (.int (m : Int)), ?_⟩
            · have hWv := hW q' m hqi hm
              rw [← hr] at hWv
              have := pt11.step (S' := Sik D.L at_ i (m + 1)) hI hwC hc hWv (sik_step hq' hat (by rw [← hn]; exact hm))
              rw [hci] at this
              exact this
            · rw [if_neg (by omega), Nat.add_sub_cancel, hsf]
          refine ⟨_, rfl, rfl, _, rfl, ite2 (fun z => ?_) fun z => ?_⟩
          · have z0 : m = 0 := by have := V.int.inj (of_decide_eq_true z); omega
            subst z0
            refine ⟨_, rfl, q_ixL (i := 0) (SqL.of hD12) (ti_get hr0) ?_⟩
            exact tail _ (by rw [run_zero (by omega), getD_some hr0])
          · have z0 : m ≠ 0 := fun z' => z (by rw [z']; rfl)
            obtain ⟨m', rfl⟩ : ∃ m', m = m' + 1 := ⟨m - 1, by omega⟩
            refine ⟨_, rfl, _, rfl, _, rfl, q_ixL (i := m' + 1) (SqL.of hD12) (ti_get hrm) ⟨_, _, rfl, rfl, .inl ⟨by decide, by decide⟩, _, _, rfl, rfl, _, _, rfl, rfl, ⟨by decide, by decide, by decide⟩, _, _, rfl, rfl, (by show (0 : Int) < 10 ^ (12 : Int).toNat; decide), ?_⟩⟩
            refine tail _ ?_
            rw [if_neg (by omega), Nat.add_sub_cancel, run_succ (by omega), getD_some hrm]
            rfl
        · rintro σ H11 ⟨⟨R', S11, pt11⟩, fr11, w12, w14, rfl⟩
          exact ⟨⟨R', S11, pt11.congr (by rw [hn]; exact sik_next hat)⟩, (fr8.trans fr10).trans fr11, _, _, _, _, _, _, rfl⟩
      · rintro σ H8 ⟨⟨R, S8, pt8⟩, fr8, v9, v10, v11, v12, v13, v14, rfl⟩
        rw [lsp] at pt8
        have pw := part_wr hI hwC (by rw [hWl, lC])
        have eR : R = d'.ns := by
          rw [hdn]
          exact Part.eq (by rw [hWl, lC]) pt8 pw (fun j hj => sik_all j (by rw [← lC]; exact hj)) fun j hj => hj
        rw [eR, ← hk2] at S8
        exact q H8 d' e' S8 ((fr6.trans fr7).trans fr8)
end
end VG
-- VgKept
set_option Elab.async false
set_option linter.all false
set_option maxRecDepth 100000
set_option maxHeartbeats 4000000
namespace VG
open PySem PySem.Spec PyProof.Rows L2 LamX NdefX
/-- a number told by a new view: the pair at t, its room apart from F -/
structure KeptE (K : PySem.W.Frag) (H : Hp) (F : Addr → Prop) (t : Addr) (due : Int) : Prop where
  ex : ∃ (v r : Addr) (b : Int) (wd : Nat) (pl : Addr) (c s : Int) (ps ks : List Addr) (hd : Nat → Int), H t = some (.tup [.ref v, .int due]) ∧ VwD K H v r [] b [] ∧ b = 0 ∧ RmP K H r wd [due] pl c s ps ks hd ∧ ∀ x, foot r pl ps ks x → ¬ F x
/-- what may be changed -/
def Chg (B : LA) (d : RD) (kp : Addr) : Addr → Prop := fun b => d.ft b ∨ b = B.p ∨ b = B.r0 ∨ b = kp
structure Kp (K : PySem.W.Frag) (H : Hp) (B : LA) (D : LD) (d e : RD) (kp : Addr) (es : List (Addr × Int)) : Prop where
  at_ : H kp = some (.lst (es.map fun x => V.ref x.1))
  each : ∀ x ∈ es, KeptE K H (Chg B d kp) x.1 x.2
  np : kp ≠ B.p
  nr : kp ≠ B.r0
  nl : kp ∉ B.lists D
  nf : ¬ d.ft kp
  nfe : ¬ e.ft kp
section
variable {K : PySem.W.Frag} {H H' : Hp} {B : LA} {D : LD} {d e d' e' : RD} {k : Nat} {R : List Int} {kp : Addr} {es : List (Addr × Int)}
theorem KeptE.move {F F' : Addr → Prop} {t : Addr} {due : Int} (x : KeptE K H F t due) (keep : ∀ b o, H b = some o → ¬ F b → (∀ ps, o ≠ .tbl ps) → H' b = some o) (tup : ∀ b xs, H b = some (.tup xs) → ¬ F b) (vw : ∀ b C dx fs, H b = some (.ins C dx fs) → fs.length = 4 → ¬ F b) (new : ∀ b, F' b → F b ∨ H b = none) : KeptE K H' F' t due := by
  obtain ⟨v, r, b, wd, pl, c, s, ps, ks, hd, h1, ⟨la, sa, ⟨dx, g1⟩, g2, g3⟩, h3, h4, h5⟩ := x.ex
  have tk : ∀ b xs, H b = some (.tup xs) → H' b = some (.tup xs) := fun b xs h => keep b _ h (tup b xs h) (fun _ z => by cases z)
  refine ⟨v, r, b, wd, pl, c, s, ps, ks, hd, tk _ _ h1, ⟨la, sa, ⟨dx, keep _ _ g1 (vw _ _ _ _ g1 rfl) (fun _ z => by cases z)⟩, tk _ _ g2, tk _ _ g3⟩, h3, h4.keep fun y o f h => ?_, fun y f z => ?_⟩
  · refine keep y o h (h5 y f) fun q z => ?_
    obtain ⟨o', h', g⟩ := foot_sort h4 f
    rw [h] at h'; cases h'
    rcases g with ⟨_, _, _, g⟩ | ⟨_, g⟩ <;> rw [z] at g <;> cases g
  · rcases new y z with q | q
    · exact h5 y f q
    · obtain ⟨o, h', _⟩ := foot_at h4 f
      rw [q] at h'; cases h'
theorem chg_tup (s : St K H B D d e k R) (kl : ∃ xs, H kp = some (.lst xs)) {b : Addr} {xs : List V} (h : H b = some (.tup xs)) : ¬ Chg B d kp b := by
  obtain ⟨n1, n2, n3⟩ := s.notTup h
  obtain ⟨ys, hk⟩ := kl
  rintro (z | z | z | z)
  · exact n3 z
  · exact n1 z
  · exact n2 z
  · rw [z, hk] at h; cases h
theorem chg_vw (s : St K H B D d e k R) (kl : ∃ xs, H kp = some (.lst xs)) {b : Addr} {C dx : Addr} {fs : List (Str × V)} (h : H b = some (.ins C dx fs)) (h4 : fs.length = 4) : ¬ Chg B d kp b := by
  obtain ⟨ys, hk⟩ := kl
  obtain ⟨xs, hp⟩ := s.pu.some
  rintro (z | z | z | z)
  · obtain ⟨o, h2, _, n⟩ := foot_at s.sy.r0 z
    rw [h] at h2; cases h2
    exact n h4
  · rw [z, hp] at h; cases h
  · rw [z, s.r0] at h; cases h
  · rw [z, hk] at h; cases h
theorem Kp.move (x : Kp K H B D d e kp es) (s : St K H B D d e k R) (fr : Fr2 B d e d' e' H H') : Kp K H' B D d' e' kp es := by
  have kl : ∃ xs, H kp = some (.lst xs) := ⟨_, x.at_⟩
  refine ⟨fr.keep _ _ x.at_ x.np x.nr x.nf (fun _ z => by cases z), fun y hy => (x.each y hy).move (fun b o h n m => fr.keep b o h (fun z => n (.inr (.inl z))) (fun z => n (.inr (.inr (.inl z)))) (fun z => n (.inl z)) m) (fun b xs h => chg_tup s kl h) (fun b C dx fs h h4 => chg_vw s kl h h4) (fun b z => ?_), x.np, x.nr, x.nl, fun f => ?_, fun f => x.nfe (fr.newe _ f)⟩
  · rcases z with z | z
    · exact (fr.new b z).imp .inl id
    · exact .inl (.inr z)
  · rcases fr.new _ f with z | z
    · exact x.nf z
    · rw [x.at_] at z; cases z
/-- one more -/
theorem Kp.add {t : Addr} {due : Int} (x : Kp K H B D d e kp es) (s : St K H B D d e k R) (h : KeptE K H (Chg B d kp) t due) : Kp K (upd H kp (.lst (es.map (fun x => V.ref x.1) ++ [.ref t]))) B D d e kp (es ++ [(t, due)]) := by
  have kl : ∃ xs, H kp = some (.lst xs) := ⟨_, x.at_⟩
  have mv : ∀ {t : Addr} {due : Int}, KeptE K H (Chg B d kp) t due → KeptE K (upd H kp (.lst (es.map (fun x => V.ref x.1) ++ [.ref t]))) (Chg B d kp) t due := fun {t due} q =>
    q.move (fun b o h n _ => by rw [upd_ne fun z => n (.inr (.inr (.inr z)))]; exact h) (fun b xs h => chg_tup s kl h) (fun b C dx fs h h4 => chg_vw s kl h h4) (fun b z => .inl z)
  refine ⟨by rw [upd_same, List.map_append]; rfl, fun y hy => ?_, x.np, x.nr, x.nl, x.nf, x.nfe⟩
  have mv2 : ∀ {t' : Addr} {due' : Int}, KeptE K H (Chg B d kp) t' due' → KeptE K (upd H kp (.lst (es.map (fun x => V.ref x.1) ++ [.ref t]))) (Chg B d kp) t' due' := fun {t' due'} q =>
    q.move (fun b o h n _ => by rw [upd_ne fun z => n (.inr (.inr (.inr z)))]; exact h) (fun b xs h => chg_tup s kl h) (fun b C dx fs h h4 => chg_vw s kl h h4) (fun b z => .inl z)
  rcases List.mem_append.mp hy with z | z
  · exact mv2 (x.each y z)
  · rw [List.mem_singleton.mp z]
    exact mv2 h
theorem sql_ext {a : Addr} {xs : List V} (h : SqL K H a xs) (x : Ext H H') : SqL K H' a xs := by
  rcases h with (h | ⟨o, h⟩) | h
  · exact .inl (.inl (x.n _ _ h (fun _ z => by cases z)))
  · exact .inl (.inr ⟨o, x.n _ _ h (fun _ z => by cases z)⟩)
  · exact .inr h
end
end VG
-- VgMain
set_option Elab.async false
set_option linter.all false
set_option maxRecDepth 100000
set_option maxHeartbeats 4000000
namespace VG
open PySem PySem.Spec PyProof.Rows L2 LamX NdefX
theorem viewF_inj {r la sa r' la' sa' : Addr} {b b' : Int} (h : viewF r la b sa = viewF r' la' b' sa') : r = r' := by
  unfold viewF at h
  simp at h
  exact h.1
section
variable {K : PySem.W.Frag} {H H' : Hp} {B : LA} {D : LD} {d e d' e' : RD} {k k' : Nat} {R R' : List Int}
theorem St.same_a (s : St K H B D d e k R) (fr : Fr2 B d e d' e' H H') (s' : St K H' B D d' e' k' R') : d'.a = d.a ∧ e'.a = e.a := by
  have go : ∀ {v r r' : Addr} {ls ls' : List Nat} {b b' : Int} {ss ss' : List Int}, VwD K H v r ls b ss → VwD K H' v r' ls' b' ss' → r' = r := by
    intro v r r' ls ls' b b' ss ss' ⟨la, sa, ⟨dx, h1⟩, h2, h3⟩ ⟨la', sa', ⟨dx', h1'⟩, h2', h3'⟩
    have n1 : v ≠ B.p := by
      obtain ⟨ys, hp⟩ := s.pu.some
      exact ne_of h1 hp (by intro z; cases z)
    have n3 : ¬ d.ft v := fun f => by
      obtain ⟨o, h4, _, n⟩ := foot_at s.sy.r0 f
      rw [h1] at h4; cases h4
      exact n rfl
    have h := fr.keep _ _ h1 n1 (ne_of h1 s.r0 (by intro z; cases z)) n3 (fun _ z => by cases z)
    rw [h] at h1'
    injection h1' with h5
    injection h5 with h6 h7 h8
    exact (viewF_inj h8).symm
  exact ⟨go s.vt s'.vt, go s.vw s'.vw⟩
theorem St.mono (s : St K H B D d e k R) (h : k ≤ k') : St K H B D d e k' R := { s with pu := s.pu.mono h }
theorem walkE (K : PySem.W.Frag) (kp : Addr) (es : List (Addr × Int)) : Walk (Itl K kp) es.length (fun H => SqL K H kp (es.map fun x => V.ref x.1)) (fun i H x H' => H' = H ∧ ∃ y, es[i]? = some y ∧ x = .ref y.1) := by
  have w := walk_list (K := K) (a := kp) (xs := es.map fun x => V.ref x.1)
  rw [List.length_map] at w
  refine w.mono (fun _ q => q) fun i H x H' _ _ y => ⟨y.1, ?_⟩
  have e := y.2
  rw [List.getElem?_map] at e
  cases q : es[i]? with
  | none => rw [q] at e; cases e
  | some D => rw [q] at e; exact ⟨D, rfl, (Option.some.inj e).symm⟩
theorem leftN_okl {c : Nat → Bool} {L : List Nat} (h5 : L.length ≤ 5) (h : ∀ i, i < L.length → c i = true) : Okl (leftN c L) := by
  have e : leftN c L = List.replicate L.length 1 := by
    apply List.ext_getElem?
    intro i
    unfold leftN
    rw [List.getElem?_mapIdx, List.getElem?_replicate]
    by_cases hi : i < L.length
    · rw [List.getElem?_eq_getElem hi, if_pos hi, Option.map_some, h i hi]; rfl
    · rw [List.getElem?_eq_none (by omega), if_neg hi]; rfl
  refine ⟨by rw [e, List.length_replicate]; exact h5, by rw [leftN_ones h]; decide, fun l hl => ?_⟩
  rw [e] at hl
  rw [List.eq_of_mem_replicate hl]
  decide
end
section
variable {P : Program} {w : World} {K : PySem.W.Frag} {mg : Str → Option Value} {base : Heap}
def spLaw (K : PySem.W.Frag) : Sp := fun vs H Q _ => ∃ (a : Addr) (ns : List Int), vs = [.ref a] ∧ SqL K H a (ti ns) ∧ ns.length ≤ 63 ∧ Tbs K H ∧ ∀ H', Q (.bl true) H'
theorem fn_law (T : Tx K mg) (tb : TbB K mg base) {fd : FuncData} (F : FunR K d_law fd) : FnOk P w K mg base CX0 20 (He.fAd K d_law.at_) fd ["_law_script"] (spLaw K) := by
  refine fn_ok (k := 19) F sc_law (fun vs H Q E h => ?_) (fun cdv A outer s H vs Q E hr h => ?_)
  · obtain ⟨a, ns, rfl, _⟩ := h; rfl
  · obtain ⟨a, ns, rfl, ha, hns, htb, q⟩ := h
    have hu := hr.units
    refine ⟨_, (pss_cons (ps_for PassesOwn.never rfl (pi_range1 (by rfl) (z_range T) (pa_cons (pe_callB (call_max2 rfl) (by rfl) (z_max T) (by decide +kernel) (pa_cons pe_int (pa_cons (pe_callB (call_min2 rfl) (by rfl) (z_min T) (by decide +kernel) (pa_cons pe_int (pa_cons (pe_callB (call_lenK (K := K) rfl) (by rfl) (z_len T) (by decide +kernel) (pa_cons (pv 0) pa_nil)) pa_nil))) pa_nil))) pa_nil)) (pg_name (i := 1) sc_law.nd rfl (Or.inl rfl))
    (pss_cons (ps_set (i := 2) sc_law.nd rfl (Or.inl rfl) (pe_fK (K := K) (P := P) (w := w) (mg := mg) (base := base) ((ok_l_purse T).mono (by omega)) rfl rfl rfl rfl rfl hr (by rfl) (pa_cons (pv 0) (pa_cons (pv 1) pa_nil))))
    (pss_cons (ps_asg (pe_fK (K := K) (P := P) (w := w) (mg := mg) (base := base) ((ok_l_over T).mono (by omega)) rfl rfl rfl rfl rfl hr (by rfl) (pa_cons (pv 2) (pa_cons pe_int (pa_cons pe_bl pa_nil)))) (pg_unlK (K := K) (n := 2) rfl rfl (pgs_cons (pg_name (i := 3) sc_law.nd rfl (Or.inl rfl)) (pgs_cons (pg_name (i := 4) sc_law.nd rfl (Or.inl rfl)) pgs_nil))))
    (pss_cons (ps_set (i := 5) sc_law.nd rfl (Or.inl rfl) (pe_m0K (K := K) (P := P) (w := w) (mg := mg) (base := base) ((ok_View_twin T).mono (by omega)) (cl_View T) rfl rfl rfl rfl rfl hr (pe_ix (ix_K (K := K) rfl) (pv 4) pe_int (fun _ _ => rfl))))
    (pss_cons (ps_set (i := 6) sc_law.nd rfl (Or.inr rfl) (pe_lst (pa_cons (pe_m0K (K := K) (P := P) (w := w) (mg := mg) (base := base) ((ok_Room_numbers T).mono (by omega)) (cl_Room T) rfl rfl rfl rfl rfl hr (pe_ix (ix_K (K := K) rfl) (pv 3) pe_int (fun _ _ => rfl))) (pa_cons (pe_m0K (K := K) (P := P) (w := w) (mg := mg) (base := base) ((ok_Room_numbers T).mono (by omega)) (cl_Room T) rfl rfl rfl rfl rfl hr (pe_ix (ix_K (K := K) rfl) (pv 3) pe_int (fun _ _ => rfl))) pa_nil))))
    (pss_cons (ps_set (i := 7) sc_law.nd rfl (Or.inl rfl) (pe_lst (pa_cons (pe_tup (pa_cons (pe_ix (ix_K (K := K) rfl) (pv 3) pe_int (fun _ _ => rfl)) (pa_cons pe_int (pa_cons (pe_ix (ix_K (K := K) rfl) (pv 3) pe_int (fun _ _ => rfl)) (pa_cons (pe_ix (ix_K (K := K) rfl) (pv 3) pe_int (fun _ _ => rfl)) pa_nil))))) (pa_cons (pe_tup (pa_cons (pe_ix (ix_K (K := K) rfl) (pv 4) pe_int (fun _ _ => rfl)) (pa_cons pe_int (pa_cons (pe_ix (ix_K (K := K) rfl) (pv 4) pe_int (fun _ _ => rfl)) (pa_cons (pe_ix (ix_K (K := K) rfl) (pv 4) pe_int (fun _ _ => rfl)) pa_nil))))) (pa_cons (pe_tup (pa_cons (pv 5) (pa_cons pe_int (pa_cons (pe_ix (ix_K (K := K) rfl) (pv 4) pe_int (fun _ _ => rfl)) (pa_cons (pe_ix (ix_K (K := K) rfl) (pv 4) pe_int (fun _ _ => rfl)) pa_nil))))) pa_nil)))))
    (pss_cons (ps_set (i := 8) sc_law.nd rfl (Or.inl rfl) (pe_lst pa_nil))
    (pss_cons (ps_for PassesOwn.never rfl (pi_range1 (by rfl) (z_range T) (pa_cons (pe_fK (K := K) (P := P) (w := w) (mg := mg) (base := base) ((ok_l_take T).mono (by omega)) rfl rfl rfl rfl rfl hr (by rfl) (pa_cons (pv 2) (pa_cons pe_int pa_nil))) pa_nil)) (pg_name (i := 9) sc_law.nd rfl (Or.inl rfl))
    (C8.pss_cut (ps_if (PW.pt (pw_and (pt_cmpR (op_neDK (K := K) rfl hu) (pe_ix (ix_K (K := K) rfl) (pv 3) pe_int (fun _ _ => rfl)) (pe_tup pa_nil) (nomark _)) (pw_and1 (pt_cmpR op_eq (pe_fK (K := K) (P := P) (w := w) (mg := mg) (base := base) ((ok_l_take T).mono (by omega)) rfl rfl rfl rfl rfl hr (by rfl) (pa_cons (pv 2) (pa_cons pe_int pa_nil))) pe_int (nomark _))))) (pss_one (ps_expr (pe_fK (K := K) (P := P) (w := w) (mg := mg) (base := base) ((ok_l_side T tb).mono (by omega)) rfl rfl rfl rfl rfl hr (by rfl) (pa_cons (pv 2) (pa_cons (pv 7) (pa_cons (pv 6) pa_nil)))))) (pss_one (ps_expr (pe_fK (K := K) (P := P) (w := w) (mg := mg) (base := base) ((ok_l_into T tb).mono (by omega)) rfl rfl rfl rfl rfl hr (by rfl) (pa_cons (pv 2) (pa_cons (pv 7) (pa_cons (pv 6) pa_nil)))))))
    (pss_cons (ps_set (i := 10) sc_law.nd rfl (Or.inl rfl) (pe_fK (K := K) (P := P) (w := w) (mg := mg) (base := base) ((ok_sums T).mono (by omega)) rfl rfl rfl rfl rfl hr (by rfl) (pa_cons (pe_ix (ix_K (K := K) rfl) (pv 3) pe_int (fun _ _ => rfl)) pa_nil)))
    (pss_cons (ps_expr (pe_bmK (K := K) rfl PySem.F.plainAttrs_list PySem.F.slot_list_append PySem.F.type_list_append mt_append (pv 8) (pa_cons (pe_tup (pa_cons (pv 10) (pa_cons (pe_callB (cr_sumK (K := K) rfl rfl) (by rfl) (z_sum T) (by decide +kernel) (pa_cons (pe_lc (own := [("_law_cell", 11)]) (tt := tYes) rfl sc_law.nd (pi_listK (K := K) rfl (pe_ix (ix_K (K := K) rfl) (pv 3) pe_int (fun _ _ => rfl))) (blkOk_by (own := [("_law_cell", 11)]) (sc := defScope s_law) (N := n_law) (by decide +kernel)) (fun _ _ _ _ _ => (pg_name (i := 11) sc_law.nd rfl (by first | exact Or.inl rfl | exact Or.inr rfl))) (fun _ _ _ _ _ => pts_nil) (fun _ _ _ _ _ => (pe_ix (ix_K (K := K) rfl) (pe_ix (ix_K (K := K) rfl) (pv 6) pe_int (fun _ _ => rfl)) (pv 11) (fun _ _ => rfl)))) pa_nil)) pa_nil))) pa_nil)))
    (pss_one (ps_if (pt_not (pt_val (pe_fK (K := K) (P := P) (w := w) (mg := mg) (base := base) ((ok_l_shown T).mono (by omega)) rfl rfl rfl rfl rfl hr (by rfl) (pa_cons (pv 7) (pa_cons (pv 6) pa_nil))))) (pss_one (ps_ret pe_bl)) pss_nil))))))
    (pss_cons (ps_if (PW.pt (pw_or (pt_cmpR (op_neDK (K := K) rfl hu) (pe_m0K (K := K) (P := P) (w := w) (mg := mg) (base := base) ((ok_Room_numbers T).mono (by omega)) (cl_Room T) rfl rfl rfl rfl rfl hr (pe_ix (ix_K (K := K) rfl) (pv 3) pe_int (fun _ _ => rfl))) (pe_ix (ix_K (K := K) rfl) (pv 6) pe_int (fun _ _ => rfl)) (nomark _)) (pw_or1 (pt_cmpR (op_neDK (K := K) rfl hu) (pe_m0K (K := K) (P := P) (w := w) (mg := mg) (base := base) ((ok_Room_numbers T).mono (by omega)) (cl_Room T) rfl rfl rfl rfl rfl hr (pe_m0K (K := K) (P := P) (w := w) (mg := mg) (base := base) ((ok_View_room T).mono (by omega)) (cl_View T) rfl rfl rfl rfl rfl hr (pv 5))) (pe_ix (ix_K (K := K) rfl) (pv 6) pe_int (fun _ _ => rfl)) (nomark _))))) (pss_one (ps_ret pe_bl)) pss_nil)
    (pss_one (ps_if (pt_cmpR (op_neDK (K := K) rfl hu) (pe_lc (own := [("_law_told", 10), ("_law_due", 12)]) (tt := tYes) rfl sc_law.nd (pi_listK (K := K) rfl (pv 8)) (blkOk_by (own := [("_law_told", 10), ("_law_due", 12)]) (sc := defScope s_law) (N := n_law) (by decide +kernel)) (fun _ _ _ _ _ => (pg_tupK (K := K) (n := 2) rfl rfl (pgs_cons (pg_name (i := 10) sc_law.nd rfl (by first | exact Or.inl rfl | exact Or.inr rfl)) (pgs_cons (pg_name (i := 12) sc_law.nd rfl (by first | exact Or.inl rfl | exact Or.inr rfl)) pgs_nil)))) (fun _ _ _ _ _ => pts_nil) (fun _ _ _ _ _ => (pe_m0K (K := K) (P := P) (w := w) (mg := mg) (base := base) ((ok_View_numbers T).mono (by omega)) (cl_View T) rfl rfl rfl rfl rfl hr (pv 10)))) (pe_lc (own := [("_law_told", 10), ("_law_due", 12)]) (tt := tYes) rfl sc_law.nd (pi_listK (K := K) rfl (pv 8)) (blkOk_by (own := [("_law_told", 10), ("_law_due", 12)]) (sc := defScope s_law) (N := n_law) (by decide +kernel)) (fun _ _ _ _ _ => (pg_tupK (K := K) (n := 2) rfl rfl (pgs_cons (pg_name (i := 10) sc_law.nd rfl (by first | exact Or.inl rfl | exact Or.inr rfl)) (pgs_cons (pg_name (i := 12) sc_law.nd rfl (by first | exact Or.inl rfl | exact Or.inr rfl)) pgs_nil)))) (fun _ _ _ _ _ => pts_nil) (fun _ _ _ _ _ => (pe_lst (pa_cons (pv 12) pa_nil)))) (nomark _)) (pss_one (ps_ret pe_bl)) pss_nil)))))))))))
    (pss_one (ps_ret pe_bl))), ?_⟩
    refine ⟨_, rfl, a, _, rfl, .inl ha, _, _, rfl, _, _, rfl, ?_⟩
    obtain ⟨m, hm, hm3⟩ : ∃ m : Nat, (if (if (((ti ns).length : Nat) : Int) < 3 then (((ti ns).length : Nat) : Int) else 3) > 1 then (if (((ti ns).length : Nat) : Int) < 3 then (((ti ns).length : Nat) : Int) else 3) else 1) = (m : Int) ∧ m ≤ 3 := by
      refine ⟨(if (if (((ti ns).length : Nat) : Int) < 3 then (((ti ns).length : Nat) : Int) else 3) > 1 then (if (((ti ns).length : Nat) : Int) < 3 then (((ti ns).length : Nat) : Int) else 3) else 1).toNat, ?_, ?_⟩
      · split <;> split at * <;> omega
      · split <;> split at * <;> omega
    rw [hm]
    refine ⟨(m : Int), rfl, by omega, by omega, ?_⟩
    refine for_itE (walk_rng (m := m) rfl) (fun i σ Hi => Ext H Hi ∧ Tbs K Hi ∧ ∃ u1 u2 u3 u4 u5 u6 u7 u8 u9 u10 u11 u12, σ = [some (.ref a), u1, u2, u3, u4, u5, u6, u7, u8, u9, u10, u11, u12]) ⟨Ext.refl H, htb, none, none, none, none, none, none, none, none, none, none, none, none, rfl⟩ (fun _ _ _ _ _ => trivial) ?_ ?_
    · rintro i x σ H0' H0 hi ⟨x0, tb0, u1, u2, u3, u4, u5, u6, u7, u8, u9, u10, u11, u12, rfl⟩ ⟨rfl, rfl⟩
      have ha0 := sql_ext ha x0
      refine ⟨_, rfl, _, rfl, a, ns, i, rfl, ha0, by omega, fun p H1 s1 hp0 pu1 => ?_⟩
      show gName 2 (V.ref p) ([some (.ref a), some (.int (i : Int)), u2, u3, u4, u5, u6, u7, u8, u9, u10, u11, u12] : L2.St) H1 _
      refine ⟨_, rfl, p, 0, rfl, pu1, by omega, fun r m0 m1 D d H2 b2 pu2 hr2 ov => ?_⟩
      refine ⟨r, _, rfl, SqL.of hr2, rfl, _, _, rfl, _, _, rfl, rfl, ?_⟩
      obtain ⟨sla, ssa, ⟨sdx, sv1⟩, sv2, sv3⟩ := id ov.vs
      refine ⟨_, rfl, q_ixT (i := 1) ov.m1 rfl ⟨D.s, sdx, _, rfl, sv1, view_no (by decide) (by decide) (by decide) (by decide), D.s, D.ls, D.sb, D.ss, d, rfl, ov.vs, ov.f.hl.okl, ov.f.ss, ov.own.rm, ov.own.s0, ov.own.h1, ov.own.ip, ov.own.ik, ov.own.pk, ov.f.n2, fun H3 d3 e tw sy n1 n2 a1 w1 fr htw hef vtw => ?_⟩⟩
      -- what stood at H2 and is no part of the room
      have t1 : ∀ b, H1 b ≠ none → ¬ d.ft b := fun b h f => h (ov.own.new b f)
      have pne1 : H1 p ≠ none := pu1.ne
      have tup3 : ∀ {b xs}, H2 b = some (.tup xs) → H3 b = some (.tup xs) := fun {b xs} h => fr.keep _ _ h fun f => by
        obtain ⟨o, h2, n, _⟩ := foot_at ov.own.rm f
        rw [h] at h2; cases h2
        exact n _ rfl
      have pu3 : Purse H3 p 500 := (pu2.mono (by omega)).keep fun o h => fr.keep _ _ h (t1 p pne1)
      have m03 : H3 m0 = some (.tup [.ref d3.a, .ref D.t, .ref D.la, .ref D.ca]) := by rw [a1]; exact tup3 ov.m0
      have m13 : H3 m1 = some (.tup [.ref d3.a, .ref D.s, .ref D.lsa, .ref D.cs]) := by rw [a1]; exact tup3 ov.m1
      have ca3 := fr.keep _ _ ov.ca ov.caf
      have cs3 := fr.keep _ _ ov.cs ov.csf
      have vt3 : VwD K H3 D.t d3.a D.L D.b D.st := by rw [a1]; exact ov.vt.frm ov.own.rm fr
      have vs3 : VwD K H3 D.s d3.a D.ls D.sb D.ss := by rw [a1]; exact ov.vs.frm ov.own.rm fr
      obtain ⟨rdx, hro⟩ := sy.r0.ob
      have nsl : d3.ns.length ≤ 20000 := by rw [n1]; exact ov.f.n2
      have rr3 : RoomR K H3 d3.a d3.ns := ⟨_, _, _, _, _, _, _, sy.r0⟩
      show gName 5 (V.ref tw) ([some (.ref a), some (.int (i : Int)), some (.ref p), some (.ref m0), some (.ref m1), u5, u6, u7, u8, u9, u10, u11, u12] : L2.St) H3 _
      refine ⟨_, rfl, q_ixT (i := 0) m03 rfl ⟨d3.a, rdx, _, rfl, hro, room_no (by decide) (by decide) (by decide) (by decide) (by decide), d3.a, d3.ns, rfl, rr3, nsl, fun r0 H4 s4 hr00 hr0 => ?_⟩⟩
      refine ⟨_, rfl, q_ixT (i := 0) (s4 _ _ m03) rfl ⟨d3.a, rdx, _, rfl, s4 _ _ hro, room_no (by decide) (by decide) (by decide) (by decide) (by decide), d3.a, d3.ns, rfl, rr3.same s4, nsl, fun r1 H5 s5 hr10 hr1 => ⟨sz_ok (by show 2 ≤ 100000; decide), fun rm hrm => ?_⟩⟩⟩
      have s6 : Same H5 (upd H5 rm (.lst [.ref r0, .ref r1])) := Same.new hrm
      have hrm6 : (upd H5 rm (.lst [.ref r0, .ref r1])) rm = some (.lst [.ref r0, .ref r1]) := upd_same
      generalize upd H5 rm (.lst [.ref r0, .ref r1]) = H6 at s6 hrm6 ⊢
      have s36 := (s4.trans s5).trans s6
      show gName 6 (V.ref rm) ([some (.ref a), some (.int (i : Int)), some (.ref p), some (.ref m0), some (.ref m1), some (.ref tw), u6, u7, u8, u9, u10, u11, u12] : L2.St) H6 _
      have m06 := s36 _ _ m03
      refine ⟨_, rfl, q_ixT (i := 1) m06 rfl ⟨_, rfl, q_ixT (i := 2) m06 rfl ⟨_, rfl, q_ixT (i := 3) m06 rfl ⟨sz_ok (by show 4 ≤ 100000; decide), fun t0 ht0 => ?_⟩⟩⟩⟩
      have s7 : Same H6 (upd H6 t0 (.tup [.ref D.t, .int 0, .ref D.la, .ref D.ca])) := Same.new ht0
      have ht07 : (upd H6 t0 (.tup [.ref D.t, .int 0, .ref D.la, .ref D.ca])) t0 = some (.tup [.ref D.t, .int 0, .ref D.la, .ref D.ca]) := upd_same
      generalize upd H6 t0 (.tup [.ref D.t, .int 0, .ref D.la, .ref D.ca]) = H7 at s7 ht07 ⊢
      have m17 := s7 _ _ (s36 _ _ m13)
      refine ⟨_, rfl, q_ixT (i := 1) m17 rfl ⟨_, rfl, q_ixT (i := 2) m17 rfl ⟨_, rfl, q_ixT (i := 3) m17 rfl ⟨sz_ok (by show 4 ≤ 100000; decide), fun t1' ht1 => ?_⟩⟩⟩⟩
      have s8 : Same H7 (upd H7 t1' (.tup [.ref D.s, .int 0, .ref D.lsa, .ref D.cs])) := Same.new ht1
      have ht18 : (upd H7 t1' (.tup [.ref D.s, .int 0, .ref D.lsa, .ref D.cs])) t1' = some (.tup [.ref D.s, .int 0, .ref D.lsa, .ref D.cs]) := upd_same
      generalize upd H7 t1' (.tup [.ref D.s, .int 0, .ref D.lsa, .ref D.cs]) = H8 at s8 ht18 ⊢
      have m18 := s8 _ _ m17
      refine ⟨_, rfl, _, rfl, q_ixT (i := 2) m18 rfl ⟨_, rfl, q_ixT (i := 3) m18 rfl ⟨sz_ok (by show 4 ≤ 100000; decide), fun t2 ht2 => ?_⟩⟩⟩
      have s9 : Same H8 (upd H8 t2 (.tup [.ref tw, .int 1, .ref D.lsa, .ref D.cs])) := Same.new ht2
      have ht29 : (upd H8 t2 (.tup [.ref tw, .int 1, .ref D.lsa, .ref D.cs])) t2 = some (.tup [.ref tw, .int 1, .ref D.lsa, .ref D.cs]) := upd_same
      generalize upd H8 t2 (.tup [.ref tw, .int 1, .ref D.lsa, .ref D.cs]) = H9 at s9 ht29 ⊢
      refine ⟨sz_ok (by show 3 ≤ 100000; decide), fun tbl htbl => ?_⟩
      have s10 : Same H9 (upd H9 tbl (.lst [.ref t0, .ref t1', .ref t2])) := Same.new htbl
      have htb10 : (upd H9 tbl (.lst [.ref t0, .ref t1', .ref t2])) tbl = some (.lst [.ref t0, .ref t1', .ref t2]) := upd_same
      generalize upd H9 tbl (.lst [.ref t0, .ref t1', .ref t2]) = H10 at s10 htb10 ⊢
      show gName 7 (V.ref tbl) ([some (.ref a), some (.int (i : Int)), some (.ref p), some (.ref m0), some (.ref m1), some (.ref tw), some (.ref rm), u7, u8, u9, u10, u11, u12] : L2.St) H10 _
      refine ⟨sz_ok (Nat.zero_le _), fun kp hkp => ?_⟩
      have s11 : Same H10 (upd H10 kp (.lst [])) := Same.new hkp
      have hkp11 : (upd H10 kp (.lst [])) kp = some (.lst []) := upd_same
      generalize upd H10 kp (.lst []) = H11 at s11 hkp11 ⊢
      show gName 8 (V.ref kp) ([some (.ref a), some (.int (i : Int)), some (.ref p), some (.ref m0), some (.ref m1), some (.ref tw), some (.ref rm), some (.ref tbl), u8, u9, u10, u11, u12] : L2.St) H11 _
      have s611 := (((s7.trans s8).trans s9).trans s10).trans s11
      have s311 := s36.trans s611
      obtain ⟨B, hB⟩ : ∃ B : LA, B = { p := p, tb := tbl, t0 := t0, t1 := t1', t2 := t2, w := tw, rooms := rm, r0 := r0, r1 := r1, wb := nb D.ls D.sb, wss := nst D.ls D.ss } := ⟨_, rfl⟩
      have at2 : ∀ b, H2 b ≠ none → ¬ d.ft b → ¬ d3.ft b ∧ ¬ e.ft b := fun b hb hf => ⟨fun f => by
        rcases fr.new b f with z | z
        · exact hf z
        · exact hb z, fun f => by
        rcases hef b f with z | z
        · exact hf z
        · exact hb z⟩
      have new3 : ∀ b, H3 b = none → ¬ d3.ft b ∧ ¬ e.ft b := fun b hb => by
        refine ⟨fun f => ?_, fun f => ?_⟩
        · obtain ⟨o, h2, _⟩ := foot_at sy.r0 f
          rw [hb] at h2; cases h2
        · obtain ⟨o, h2, _⟩ := foot_at sy.r1 f
          rw [hb] at h2; cases h2
      have r1n : H3 r1 = none := s4.free hr10
      have rmn : H3 rm = none := (s4.trans s5).free hrm
      have tbn : H3 tbl = none := (s36.trans ((s7.trans s8).trans s9)).free htbl
      have kpn : H3 kp = none := (s36.trans (((s7.trans s8).trans s9).trans s10)).free hkp
      obtain ⟨pxs, hpx⟩ := pu3.some
      have hp2 := pu2.ne
      have ne3 : ∀ {b c o}, H3 b = some o → H3 c = none → b ≠ c := fun h1 h2 => ne_of_none h1 h2
      have pca : p ≠ D.ca := fun z => by rw [z] at pne1; exact pne1 ov.ca0
      have pcs : p ≠ D.cs := fun z => by rw [z] at pne1; exact pne1 ov.cs0
      have r05 : H4 r0 ≠ none := by rw [hr0]; intro z; cases z
      have r0r1 : r0 ≠ r1 := ne_of_none hr0 hr10
      have r0rm : r0 ≠ rm := ne_of_none (s5 _ _ hr0) hrm
      have r0tb : r0 ≠ tbl := ne_of_none ((s6.trans ((s7.trans s8).trans s9)) _ _ (s5 _ _ hr0)) htbl
      have r0kp : r0 ≠ kp := ne_of_none ((s6.trans (((s7.trans s8).trans s9).trans s10)) _ _ (s5 _ _ hr0)) hkp
      have S11 : St K H11 B D d3 e 501 d3.ns := by
        subst hB
        refine ⟨sy.same s311, by rw [n1]; exact ov.f, nst_len ov.f.ss, cells_norm _ ov.f.ss, vt3.same s311, vs3.same s311, vtw.same s311, s311 _ _ (tup3 ov.la), s311 _ _ (tup3 ov.lsa), s311 _ _ ca3, s311 _ _ cs3, s11 _ _ htb10, ((((s8.trans s9).trans s10).trans s11)) _ _ ht07, (((s9.trans s10).trans s11)) _ _ ht18, ((s10.trans s11)) _ _ ht29, s611 _ _ hrm6, (s6.trans s611) _ _ (s5 _ _ hr0), ?_, rfl, (pu3.same s311).mono (by omega), ?_, fun b hb => ?_, ne3 hpx hr00, fun z => ?_, fun z => ?_⟩
        · rw [n2, ← n1]
          exact (s6.trans s611) _ _ hr1
        · have tb1 := tb0.ext s1
          have tb2 : Tbs K H2 := fun P hP => by
            obtain ⟨xs, hp1⟩ := pu1.some
            exact tabN_keep (tb1 P hP) (fun b ps h => b2 b _ (ne_of h hp1 (by intro z; cases z)) h) fun b φ h => b2 b _ (ne_of h hp1 (by intro z; cases z)) h
          have tb3 : Tbs K H3 := fun P hP => tabN_keep (tb2 P hP) (fun b ps h => fr.keep _ _ h fun f => by
            obtain ⟨o, h', g⟩ := foot_sort ov.own.rm f
            rw [h] at h'; cases h'
            rcases g with ⟨_, _, _, g⟩ | ⟨_, g⟩ <;> cases g) fun b φ h => fr.keep _ _ h fun f => by
            obtain ⟨o, h', g⟩ := foot_sort ov.own.rm f
            rw [h] at h'; cases h'
            rcases g with ⟨_, _, _, g⟩ | ⟨_, g⟩ <;> cases g
          exact tb3.ext s311
        · rcases hb with rfl | rfl | hb
          · exact at2 _ hp2 (t1 _ pne1)
          · exact new3 _ hr00
          · unfold LA.lists at hb
            simp only [List.mem_cons, List.mem_nil_iff, or_false] at hb
            rcases hb with rfl | rfl | rfl | rfl | rfl
            · exact new3 _ tbn
            · exact new3 _ rmn
            · exact new3 _ r1n
            · exact at2 _ (by rw [ov.ca]; intro z; cases z) ov.caf
            · exact at2 _ (by rw [ov.cs]; intro z; cases z) ov.csf
        · unfold LA.lists at z
          simp only [List.mem_cons, List.mem_nil_iff, or_false] at z
          rcases z with z | z | z | z | z
          · exact ne3 hpx tbn z
          · exact ne3 hpx rmn z
          · exact ne3 hpx r1n z
          · exact pca z
          · exact pcs z
        · unfold LA.lists at z
          simp only [List.mem_cons, List.mem_nil_iff, or_false] at z
          rcases z with z | z | z | z | z
          · exact r0tb z
          · exact r0rm z
          · exact r0r1 z
          · exact ne3 ca3 hr00 z.symm
          · exact ne3 cs3 hr00 z.symm
      have K11 : Kp K H11 B D d3 e kp [] := by
        subst hB
        refine ⟨hkp11, fun x h => (by cases h), (ne3 hpx kpn).symm, r0kp.symm, fun z => ?_, (new3 _ kpn).1, (new3 _ kpn).2⟩
        unfold LA.lists at z
        simp only [List.mem_cons, List.mem_nil_iff, or_false] at z
        rcases z with z | z | z | z | z
        · exact ne_of_none htb10 hkp z.symm
        · exact ne_of_none ((((s7.trans s8).trans s9).trans s10) _ _ hrm6) hkp z.symm
        · exact ne_of_none ((s6.trans (((s7.trans s8).trans s9).trans s10)) _ _ hr1) hkp z.symm
        · exact ne3 ca3 kpn z.symm
        · exact ne3 cs3 kpn z.symm
      have hpB : B.p = p := by rw [hB]
      have htbB : B.tb = tbl := by rw [hB]
      have hrmB : B.rooms = rm := by rw [hB]
      have hwB : B.w = tw := by rw [hB]
      have hr0B : B.r0 = r0 := by rw [hB]
      -- what stood ahead of this turn
      have old11 : ∀ b o, H0 b = some o → H11 b = some o := fun b o h => by
        have h1 := s1 _ _ h
        have h2 := b2 b o (ne_of_none h hp0) h1
        exact s311 _ _ (fr.keep _ _ h2 (t1 b (by rw [h1]; intro z; cases z)))
      have oldf : ∀ b, H0 b ≠ none → ¬ d3.ft b := fun b h f => by
        rcases fr.new b f with z | z
        · exact h (s1.free (ov.own.new b z))
        · exact h (s1.free (b2.there pu2.ne b z))
      have oldc : ∀ b, H0 b ≠ none → b ≠ B.p ∧ b ≠ B.r0 ∧ b ≠ kp := fun b h => by
        have fromN : ∀ c, H3 c = none → b ≠ c := fun c hc z => by
          have := fr.there c hc
          exact h (by rw [z]; exact s1.free (b2.there pu2.ne c this))
        refine ⟨fun z => h (by rw [z, hpB]; exact hp0), ?_, fromN kp kpn⟩
        rw [hr0B]; exact fromN r0 hr00
      have there11 : ∀ b, H11 b = none → H0 b = none := fun b h => s1.free (b2.there pu2.ne b (fr.there b (s311.free h)))
      have m011 : H11 m0 = some (.tup [.ref d3.a, .ref D.t, .ref D.la, .ref D.ca]) := s611 _ _ m06
      clear hB
      subst hpB htbB hrmB hwB hr0B
      have lCC : D.C.length = sz D.L := cells_len _ _ _
      have hL600 := ov.f.hL.okl.size
      have hL5 := ov.f.hL.len
      refine ⟨_, rfl, B.p, 13, 501, rfl, S11.pu, by decide, by decide, by omega, fun turns H12 hturns b12 pu12 => ?_⟩
      obtain ⟨S12, fr12⟩ := S11.take b12 pu12
      have K12 := K11.move S11 fr12
      refine ⟨(turns : Int), rfl, by omega, by omega, ?_⟩
      refine for_itE (walk_rng (m := turns) rfl) (fun t σ Hi => ∃ (d e : RD) (es : List (Addr × Int)), St K Hi B D d e (502 + 4 * t) d.ns ∧ Kp K Hi B D d e kp es ∧ es.length = t ∧ (∀ b o, H0 b = some o → (∀ ps, o ≠ .tbl ps) → Hi b = some o) ∧ (∀ b, Hi b = none → H0 b = none) ∧ (∀ b, H0 b ≠ none → ¬ d.ft b) ∧ Hi m0 = some (.tup [.ref d.a, .ref D.t, .ref D.la, .ref D.ca]) ∧ ∃ u9 u10 u11 u12, σ = [some (.ref a), some (.int (i : Int)), some (.ref B.p), some (.ref m0), some (.ref m1), some (.ref B.w), some (.ref B.rooms), some (.ref B.tb), some (.ref kp), u9, u10, u11, u12])
        ⟨d3, e, [], S12, K12, rfl, fun b o h _ => b12 b o (oldc b (by rw [h]; intro z; cases z)).1 (old11 b o h), fun b h => there11 b (b12.there pu12.ne b h), oldf, purse_but S11.pu b12 m011, u9, u10, u11, u12, rfl⟩ (fun _ _ _ _ _ => trivial) ?_ ?_
      · rintro t x σ Ht' Ht ht ⟨d, e, es, St0, Kt, hel, keep, there, oldf', hm0, v9, v10, v11, v12, rfl⟩ ⟨rfl, rfl⟩
        have k5 : 502 + 4 * t + 4 < 99000 := by omega
        refine ⟨fun σ Hm => ∃ d' e', St K Hm B D d' e' (502 + 4 * t + 4) d'.ns ∧ Fr2 B d e d' e' Ht Hm ∧ σ = [some (.ref a), some (.int (i : Int)), some (.ref B.p), some (.ref m0), some (.ref m1), some (.ref B.w), some (.ref B.rooms), some (.ref B.tb), some (.ref kp), some (.int (t : Int)), v10, v11, v12], ?_, ?_⟩
        · refine ⟨_, rfl, q_ixT (i := 2) hm0 rfl ⟨sz_ok (Nat.zero_le _), fun z hz => ?_⟩⟩
          have sz' : Same Ht (upd Ht z (.tup [])) := Same.new hz
          obtain ⟨S1, f1⟩ := St0.same sz'
          refine ⟨dT D.L, dT [], dp_tup (SqT.of S1.la), dp_tup (p := []) (SqT.of upd_same), sh_T _, sh_T _, _, rfl, ?_⟩
          rw [eqv_T]
          by_cases hLe : D.L = []
          · rw [decide_eq_true hLe]
            refine iteF (iteF ?_)
            exact ⟨_, rfl, _, rfl, _, rfl, B, D, d, e, _, rfl, S1, by omega, fun H' d' e' S' f' => ⟨d', e', S'.mono (by omega), f1.trans f', rfl⟩⟩
          · rw [decide_eq_false hLe]
            refine iteT ?_
            refine ⟨_, rfl, B.p, 3, _, rfl, S1.pu, by decide, by decide, by omega, fun c H2' hc b2' pu2' => ?_⟩
            obtain ⟨S2, f2⟩ := S1.take b2' pu2'
            refine ⟨rfl, _, rfl, ite2 (fun _ => ?_) fun _ => ?_⟩
            · exact ⟨_, rfl, _, rfl, _, rfl, B, D, d, e, _, rfl, S2, List.length_pos_iff.mpr hLe, by omega, fun H' d' e' S' f' => ⟨d', e', S'.mono (by omega), (f1.trans f2).trans f', rfl⟩⟩
            · exact ⟨_, rfl, _, rfl, _, rfl, B, D, d, e, _, rfl, S2, by omega, fun H' d' e' S' f' => ⟨d', e', S'.mono (by omega), (f1.trans f2).trans f', rfl⟩⟩
        · rintro σ H5 ⟨d', e', S5, f5, rfl⟩
          have K5 := Kt.move St0 f5
          have ea := (St0.same_a f5 S5).1
          have tup5 : ∀ {b xs}, Ht b = some (.tup xs) → H5 b = some (.tup xs) := fun {b xs} h => by
            obtain ⟨n1, n2, n3⟩ := St0.notTup h
            exact f5.keep _ _ h n1 n2 n3 (fun _ z => by cases z)
          have hm05 : H5 m0 = some (.tup [.ref d'.a, .ref D.t, .ref D.la, .ref D.ca]) := by rw [ea]; exact tup5 hm0
          have keep5 : ∀ b o, H0 b = some o → (∀ ps, o ≠ .tbl ps) → H5 b = some o := fun b o h n => by
            have hb : H0 b ≠ none := by rw [h]; intro z; cases z
            obtain ⟨n1, n2, n3⟩ := oldc b hb
            exact f5.keep _ _ (keep b o h n) n1 n2 (oldf' b hb) n
          have there5 : ∀ b, H5 b = none → H0 b = none := fun b h => there b (f5.there b h)
          have oldf5 : ∀ b, H0 b ≠ none → ¬ d'.ft b := fun b h f => by
            rcases f5.new b f with z | z
            · exact oldf' b h z
            · exact h (there b z)
          obtain ⟨row, hrow⟩ : ∃ row, row = pick d'.ns D.C := ⟨_, rfl⟩
          have hrl : row.length = sz D.L := by rw [hrow]; unfold pick; rw [List.length_map]; exact lCC
          refine ⟨_, rfl, q_ixT (i := 1) hm05 rfl ⟨D.t, d'.a, .non, false, D.L, List.range D.L.length, [], D.b, D.st, d'.ns, rfl, S5.src0, .inl ⟨rfl, rfl, rfl, rfl⟩, leftN_okl hL5 (fun i hi => decide_eq_true (List.mem_range.mpr hi)), fun y H6 s6 nv => ?_⟩⟩
          rw [← hrow, sums_all hrl] at nv
          obtain ⟨S6, f6⟩ := S5.same s6
          have K6 := K5.move S5 f6
          have hm06 := s6 _ _ hm05
          refine ⟨_, rfl, .inl ⟨rfl, _, SqL.of K6.at_⟩, _, rfl, _, rfl, q_ixT (i := 3) hm06 rfl ⟨D.ca, rfl, ⟨_, SqL.of S6.ca⟩, fun Dc hDc => ?_⟩⟩
          refine lc_new walk_ti (by omega) hDc (fun j y _ => ∃ z : Int, row[j]? = some z ∧ y = .int z) (fun H3 s3 => SqL.of (s3 _ _ S6.ca)) (fun _ _ _ _ _ h => h) ?_ ?_
          · rintro j x H7 H8 Kt' hj s7 hacc ⟨rfl, c, hc, rfl⟩ kt
            have hcw := S6.f.w c (List.mem_of_getElem? hc)
            exact ⟨rfl, _, rfl, q_ixL (i := 0) (SqL.of (s7 _ _ S6.rooms)) rfl ⟨_, rfl, q_cell (s7 _ _ S6.r0) hcw.1 hcw.2 (kt _ _ (Same.refl _) ⟨_, by rw [hrow]; exact pick_at hc, rfl⟩)⟩⟩
          intro ys H7 s7 hD7 hy hR
          have ey := ys_ti (p := row) (by rw [hy, hrl]; exact lCC) hR
          subst ey
          refine ⟨Dc, row, rfl, SqL.of hD7, sz_ok (by show 2 ≤ 100000; decide), fun tt htt => ?_⟩
          have s8 : Same H7 (upd H7 tt (.tup [.ref y, .int row.sum])) := Same.new htt
          have htt8 : (upd H7 tt (.tup [.ref y, .int row.sum])) tt = some (.tup [.ref y, .int row.sum]) := upd_same
          generalize upd H7 tt (.tup [.ref y, .int row.sum]) = H8 at s8 htt8 ⊢
          have s68 := s7.trans s8
          obtain ⟨S8, f8⟩ := S6.same s68
          have K8 := K6.move S6 f8
          have hm08 := s68 _ _ hm06
          refine ⟨kp, _, _, rfl, rfl, K8.at_, sz_lt (by rw [List.length_map, hel]; omega), ?_⟩
          have kE : KeptE K H8 (Chg B d' kp) tt row.sum := by
            obtain ⟨r, vb, vss, Gf, a1, a2, a3, ⟨wd, pl, c, s', ps, ks, hd, hrm, hft⟩, a5, a6⟩ := nv
            have e1 : vss = [] := List.length_eq_zero_iff.mp a2
            subst e1
            have e2 : vb = 0 := by
              have : [vb] = [(0 : Int)] := by rw [← cells_nil vb, a3]; rfl
              injection this
            refine ⟨y, r, vb, wd, pl, c, s', ps, ks, hd, htt8, a1.same s68, e2, hrm.keep fun b o _ h => s68 _ _ h, fun b f z => ?_⟩
            have hb := a5 b (hft b f)
            rcases z with z | z | z | z
            · obtain ⟨o, h, _⟩ := foot_at S5.sy.r0 z
              rw [hb] at h; cases h
            · rw [z] at hb; exact S5.pu.ne hb
            · rw [z, S5.r0] at hb; cases hb
            · rw [z, K5.at_] at hb; cases hb
          have K9 := K8.add S8 kE
          have S9 := S8.other K8.at_ K8.np K8.nr K8.nl K8.nf K8.nfe (es.map (fun x => V.ref x.1) ++ [.ref tt])
          have b9 : But kp H8 (upd H8 kp (.lst (es.map (fun x => V.ref x.1) ++ [.ref tt]))) := But.put
          have there9 := b9.there (by rw [upd_same]; intro z; cases z)
          have hm09 := b9 _ _ (ne_of hm08 K8.at_ (by intro z; cases z)) hm08
          generalize upd H8 kp (.lst (es.map (fun x => V.ref x.1) ++ [.ref tt])) = H9 at K9 S9 b9 there9 hm09 ⊢
          refine ⟨_, rfl, _, rfl, B.tb, B.rooms, [B.t0, B.t1, B.t2], _, rfl, S9.tb, S9.rooms, fun t' ht' => ?_, fun H10 s10 => ⟨_, rfl, iteF ?_⟩⟩
          · simp only [List.mem_cons, List.mem_nil_iff, or_false] at ht'
            rcases ht' with rfl | rfl | rfl
            · exact S9.entry (j := 0) (by decide)
            · exact S9.entry (j := 1) (by decide)
            · exact S9.entry (j := 2) (by decide)
          obtain ⟨S10, f10⟩ := S9.same s10
          have K10 := K9.move S9 f10
          have s58 := s6.trans s68
          refine ⟨d', e', es ++ [(tt, row.sum)], S10.mono (by omega), K10, by rw [List.length_append, hel]; rfl, fun b o h n => ?_, fun b h => there5 b (s58.free (there9 b (s10.free h))), oldf5, s10 _ _ hm09, some (.int (t : Int)), some (.ref y), v11, v12, rfl⟩
          have hb : H0 b ≠ none := by rw [h]; intro z; cases z
          exact s10 _ _ (b9 _ _ (oldc b hb).2.2 (s58 _ _ (keep5 b o h n)))
      · rintro σ Hf ⟨d, e, es, S, Kf, hel, keep, there, oldf', hm0, v9, v10, v11, v12, rfl⟩
        obtain ⟨rdx', hro'⟩ := S.sy.r0.ob
        obtain ⟨edx, heo⟩ := S.sy.r1.ob
        obtain ⟨wla, wsa, ⟨wdx, hw1⟩, hw2, hw3⟩ := id S.vw
        have nsl2 : d.ns.length ≤ 20000 := S.f.n2
        refine ⟨_, rfl, q_ixT (i := 0) hm0 rfl ⟨d.a, rdx', _, rfl, hro', room_no (by decide) (by decide) (by decide) (by decide) (by decide), d.a, d.ns, rfl, ⟨_, _, _, _, _, _, _, S.sy.r0⟩, nsl2, fun l1 G1 g1 hl10 hl1 => ?_⟩⟩
        refine ⟨_, rfl, q_ixL (i := 0) (SqL.of (g1 _ _ S.rooms)) rfl ⟨_, _, dp_lst (SqL.of hl1), dp_lst (SqL.of (g1 _ _ S.r0)), sh_I _, sh_I _, _, rfl, ?_⟩⟩
        rw [eqv_I, decide_eq_true rfl]
        refine iteF ?_
        refine ⟨_, rfl, B.w, wdx, _, rfl, g1 _ _ hw1, view_no (by decide) (by decide) (by decide) (by decide), B.w, e.a, D.ls, B.wb, B.wss, rfl, S.vw.same g1, e.a, edx, _, rfl, g1 _ _ heo, room_no (by decide) (by decide) (by decide) (by decide) (by decide), e.a, e.ns, rfl, RoomR.same ⟨_, _, _, _, _, _, _, S.sy.r1⟩ g1, by rw [← S.sy.ln]; exact nsl2, fun l2 G2 g2 hl20 hl2 => ?_⟩
        have g02 := g1.trans g2
        refine ⟨_, rfl, q_ixL (i := 1) (SqL.of (g02 _ _ S.rooms)) rfl ⟨_, _, dp_lst (SqL.of hl2), dp_lst (SqL.of (g02 _ _ S.r1)), sh_I _, sh_I _, _, rfl, ?_⟩⟩
        rw [eqv_I, decide_eq_true rfl]
        refine iteF ?_
        have hkp2 := g02 _ _ Kf.at_
        have hes : es.length ≤ 90000 := by omega
        have lrows : (es.map fun x => [x.2]).length = es.length := List.length_map ..
        refine ⟨_, rfl, kp, rfl, ⟨_, SqL.of hkp2⟩, fun D1 hD1 => ?_⟩
        refine lc_new (walkE K kp es) hes hD1 (fun j y H => ∃ b, y = V.ref b ∧ (∀ z, es[j]? = some z → H b = some (.lst (ti [z.2]))) ∧ b ≠ D1) (fun H3 s3 => SqL.of (s3 _ _ hkp2)) (fun j y H H' bt ⟨b, e1, e2, e3⟩ => ⟨b, e1, fun z hz => bt _ _ e3 (e2 z hz), e3⟩) ?_ ?_
        · rintro j x H3 H4 Kt' hj s3 ⟨acc, hacc⟩ ⟨rfl, z, hz, rfl⟩ kt
          obtain ⟨v, r', b, wd, pl, c, s', ps, ks, hd, q1, q2, rfl, q4, q5⟩ := (Kf.each z (List.mem_of_getElem? hz)).ex
          have g3 := g02.trans s3
          have q2' := q2.same g3
          obtain ⟨yla, ysa, ⟨ydx, y1⟩, y2, y3⟩ := id q2'
          refine ⟨z.1, _, rfl, SqT.of (g3 _ _ q1), rfl, _, _, rfl, _, _, rfl, rfl, rfl, _, rfl, v, ydx, _, rfl, y1, view_no (by decide) (by decide) (by decide) (by decide), v, r', [], 0, [], [z.2], rfl, q2', ⟨by decide, by decide, fun l h => by cases h⟩, rfl, ⟨_, _, _, _, _, _, _, q4.keep fun b o _ h => g3 _ _ h⟩, ?_, fun l G4 g4 hl0 hl => kt _ _ g4 ⟨l, rfl, fun z' hz' => ?_, (ne_of_none hacc hl0).symm⟩⟩
          · rw [cells_nil]
            intro c hc
            rw [List.mem_singleton.mp hc]
            exact ⟨Int.le_refl _, (by show (0 : Int) < 1; decide)⟩
          · rw [hz] at hz'
            cases hz'
            rw [hl, cells_nil]
            rfl
        intro ys G3 g3 hD13 hy1 hR1
        obtain ⟨as1, rfl, has1⟩ := refs_of (Pr := fun j b => (∀ z, es[j]? = some z → G3 b = some (.lst (ti [z.2]))) ∧ b ≠ D1) hR1
        have hkp3 := g3 _ _ hkp2
        refine ⟨_, rfl, kp, rfl, ⟨_, SqL.of hkp3⟩, fun D2 hD2 => ?_⟩
        refine lc_new (walkE K kp es) hes hD2 (fun j y H => ∃ b, y = V.ref b ∧ (∀ z, es[j]? = some z → H b = some (.lst (ti [z.2]))) ∧ b ≠ D2) (fun H3 s3 => SqL.of (s3 _ _ hkp3)) (fun j y H H' bt ⟨b, e1, e2, e3⟩ => ⟨b, e1, fun z hz => bt _ _ e3 (e2 z hz), e3⟩) ?_ ?_
        · rintro j x H3 H4 Kt' hj s3 ⟨acc, hacc⟩ ⟨rfl, z, hz, rfl⟩ kt
          obtain ⟨v, r', b, wd, pl, c, s', ps, ks, hd, q1, q2, rfl, q4, q5⟩ := (Kf.each z (List.mem_of_getElem? hz)).ex
          have g4 := (g02.trans g3).trans s3
          refine ⟨z.1, _, rfl, SqT.of (g4 _ _ q1), rfl, _, _, rfl, _, _, rfl, rfl, rfl, _, rfl, sz_ok (by show 1 ≤ 100000; decide), fun l hl0 => kt _ _ (Same.new hl0) ⟨l, rfl, fun z' hz' => ?_, (ne_of_none hacc hl0).symm⟩⟩
          rw [hz] at hz'
          cases hz'
          exact upd_same
        intro ys G4 g4 hD24 hy2 hR2
        obtain ⟨as2, rfl, has2⟩ := refs_of (Pr := fun j b => (∀ z, es[j]? = some z → G4 b = some (.lst (ti [z.2]))) ∧ b ≠ D2) hR2
        have rows1 : RowsZ G4 as1 (es.map fun x => [x.2]) := by
          refine ⟨by rw [lrows, ← hy1, List.length_map], fun j b r' h1 h2 => ?_⟩
          rw [List.getElem?_map] at h2
          cases hz : es[j]? with
          | none => rw [hz] at h2; cases h2
          | some z =>
            rw [hz] at h2
            cases h2
            exact g4 _ _ ((has1 j b h1).1 z hz)
        have rows2 : RowsZ G4 as2 (es.map fun x => [x.2]) := by
          refine ⟨by rw [lrows, ← hy2, List.length_map], fun j b r' h1 h2 => ?_⟩
          rw [List.getElem?_map] at h2
          cases hz : es[j]? with
          | none => rw [hz] at h2; cases h2
          | some z =>
            rw [hz] at h2
            cases h2
            exact (has2 j b h1).1 z hz
        refine ⟨.list ((es.map fun x => [x.2]).map dI), .list ((es.map fun x => [x.2]).map dI), .lst (SqL.of (g4 _ _ hD13)) (dp_rows rows1), .lst (SqL.of hD24) (dp_rows rows2), sh_map cl_I dep_I _, sh_map cl_I dep_I _, _, rfl, ?_⟩
        rw [PyData.eqv, eqv_LI, decide_eq_true rfl]
        refine iteF ?_
        have gf := (g02.trans g3).trans g4
        exact ⟨x0.trans ⟨fun b o h n => gf _ _ (keep b o h n), fun b h => there b (gf.free h)⟩, S.tbs.ext gf, _, _, _, _, _, _, _, _, _, _, _, _, rfl⟩
    · rintro σ Hi ⟨x0, tb0, u1, u2, u3, u4, u5, u6, u7, u8, u9, u10, u11, u12, rfl⟩
      exact q Hi
end
end VG
-- VgEnd0
set_option Elab.async false
set_option linter.all false
set_option maxRecDepth 100000
set_option maxHeartbeats 0
namespace VG
open PySem PySem.Spec PyProof.Rows L2
theorem told_code {h : Heap} {K : PySem.W.Frag} (X : K.In h) (c : Told h K) : ∀ p ∈ tf, PySem.W.CodeHd h (He.cT K p).1 (He.cT K p).2 := by
  intro p hp
  exact PySem.W.codeHd_of_K X (c.hd p hp)
end VG
section
open PySem PySem.W PySem.Calls PyProof.Rows
theorem VG.holds_of (k : Nat) (hr : L2.Room k callerA)
    (F : ∀ (w : World) (mg : Str → Option Value) (fa : Addr) (h : Heap) (K : PySem.W.Frag), K.In h → VG.Told h K → h.Ns mainGlobals mg → mg "law" = some (.ref fa) →
      LamX.LawAtS PySem.Challenge.rw_viewgrid_k95_whole_reckoned_again_and_ag w K L2.CX0 k 63 "_law_script" mg fa h) :
    PySem.Challenge.rw_viewgrid_k95_whole_reckoned_again_and_ag.Holds := by
  w_on; o_law
  refine HandSHeadRun.head_any (r := VG.R) (q := VG.qv) (H := VG.hk) (ob := VG.ob) (M := 20000) (loose := VG.loose) (d := HandSHeadRun.topDef VG.R.prog 84) (kwd := []) VG.ob_eq
    (by kernel_rfl) (fun s => by kernel_rfl) VG.run (by kernel_rfl) (by kernel_rfl) (by kernel_rfl) (by rfl) (by first | assumption | decide +kernel) (by decide +kernel) ⟨rfl, rfl, rfl, rfl, rfl, by decide +kernel⟩ ?hw ?hc
  case hw => w_witness2
  case hc =>
    refine LamX.walk_ofTsE (l := PySem.Challenge.rw_viewgrid_k95_whole_reckoned_again_and_ag) (n := 63) (k := k) (x := "_law_script") (CX := fun _ => L2.CX0) rfl (by decide) (by kernel_rfl) hr ?F (fun _ _ _ _ _ z => z)
    intro w mg fa h Y G hmg0
    obtain ⟨K, KX, c⟩ := Y
    have hmg : mg ("law" : PySem.Str) = some (.ref fa) := by
      have e : (HandSHeadRun.topDef VG.R.prog 84).name = ("law" : PySem.Str) := by kernel_rfl
      rw [← e]
      exact hmg0
    exact ⟨K, KX, F w mg fa h K KX c G hmg⟩
end
-- VgEnd
set_option Elab.async false
set_option linter.all false
set_option maxRecDepth 100000
set_option maxHeartbeats 0
open PySem PySem.W PySem.Calls PyProof.Rows
theorem VG.law_at (w : World) (mg : Str → Option Value) (fa : Addr) (h : Heap) (K : PySem.W.Frag) (hK : K.In h) (c : VG.Told h K) (hN : h.Ns mainGlobals mg) (hm : mg "law" = some (.ref fa)) :
    LamX.LawAtS PySem.Challenge.rw_viewgrid_k95_whole_reckoned_again_and_ag w K L2.CX0 20 63 "_law_script" mg fa h := by
  have T : VG.Tx K mg := ⟨⟨h, hK, hN⟩, c.d⟩
  obtain ⟨fd, F⟩ := VG.f_law T
  have e1 := VG.g_law T
  have e2 : fa = He.ga K "law" := by
    rw [hm] at e1
    injection e1 with e1
    injection e1
  subst e2
  refine ⟨fd, VG.tf.map (He.cT K), VG.spLaw K, fun p hp => ?_, fun p hp => ?_, fun p hp => ?_, fun s u => ?_, fun H a ns hlen _ hT hs => ?_, fun base hB hNb hTb => ?_⟩
  · obtain ⟨q, hq, rfl⟩ := List.mem_map.mp hp
    exact c.bare q hq
  · obtain ⟨q, hq, rfl⟩ := List.mem_map.mp hp
    exact c.out q hq
  · obtain ⟨q, hq, rfl⟩ := List.mem_map.mp hp
    exact VG.told_code hK c q hq
  · exact F.bindsA (ps := ["_law_script"]) (fun _ _ _ _ _ _ us hl => match us, hl with | [_], _ => rfl) s [u] rfl
  · refine ⟨a, ns, rfl, hs, hlen, fun P hP => ?_, fun _ => rfl⟩
    obtain ⟨q, hq, rfl⟩ := List.mem_map.mp hP
    refine ⟨#[], hT _ (List.mem_map.mpr ⟨q, hq, rfl⟩), ?_, fun pos cv h => ?_⟩
    · trivial
    · cases h
  · exact VG.fn_law ⟨⟨h, hK, hN⟩, c.d⟩ (fun q hq => hTb _ (List.mem_map.mpr ⟨q, hq, rfl⟩)) F
theorem PySem.Challenge.cw_viewgrid_k95_whole_reckoned_again_and_ag_holds : PySem.Challenge.rw_viewgrid_k95_whole_reckoned_again_and_ag.Holds := by
  exact VG.holds_of 20 ⟨rfl, by decide, by decide⟩ VG.law_at
