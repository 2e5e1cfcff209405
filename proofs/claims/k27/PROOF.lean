import PyProof.Rows.All
import Wide.All
import OpenK.AllK
import Wide.FinOn
import PySem.Challenge.RW_pillarstore_k27_sieves_whole
import HandS.ForMost
import HandS.Defaults
import HandS.Codes
import HandS.Evl
import HandS.Wide
import HandS.WideBits
import HandS.IsInst
import HandS.Walk
import HandS.Conv
import HandS.Deep
import HandS.TupAny
import HandS.Head0
import HandS.Head1
import HandS.Head2
import HandS.HeadEnd
import HandS.HeadHook1
import HandS.HeadHook2
import HandS.Replace
import HandS.NoneIn
import KE.DataMinMax
import KE.DataMinKey
import HandS.SortKw
import KE.SortKeyHeap
import KE.KEqSeq
import HandS.Words
import HandS.TupSets
import HandS.Strs
import HandS.Zip
set_option Elab.async false
set_option linter.all false
set_option maxRecDepth 100000
set_option maxHeartbeats 4000000
namespace Pk
open PySem PySem.Spec PyProof.Rows L2
/-! the text by places; each def's slots -/
def topS (i : Nat) : Stmt := PySem.Challenge.pw_pillarstore_k27_sieves_whole.main.body.getD i (.Pass ⟨0, 0, 0, 0⟩)
abbrev s_is_so : Stmt := topS 2
abbrev s_meets : Stmt := topS 3
abbrev s_note_of : Stmt := topS 4
abbrev s_has_none : Stmt := topS 5
abbrev s_has_all : Stmt := topS 6
abbrev s_looked_open : Stmt := topS 7
abbrev s_looked : Stmt := topS 8
abbrev s_pair_meets : Stmt := topS 10
abbrev s_row_meets : Stmt := topS 11
abbrev s_places_in : Stmt := topS 12
abbrev s_Glance_init : Stmt := inClass (topS 14) 0
abbrev s_Glance_size : Stmt := inClass (topS 14) 1
abbrev s_Glance_all_open : Stmt := inClass (topS 14) 2
abbrev s_Glance_had : Stmt := inClass (topS 14) 3
abbrev s_Glance_places_seen : Stmt := inClass (topS 14) 4
abbrev s_Glance_cell_bits : Stmt := inClass (topS 14) 5
abbrev s_Glance_pair_bits : Stmt := inClass (topS 14) 6
abbrev s_Glance_bits : Stmt := inClass (topS 14) 7
abbrev s_glances : Stmt := topS 15
abbrev s_sieved : Stmt := topS 16
abbrev s_rows_picked : Stmt := topS 17
abbrev s_picked : Stmt := topS 18
abbrev s_is_number : Stmt := topS 27
abbrev s_is_text_cell : Stmt := topS 28
abbrev s_is_cell_of : Stmt := topS 29
abbrev s_cell_key : Stmt := topS 30
abbrev s_number_bytes : Stmt := topS 36
abbrev s_text_bytes : Stmt := topS 37
abbrev s_cell_bytes : Stmt := topS 38
abbrev s_byte_at : Stmt := topS 39
abbrev s_number_of : Stmt := topS 40
abbrev s_take_number : Stmt := topS 41
abbrev s_take_text : Stmt := topS 42
abbrev s_take_cell : Stmt := topS 43
abbrev s_bits_for : Stmt := topS 44
abbrev s_power_of : Stmt := topS 45
abbrev s_byte_count : Stmt := topS 46
abbrev s_packed : Stmt := topS 47
abbrev s_take_packed : Stmt := topS 48
abbrev s_runs_of : Stmt := topS 51
abbrev s_book_of : Stmt := topS 52
abbrev s_all_bytes : Stmt := topS 53
abbrev s_run_bytes : Stmt := topS 54
abbrev s_book_bytes : Stmt := topS 55
abbrev s_small_bytes : Stmt := topS 56
abbrev s_base_bytes : Stmt := topS 57
abbrev s_step_bytes : Stmt := topS 58
abbrev s_press_by : Stmt := topS 59
abbrev s_pressed : Stmt := topS 60
abbrev s_take_byte : Stmt := topS 65
abbrev s_take_count : Stmt := topS 66
abbrev s_take_cells : Stmt := topS 67
abbrev s_take_runs : Stmt := topS 68
abbrev s_take_book : Stmt := topS 69
abbrev s_take_small : Stmt := topS 70
abbrev s_run_cells : Stmt := topS 71
abbrev s_book_cells : Stmt := topS 72
abbrev s_base_cells : Stmt := topS 73
abbrev s_step_cells : Stmt := topS 74
abbrev s_cells_by : Stmt := topS 75
abbrev s_take_head : Stmt := topS 76
abbrev s_is_stretch : Stmt := topS 77
abbrev s_unpressed : Stmt := topS 78
abbrev s_Pillar_init : Stmt := inClass (topS 82) 0
abbrev s_Pillar_notes : Stmt := inClass (topS 82) 3
abbrev s_Pillar_stretch : Stmt := inClass (topS 82) 4
abbrev s_law_begin : Stmt := topS 84
abbrev s_law_take : Stmt := topS 85
abbrev s_law_number : Stmt := topS 86
abbrev s_law_text : Stmt := topS 87
abbrev s_law_cells : Stmt := topS 88
abbrev s_law_kinds : Stmt := topS 89
abbrev s_law_near : Stmt := topS 90
abbrev s_law_cell_test : Stmt := topS 91
abbrev s_law_test : Stmt := topS 92
abbrev s_law_shape : Stmt := topS 93
abbrev s_law_same : Stmt := topS 94
abbrev s_law_reads_right : Stmt := topS 95
abbrev s_law_right : Stmt := topS 96
abbrev s_law : Stmt := topS 97
abbrev N_is_so : List Str := ["cell", "sign", "value"]
theorem sc_is_so : FnScope N_is_so ["cell", "sign", "value"] (defScope s_is_so) := ⟨rfl, rfl, rfl, by decide +kernel, rfl, by decide +kernel, by decide +kernel⟩
abbrev N_meets : List Str := ["cell", "test"]
theorem sc_meets : FnScope N_meets ["cell", "test"] (defScope s_meets) := ⟨rfl, rfl, rfl, by decide +kernel, rfl, by decide +kernel, by decide +kernel⟩
abbrev N_note_of : List Str := ["cells", "known", "cell"]
theorem sc_note_of : FnScope N_note_of ["cells"] (defScope s_note_of) := ⟨rfl, rfl, rfl, by decide +kernel, rfl, by decide +kernel, by decide +kernel⟩
abbrev N_has_none : List Str := ["least", "greatest", "sign", "value"]
theorem sc_has_none : FnScope N_has_none ["least", "greatest", "sign", "value"] (defScope s_has_none) := ⟨rfl, rfl, rfl, by decide +kernel, rfl, by decide +kernel, by decide +kernel⟩
abbrev N_has_all : List Str := ["least", "greatest", "sign", "value"]
theorem sc_has_all : FnScope N_has_all ["least", "greatest", "sign", "value"] (defScope s_has_all) := ⟨rfl, rfl, rfl, by decide +kernel, rfl, by decide +kernel, by decide +kernel⟩
abbrev N_looked_open : List Str := ["many", "so_many_open"]
theorem sc_looked_open : FnScope N_looked_open ["many", "so_many_open"] (defScope s_looked_open) := ⟨rfl, rfl, rfl, by decide +kernel, rfl, by decide +kernel, by decide +kernel⟩
abbrev N_looked : List Str := ["note", "test", "many", "so_many_open", "least", "greatest", "none", "each", "value"]
theorem sc_looked : FnScope N_looked ["note", "test"] (defScope s_looked) := ⟨rfl, rfl, rfl, by decide +kernel, rfl, by decide +kernel, by decide +kernel⟩
abbrev N_pair_meets : List Str := ["one", "sign", "other"]
theorem sc_pair_meets : FnScope N_pair_meets ["one", "sign", "other"] (defScope s_pair_meets) := ⟨rfl, rfl, rfl, by decide +kernel, rfl, by decide +kernel, by decide +kernel⟩
abbrev N_row_meets : List Str := ["row", "test", "word", "first"]
theorem sc_row_meets : FnScope N_row_meets ["row", "test"] (defScope s_row_meets) := ⟨rfl, rfl, rfl, by decide +kernel, rfl, by decide +kernel, by decide +kernel⟩
abbrev N_places_in : List Str := ["test", "found", "part"]
theorem sc_places_in : FnScope N_places_in ["test"] (defScope s_places_in) := ⟨rfl, rfl, rfl, by decide +kernel, rfl, by decide +kernel, by decide +kernel⟩
abbrev N_Glance_init : List Str := ["self", "some", "notes_there", "at"]
theorem sc_Glance_init : FnScope N_Glance_init ["self", "some", "notes_there", "at"] (defScope s_Glance_init) := ⟨rfl, rfl, rfl, by decide +kernel, rfl, by decide +kernel, by decide +kernel⟩
abbrev N_Glance_size : List Str := ["self"]
theorem sc_Glance_size : FnScope N_Glance_size ["self"] (defScope s_Glance_size) := ⟨rfl, rfl, rfl, by decide +kernel, rfl, by decide +kernel, by decide +kernel⟩
abbrev N_Glance_all_open : List Str := ["self", "place", "note"]
theorem sc_Glance_all_open : FnScope N_Glance_all_open ["self", "place"] (defScope s_Glance_all_open) := ⟨rfl, rfl, rfl, by decide +kernel, rfl, by decide +kernel, by decide +kernel⟩
abbrev N_Glance_had : List Str := ["self", "place"]
theorem sc_Glance_had : FnScope N_Glance_had ["self", "place"] (defScope s_Glance_had) := ⟨rfl, rfl, rfl, by decide +kernel, rfl, by decide +kernel, by decide +kernel⟩
abbrev N_Glance_places_seen : List Str := ["self", "place"]
theorem sc_Glance_places_seen : FnScope N_Glance_places_seen ["self"] (defScope s_Glance_places_seen) := ⟨rfl, rfl, rfl, by decide +kernel, rfl, by decide +kernel, by decide +kernel⟩
abbrev N_Glance_cell_bits : List Str := ["self", "place", "test", "known", "cell"]
theorem sc_Glance_cell_bits : FnScope N_Glance_cell_bits ["self", "place", "test"] (defScope s_Glance_cell_bits) := ⟨rfl, rfl, rfl, by decide +kernel, rfl, by decide +kernel, by decide +kernel⟩
abbrev N_Glance_pair_bits : List Str := ["self", "place", "sign", "other", "ones", "others", "cell", "beside"]
theorem sc_Glance_pair_bits : FnScope N_Glance_pair_bits ["self", "place", "sign", "other"] (defScope s_Glance_pair_bits) := ⟨rfl, rfl, rfl, by decide +kernel, rfl, by decide +kernel, by decide +kernel⟩
abbrev N_Glance_bits : List Str := ["self", "test", "word", "first", "second", "bit", "beside"]
theorem sc_Glance_bits : FnScope N_Glance_bits ["self", "test"] (defScope s_Glance_bits) := ⟨rfl, rfl, rfl, by decide +kernel, rfl, by decide +kernel, by decide +kernel⟩
abbrev N_glances : List Str := ["pillars", "all_notes", "pillar", "at", "notes"]
theorem sc_glances : FnScope N_glances ["pillars"] (defScope s_glances) := ⟨rfl, rfl, rfl, by decide +kernel, rfl, by decide +kernel, by decide +kernel⟩
abbrev N_sieved : List Str := ["pillars", "test", "mask", "read_pairs", "glance"]
theorem sc_sieved : FnScope N_sieved ["pillars", "test"] (defScope s_sieved) := ⟨rfl, rfl, rfl, by decide +kernel, rfl, by decide +kernel, by decide +kernel⟩
abbrev N_rows_picked : List Str := ["glance", "bits", "places", "columns", "place", "k", "bit", "column"]
theorem sc_rows_picked : FnScope N_rows_picked ["glance", "bits", "places"] (defScope s_rows_picked) := ⟨rfl, rfl, rfl, by decide +kernel, rfl, by decide +kernel, by decide +kernel⟩
abbrev N_picked : List Str := ["pillars", "mask", "places", "found", "read_pairs", "behind", "glance", "ahead", "bits"]
theorem sc_picked : FnScope N_picked ["pillars", "mask", "places"] (defScope s_picked) := ⟨rfl, rfl, rfl, by decide +kernel, rfl, by decide +kernel, by decide +kernel⟩
abbrev N_is_number : List Str := ["thing"]
theorem sc_is_number : FnScope N_is_number ["thing"] (defScope s_is_number) := ⟨rfl, rfl, rfl, by decide +kernel, rfl, by decide +kernel, by decide +kernel⟩
abbrev N_is_text_cell : List Str := ["thing", "sign"]
theorem sc_is_text_cell : FnScope N_is_text_cell ["thing"] (defScope s_is_text_cell) := ⟨rfl, rfl, rfl, by decide +kernel, rfl, by decide +kernel, by decide +kernel⟩
abbrev N_is_cell_of : List Str := ["kind", "thing"]
theorem sc_is_cell_of : FnScope N_is_cell_of ["kind", "thing"] (defScope s_is_cell_of) := ⟨rfl, rfl, rfl, by decide +kernel, rfl, by decide +kernel, by decide +kernel⟩
abbrev N_cell_key : List Str := ["cell"]
theorem sc_cell_key : FnScope N_cell_key ["cell"] (defScope s_cell_key) := ⟨rfl, rfl, rfl, by decide +kernel, rfl, by decide +kernel, by decide +kernel⟩
abbrev N_number_bytes : List Str := ["number", "rest", "made"]
theorem sc_number_bytes : FnScope N_number_bytes ["number"] (defScope s_number_bytes) := ⟨rfl, rfl, rfl, by decide +kernel, rfl, by decide +kernel, by decide +kernel⟩
abbrev N_text_bytes : List Str := ["text", "sign"]
theorem sc_text_bytes : FnScope N_text_bytes ["text"] (defScope s_text_bytes) := ⟨rfl, rfl, rfl, by decide +kernel, rfl, by decide +kernel, by decide +kernel⟩
abbrev N_cell_bytes : List Str := ["cell"]
theorem sc_cell_bytes : FnScope N_cell_bytes ["cell"] (defScope s_cell_bytes) := ⟨rfl, rfl, rfl, by decide +kernel, rfl, by decide +kernel, by decide +kernel⟩
abbrev N_byte_at : List Str := ["row", "at"]
theorem sc_byte_at : FnScope N_byte_at ["row", "at"] (defScope s_byte_at) := ⟨rfl, rfl, rfl, by decide +kernel, rfl, by decide +kernel, by decide +kernel⟩
abbrev N_number_of : List Str := ["rest"]
theorem sc_number_of : FnScope N_number_of ["rest"] (defScope s_number_of) := ⟨rfl, rfl, rfl, by decide +kernel, rfl, by decide +kernel, by decide +kernel⟩
abbrev N_take_number : List Str := ["row", "at", "rest", "weight", "turn", "byte"]
theorem sc_take_number : FnScope N_take_number ["row", "at"] (defScope s_take_number) := ⟨rfl, rfl, rfl, by decide +kernel, rfl, by decide +kernel, by decide +kernel⟩
abbrev N_take_text : List Str := ["row", "at", "many", "text", "turn", "byte"]
theorem sc_take_text : FnScope N_take_text ["row", "at"] (defScope s_take_text) := ⟨rfl, rfl, rfl, by decide +kernel, rfl, by decide +kernel, by decide +kernel⟩
abbrev N_take_cell : List Str := ["row", "at", "kind"]
theorem sc_take_cell : FnScope N_take_cell ["row", "at"] (defScope s_take_cell) := ⟨rfl, rfl, rfl, by decide +kernel, rfl, by decide +kernel, by decide +kernel⟩
abbrev N_bits_for : List Str := ["number", "wide"]
theorem sc_bits_for : FnScope N_bits_for ["number"] (defScope s_bits_for) := ⟨rfl, rfl, rfl, by decide +kernel, rfl, by decide +kernel, by decide +kernel⟩
abbrev N_power_of : List Str := ["wide", "power", "turn"]
theorem sc_power_of : FnScope N_power_of ["wide"] (defScope s_power_of) := ⟨rfl, rfl, rfl, by decide +kernel, rfl, by decide +kernel, by decide +kernel⟩
abbrev N_byte_count : List Str := ["many", "wide"]
theorem sc_byte_count : FnScope N_byte_count ["many", "wide"] (defScope s_byte_count) := ⟨rfl, rfl, rfl, by decide +kernel, rfl, by decide +kernel, by decide +kernel⟩
abbrev N_packed : List Str := ["numbers", "wide", "power", "rest", "number", "made", "turn"]
theorem sc_packed : FnScope N_packed ["numbers", "wide"] (defScope s_packed) := ⟨rfl, rfl, rfl, by decide +kernel, rfl, by decide +kernel, by decide +kernel⟩
abbrev N_take_packed : List Str := ["row", "at", "many", "wide", "behind", "rest", "byte", "power", "numbers", "turn"]
theorem sc_take_packed : FnScope N_take_packed ["row", "at", "many", "wide"] (defScope s_take_packed) := ⟨rfl, rfl, rfl, by decide +kernel, rfl, by decide +kernel, by decide +kernel⟩
abbrev N_runs_of : List Str := ["cells", "runs", "cell"]
theorem sc_runs_of : FnScope N_runs_of ["cells"] (defScope s_runs_of) := ⟨rfl, rfl, rfl, by decide +kernel, rfl, by decide +kernel, by decide +kernel⟩
abbrev N_book_of : List Str := ["cells", "met", "cell"]
theorem sc_book_of : FnScope N_book_of ["cells"] (defScope s_book_of) := ⟨rfl, rfl, rfl, by decide +kernel, rfl, by decide +kernel, by decide +kernel⟩
abbrev N_all_bytes : List Str := ["cells", "made", "cell"]
theorem sc_all_bytes : FnScope N_all_bytes ["cells"] (defScope s_all_bytes) := ⟨rfl, rfl, rfl, by decide +kernel, rfl, by decide +kernel, by decide +kernel⟩
abbrev N_run_bytes : List Str := ["cells", "runs", "made", "cell", "length"]
theorem sc_run_bytes : FnScope N_run_bytes ["cells"] (defScope s_run_bytes) := ⟨rfl, rfl, rfl, by decide +kernel, rfl, by decide +kernel, by decide +kernel⟩
abbrev N_book_bytes : List Str := ["cells", "book", "places", "place", "cell", "told"]
theorem sc_book_bytes : FnScope N_book_bytes ["cells"] (defScope s_book_bytes) := ⟨rfl, rfl, rfl, by decide +kernel, rfl, by decide +kernel, by decide +kernel⟩
abbrev N_small_bytes : List Str := ["numbers", "wide"]
theorem sc_small_bytes : FnScope N_small_bytes ["numbers"] (defScope s_small_bytes) := ⟨rfl, rfl, rfl, by decide +kernel, rfl, by decide +kernel, by decide +kernel⟩
abbrev N_base_bytes : List Str := ["cells", "least", "cell"]
theorem sc_base_bytes : FnScope N_base_bytes ["cells"] (defScope s_base_bytes) := ⟨rfl, rfl, rfl, by decide +kernel, rfl, by decide +kernel, by decide +kernel⟩
abbrev N_step_bytes : List Str := ["cells", "steps", "least", "one", "other", "step"]
theorem sc_step_bytes : FnScope N_step_bytes ["cells"] (defScope s_step_bytes) := ⟨rfl, rfl, rfl, by decide +kernel, rfl, by decide +kernel, by decide +kernel⟩
abbrev N_press_by : List Str := ["way", "cells", "head", "cell"]
theorem sc_press_by : FnScope N_press_by ["way", "cells"] (defScope s_press_by) := ⟨rfl, rfl, rfl, by decide +kernel, rfl, by decide +kernel, by decide +kernel⟩
abbrev N_pressed : List Str := ["cells", "rows", "way", "row"]
theorem sc_pressed : FnScope N_pressed ["cells"] (defScope s_pressed) := ⟨rfl, rfl, rfl, by decide +kernel, rfl, by decide +kernel, by decide +kernel⟩
abbrev N_take_byte : List Str := ["row", "at"]
theorem sc_take_byte : FnScope N_take_byte ["row", "at"] (defScope s_take_byte) := ⟨rfl, rfl, rfl, by decide +kernel, rfl, by decide +kernel, by decide +kernel⟩
abbrev N_take_count : List Str := ["row", "at", "most", "count"]
theorem sc_take_count : FnScope N_take_count ["row", "at", "most"] (defScope s_take_count) := ⟨rfl, rfl, rfl, by decide +kernel, rfl, by decide +kernel, by decide +kernel⟩
abbrev N_take_cells : List Str := ["row", "at", "many", "cells", "turn", "cell"]
theorem sc_take_cells : FnScope N_take_cells ["row", "at", "many"] (defScope s_take_cells) := ⟨rfl, rfl, rfl, by decide +kernel, rfl, by decide +kernel, by decide +kernel⟩
abbrev N_take_runs : List Str := ["row", "at", "many", "count", "runs", "turn", "cell", "length"]
theorem sc_take_runs : FnScope N_take_runs ["row", "at", "many"] (defScope s_take_runs) := ⟨rfl, rfl, rfl, by decide +kernel, rfl, by decide +kernel, by decide +kernel⟩
abbrev N_take_book : List Str := ["row", "at", "many", "count", "book", "places"]
theorem sc_take_book : FnScope N_take_book ["row", "at", "many"] (defScope s_take_book) := ⟨rfl, rfl, rfl, by decide +kernel, rfl, by decide +kernel, by decide +kernel⟩
abbrev N_take_small : List Str := ["row", "at", "many", "wide"]
theorem sc_take_small : FnScope N_take_small ["row", "at", "many"] (defScope s_take_small) := ⟨rfl, rfl, rfl, by decide +kernel, rfl, by decide +kernel, by decide +kernel⟩
abbrev N_run_cells : List Str := ["row", "at", "many", "runs", "cells", "cell", "length"]
theorem sc_run_cells : FnScope N_run_cells ["row", "at", "many"] (defScope s_run_cells) := ⟨rfl, rfl, rfl, by decide +kernel, rfl, by decide +kernel, by decide +kernel⟩
abbrev N_book_cells : List Str := ["row", "at", "many", "book", "places", "place"]
theorem sc_book_cells : FnScope N_book_cells ["row", "at", "many"] (defScope s_book_cells) := ⟨rfl, rfl, rfl, by decide +kernel, rfl, by decide +kernel, by decide +kernel⟩
abbrev N_base_cells : List Str := ["row", "at", "many", "least", "numbers", "number"]
theorem sc_base_cells : FnScope N_base_cells ["row", "at", "many"] (defScope s_base_cells) := ⟨rfl, rfl, rfl, by decide +kernel, rfl, by decide +kernel, by decide +kernel⟩
abbrev N_step_cells : List Str := ["row", "at", "many", "first", "least", "numbers", "cells", "number"]
theorem sc_step_cells : FnScope N_step_cells ["row", "at", "many"] (defScope s_step_cells) := ⟨rfl, rfl, rfl, by decide +kernel, rfl, by decide +kernel, by decide +kernel⟩
abbrev N_cells_by : List Str := ["way", "row", "at", "many"]
theorem sc_cells_by : FnScope N_cells_by ["way", "row", "at", "many"] (defScope s_cells_by) := ⟨rfl, rfl, rfl, by decide +kernel, rfl, by decide +kernel, by decide +kernel⟩
abbrev N_take_head : List Str := ["row", "way", "at", "many"]
theorem sc_take_head : FnScope N_take_head ["row"] (defScope s_take_head) := ⟨rfl, rfl, rfl, by decide +kernel, rfl, by decide +kernel, by decide +kernel⟩
abbrev N_is_stretch : List Str := ["cells", "numbers", "cell"]
theorem sc_is_stretch : FnScope N_is_stretch ["cells"] (defScope s_is_stretch) := ⟨rfl, rfl, rfl, by decide +kernel, rfl, by decide +kernel, by decide +kernel⟩
abbrev N_unpressed : List Str := ["row", "way", "many", "at", "cells"]
theorem sc_unpressed : FnScope N_unpressed ["row"] (defScope s_unpressed) := ⟨rfl, rfl, rfl, by decide +kernel, rfl, by decide +kernel, by decide +kernel⟩
abbrev N_Pillar_init : List Str := ["self", "long", "cells", "begin", "some"]
theorem sc_Pillar_init : FnScope N_Pillar_init ["self", "long", "cells"] (defScope s_Pillar_init) := ⟨rfl, rfl, rfl, by decide +kernel, rfl, by decide +kernel, by decide +kernel⟩
abbrev N_Pillar_notes : List Str := ["self"]
theorem sc_Pillar_notes : FnScope N_Pillar_notes ["self"] (defScope s_Pillar_notes) := ⟨rfl, rfl, rfl, by decide +kernel, rfl, by decide +kernel, by decide +kernel⟩
abbrev N_Pillar_stretch : List Str := ["self", "s"]
theorem sc_Pillar_stretch : FnScope N_Pillar_stretch ["self", "s"] (defScope s_Pillar_stretch) := ⟨rfl, rfl, rfl, by decide +kernel, rfl, by decide +kernel, by decide +kernel⟩
abbrev N_law_begin : List Str := ["_law_script", "_law_cells_here"]
theorem sc_law_begin : FnScope N_law_begin ["_law_script"] (defScope s_law_begin) := ⟨rfl, rfl, rfl, by decide +kernel, rfl, by decide +kernel, by decide +kernel⟩
abbrev N_law_take : List Str := ["_law_state", "_law_many", "_law_turn", "_law_place", "_law_cell", "_law_digit", "_law_mixed"]
theorem sc_law_take : FnScope N_law_take ["_law_state", "_law_many"] (defScope s_law_take) := ⟨rfl, rfl, rfl, by decide +kernel, rfl, by decide +kernel, by decide +kernel⟩
abbrev N_law_number : List Str := ["_law_state", "_law_way", "_law_number_here"]
theorem sc_law_number : FnScope N_law_number ["_law_state"] (defScope s_law_number) := ⟨rfl, rfl, rfl, by decide +kernel, rfl, by decide +kernel, by decide +kernel⟩
abbrev N_law_text : List Str := ["_law_state", "_law_words", "_law_signs", "_law_turn"]
theorem sc_law_text : FnScope N_law_text ["_law_state"] (defScope s_law_text) := ⟨rfl, rfl, rfl, by decide +kernel, rfl, by decide +kernel, by decide +kernel⟩
abbrev N_law_cells : List Str := ["_law_state", "_law_kind", "_law_many", "_law_way", "_law_open_in", "_law_some", "_law_step", "_law_cells_here", "_law_place", "_law_cell", "_law_turn"]
theorem sc_law_cells : FnScope N_law_cells ["_law_state", "_law_kind", "_law_many"] (defScope s_law_cells) := ⟨rfl, rfl, rfl, by decide +kernel, rfl, by decide +kernel, by decide +kernel⟩
abbrev N_law_kinds : List Str := ["_law_state", "_law_many", "_law_turn"]
theorem sc_law_kinds : FnScope N_law_kinds ["_law_state"] (defScope s_law_kinds) := ⟨rfl, rfl, rfl, by decide +kernel, rfl, by decide +kernel, by decide +kernel⟩
abbrev N_law_near : List Str := ["_law_state", "_law_kind", "_law_cells_here", "_law_some", "_law_way", "_law_cell"]
theorem sc_law_near : FnScope N_law_near ["_law_state", "_law_kind", "_law_cells_here"] (defScope s_law_near) := ⟨rfl, rfl, rfl, by decide +kernel, rfl, by decide +kernel, by decide +kernel⟩
abbrev N_law_cell_test : List Str := ["_law_state", "_law_kind", "_law_cells_here", "_law_way", "_law_many", "_law_turn"]
theorem sc_law_cell_test : FnScope N_law_cell_test ["_law_state", "_law_kind", "_law_cells_here"] (defScope s_law_cell_test) := ⟨rfl, rfl, rfl, by decide +kernel, rfl, by decide +kernel, by decide +kernel⟩
abbrev N_law_test : List Str := ["_law_state", "_law_kinds_here", "_law_columns", "_law_deep", "_law_way", "_law_one", "_law_place", "_law_alike", "_law_sign", "_law_other"]
theorem sc_law_test : FnScope N_law_test ["_law_state", "_law_kinds_here", "_law_columns", "_law_deep"] (defScope s_law_test) := ⟨rfl, rfl, rfl, by decide +kernel, rfl, by decide +kernel, by decide +kernel⟩
abbrev N_law_shape : List Str := ["_law_state", "_law_many", "_law_long"]
theorem sc_law_shape : FnScope N_law_shape ["_law_state"] (defScope s_law_shape) := ⟨rfl, rfl, rfl, by decide +kernel, rfl, by decide +kernel, by decide +kernel⟩
abbrev N_law_same : List Str := ["_law_found", "_law_due", "_law_name", "_law_one", "_law_other"]
theorem sc_law_same : FnScope N_law_same ["_law_found", "_law_due"] (defScope s_law_same) := ⟨rfl, rfl, rfl, by decide +kernel, rfl, by decide +kernel, by decide +kernel⟩
abbrev N_law_reads_right : List Str := ["_law_met_pairs", "_law_test_here", "_law_mask", "_law_long", "_law_stretches", "_law_named", "_law_at", "_law_bits", "_law_place"]
theorem sc_law_reads_right : FnScope N_law_reads_right ["_law_met_pairs", "_law_test_here", "_law_mask", "_law_long"] (defScope s_law_reads_right) := ⟨rfl, rfl, rfl, by decide +kernel, rfl, by decide +kernel, by decide +kernel⟩
abbrev N_law_right : List Str := ["_law_pillars", "_law_rows", "_law_test_here", "_law_long", "_law_mask", "_law_met_pairs", "_law_found", "_law_turned", "_law_row", "_law_bit"]
theorem sc_law_right : FnScope N_law_right ["_law_pillars", "_law_rows", "_law_test_here", "_law_long"] (defScope s_law_right) := ⟨rfl, rfl, rfl, by decide +kernel, rfl, by decide +kernel, by decide +kernel⟩
abbrev N_law : List Str := ["_law_script", "_law_state", "_law_kinds_here", "_law_many", "_law_long", "_law_columns", "_law_rows", "_law_pillars", "_law_other", "_law_others", "_law_turn", "_law_one", "_law_two", "_law_test_here", "_law_mask", "_law_kind", "_law_k", "_law_column"]
theorem sc_law : FnScope N_law ["_law_script"] (defScope s_law) := ⟨rfl, rfl, rfl, by decide +kernel, rfl, by decide +kernel, by decide +kernel⟩
end Pk
set_option Elab.async false
set_option linter.all false
set_option maxRecDepth 100000
set_option maxHeartbeats 4000000
namespace Pk
/-! ### bytes at a place -/
def At (row : List Int) (k : Nat) (bs : List Int) : Prop := ∃ pre post, row = pre ++ (bs ++ post) ∧ pre.length = k
theorem At.left {row : List Int} {k : Nat} {a b : List Int} (h : At row k (a ++ b)) : At row k a := by
  obtain ⟨p, q, e, l⟩ := h
  exact ⟨p, b ++ q, by rw [e, List.append_assoc], l⟩
theorem At.right {row : List Int} {k : Nat} {a b : List Int} (h : At row k (a ++ b)) : At row (k + a.length) b := by
  obtain ⟨p, q, e, l⟩ := h
  exact ⟨p ++ a, q, by rw [e, List.append_assoc, List.append_assoc], by rw [List.length_append, l]⟩
theorem At.tail {row : List Int} {k : Nat} {x : Int} {b : List Int} (h : At row k (x :: b)) : At row (k + 1) b := At.right (a := [x]) h
theorem At.head {row : List Int} {k : Nat} {x : Int} {b : List Int} (h : At row k (x :: b)) : row[k]? = some x := by
  obtain ⟨p, q, e, l⟩ := h
  rw [e, List.getElem?_append_right (by omega), l, Nat.sub_self]
  rfl
theorem At.le {row : List Int} {k : Nat} {b : List Int} (h : At row k b) : k + b.length ≤ row.length := by
  obtain ⟨p, q, e, l⟩ := h
  rw [e, List.length_append, List.length_append, l]
  omega
theorem At.cut {row : List Int} {k : Nat} {b : List Int} (h : At row k b) : (row.drop k).take b.length = b := by
  obtain ⟨p, q, e, l⟩ := h
  rw [e, ← l, List.drop_left, List.take_left]
theorem At.all (row : List Int) : At row 0 row := ⟨[], [], by simp, rfl⟩
theorem At.of_append {pre row : List Int} : At (pre ++ row) pre.length row := ⟨pre, [], by simp, rfl⟩

/-! ### numbers of seven bits a byte -/
def nbN (z : Nat) : List Int := if z < 128 then [(z : Int)] else ((z % 128 + 128 : Nat) : Int) :: nbN (z / 128)
termination_by z
theorem nbN_lt {z : Nat} (h : z < 128) : nbN z = [(z : Int)] := by rw [nbN, if_pos h]
theorem nbN_ge {z : Nat} (h : ¬ z < 128) : nbN z = ((z % 128 + 128 : Nat) : Int) :: nbN (z / 128) := by rw [nbN, if_neg h]
theorem nbN_pos (z : Nat) : 0 < (nbN z).length := by
  by_cases h : z < 128
  · rw [nbN_lt h]; exact Nat.zero_lt_one
  · rw [nbN_ge h]; exact Nat.succ_pos _
theorem nbN_len : ∀ (m z : Nat), z < 128 ^ (m + 1) → (nbN z).length ≤ m + 1
  | 0, z, h => by rw [nbN_lt (by simpa using h)]; exact Nat.le_refl _
  | m + 1, z, h => by
    by_cases hz : z < 128
    · rw [nbN_lt hz]; simp
    · rw [nbN_ge hz, List.length_cons]
      have h2 : z / 128 < 128 ^ (m + 1) := by
        rw [Nat.div_lt_iff_lt_mul (by decide)]
        rw [Nat.pow_succ] at h
        exact h
      have := nbN_len m (z / 128) h2
      omega
/-- the whole number from nought on that stands for n -/
def zg (n : Int) : Nat := if n < 0 then (-2 * n - 1).toNat else (2 * n).toNat
def unz (z : Nat) : Int := if z % 2 = 0 then ((z / 2 : Nat) : Int) else -((z / 2 : Nat) : Int) - 1
theorem unz_zg (n : Int) : unz (zg n) = n := by
  unfold unz zg
  split <;> split <;> omega
def nb (n : Int) : List Int := nbN (zg n)
def Sm (n : Int) : Prop := -4611686018427387904 ≤ n ∧ n < 4611686018427387904
theorem zg_lt {n : Int} (h : Sm n) : zg n < 2 ^ 63 := by
  obtain ⟨h1, h2⟩ := h
  unfold zg
  split <;> omega
theorem nb_len {n : Int} (h : Sm n) : (nb n).length ≤ 9 := nbN_len 8 _ (Nat.lt_of_lt_of_le (zg_lt h) (by decide))
theorem nb_pos (n : Int) : 0 < (nb n).length := nbN_pos _
theorem nb_nat_len {n : Nat} (h : n ≤ 1000) : (nb n).length ≤ 2 := nbN_len 1 _ (by unfold zg; rw [if_neg (by omega)]; omega)

/-! ### packed numbers -/
def pkVal (w : Nat) : List Int → Int
  | [] => 0
  | n :: r => pkVal w r * 2 ^ w + n
def dg : Nat → Int → List Int
  | 0, _ => []
  | k + 1, x => x % 256 :: dg k (x / 256)
def undg : List Int → Int
  | [] => 0
  | b :: r => undg r * 256 + b
theorem dg_len : ∀ (k : Nat) (x : Int), (dg k x).length = k
  | 0, _ => rfl
  | k + 1, x => by show (dg k (x / 256)).length + 1 = k + 1; rw [dg_len k]
theorem dg_succ : ∀ (k : Nat) (x : Int), dg (k + 1) x = dg k x ++ [x / 256 ^ k % 256]
  | 0, x => by
    show [x % 256] = [] ++ [x / 256 ^ 0 % 256]
    rw [Int.pow_zero, Int.ediv_one]
    rfl
  | k + 1, x => by
    show x % 256 :: dg (k + 1) (x / 256) = (x % 256 :: dg k (x / 256)) ++ [x / 256 ^ (k + 1) % 256]
    rw [dg_succ k (x / 256), List.cons_append]
    congr 3
    rw [Int.ediv_ediv_of_nonneg (by decide), Int.pow_succ, Int.mul_comm]
theorem undg_dg : ∀ (k : Nat) (x : Int), 0 ≤ x → x < 256 ^ k → undg (dg k x) = x
  | 0, x, h0, h1 => by
    rw [Int.pow_zero] at h1
    show (0 : Int) = x
    omega
  | k + 1, x, h0, h1 => by
    show undg (dg k (x / 256)) * 256 + x % 256 = x
    rw [Int.pow_succ] at h1
    rw [undg_dg k (x / 256) (by omega) (Int.ediv_lt_of_lt_mul (by decide) h1)]
    omega
def InW (w : Nat) (ns : List Int) : Prop := ∀ n ∈ ns, 0 ≤ n ∧ n < 2 ^ w
theorem two_pos (w : Nat) : (0 : Int) < 2 ^ w := Int.pow_pos (by decide)
theorem pkVal_nn {w : Nat} : ∀ {ns : List Int}, InW w ns → 0 ≤ pkVal w ns
  | [], _ => Int.le_refl _
  | n :: r, h => by
    have h1 := pkVal_nn (ns := r) fun x hx => h x (List.mem_cons_of_mem _ hx)
    have h2 := h n (List.mem_cons_self ..)
    have h3 := Int.mul_nonneg h1 (Int.le_of_lt (two_pos w))
    show 0 ≤ pkVal w r * 2 ^ w + n
    omega
theorem pkVal_lt {w : Nat} : ∀ {ns : List Int}, InW w ns → pkVal w ns < 2 ^ (ns.length * w)
  | [], _ => by show (0 : Int) < 2 ^ (0 * w); rw [Nat.zero_mul]; decide
  | n :: r, h => by
    have h1 := pkVal_lt (ns := r) fun x hx => h x (List.mem_cons_of_mem _ hx)
    have h2 := h n (List.mem_cons_self ..)
    have h3 : (pkVal w r + 1) * 2 ^ w ≤ 2 ^ (r.length * w) * 2 ^ w := Int.mul_le_mul_of_nonneg_right (by omega) (Int.le_of_lt (two_pos w))
    rw [Int.add_mul, Int.one_mul, ← Int.pow_add] at h3
    show pkVal w r * 2 ^ w + n < 2 ^ ((r.length + 1) * w)
    rw [Nat.succ_mul]
    omega
theorem pkVal_mod {w : Nat} {n : Int} {r : List Int} (h : 0 ≤ n ∧ n < 2 ^ w) : pkVal w (n :: r) % 2 ^ w = n := by
  show (pkVal w r * 2 ^ w + n) % 2 ^ w = n
  rw [Int.add_comm, Int.add_mul_emod_self_right, Int.emod_eq_of_lt h.1 h.2]
theorem pkVal_div {w : Nat} {n : Int} {r : List Int} (h : 0 ≤ n ∧ n < 2 ^ w) : pkVal w (n :: r) / 2 ^ w = pkVal w r := by
  show (pkVal w r * 2 ^ w + n) / 2 ^ w = pkVal w r
  rw [Int.add_comm, Int.add_mul_ediv_right _ _ (Int.ne_of_gt (two_pos w)), Int.ediv_eq_zero_of_lt h.1 h.2, Int.zero_add]
def bc (m w : Nat) : Nat := (m * w + 7) / 8
def pk (ns : List Int) (w : Nat) : List Int := dg (bc ns.length w) (pkVal w ns)
theorem pk_len (ns : List Int) (w : Nat) : (pk ns w).length = bc ns.length w := dg_len _ _
theorem undg_pk {w : Nat} {ns : List Int} (h : InW w ns) : undg (pk ns w) = pkVal w ns := by
  refine undg_dg _ _ (pkVal_nn h) (Int.lt_of_lt_of_le (pkVal_lt h) ?_)
  have e : (256 : Int) ^ bc ns.length w = 2 ^ (8 * bc ns.length w) := by
    rw [show (256 : Int) = 2 ^ 8 from rfl, ← Int.pow_mul]
  rw [e]
  have hle : ns.length * w ≤ 8 * bc ns.length w := by unfold bc; omega
  have h2 : (2 : Nat) ^ (ns.length * w) ≤ 2 ^ (8 * bc ns.length w) := Nat.pow_le_pow_right (by decide) hle
  exact_mod_cast h2

/-! ### bits -/
def bf (n : Nat) : Nat := if n = 0 then 0 else bf (n / 2) + 1
termination_by n
theorem bf_zero : bf 0 = 0 := by rw [bf, if_pos rfl]
theorem bf_pos {n : Nat} (h : 0 < n) : bf n = bf (n / 2) + 1 := by rw [bf, if_neg (by omega)]
theorem bf_lt : ∀ n : Nat, n < 2 ^ bf n := by
  intro n
  induction n using Nat.strongRecOn with
  | _ n ih =>
    by_cases h : n = 0
    · rw [h, bf_zero]; decide
    · rw [bf_pos (by omega), Nat.pow_succ]
      have := ih (n / 2) (by omega)
      omega
theorem bf_le : ∀ (m n : Nat), n < 2 ^ m → bf n ≤ m
  | 0, n, h => by
    rw [Nat.pow_zero] at h
    rw [show n = 0 by omega, bf_zero]
    exact Nat.le_refl _
  | m + 1, n, h => by
    by_cases hn : n = 0
    · rw [hn, bf_zero]; exact Nat.zero_le _
    · rw [bf_pos (by omega)]
      have := bf_le m (n / 2) (by rw [Nat.pow_succ] at h; omega)
      omega
end Pk
set_option Elab.async false
set_option linter.all false
set_option maxRecDepth 100000
set_option maxHeartbeats 4000000
set_option autoImplicit false
namespace Pk
open PySem PySem.Spec PyProof.Rows L2
open C8 (Cal Met Mak pe_c pe_mk pe_mt pe_mt0 pe_gc)
/-! ### what grows -/
abbrev Ex (H H' : Hp) : Prop := Evl.Ex H H'
theorem Ex.r (H : Hp) : Ex H H := Evl.Ex.refl H
theorem Ex.n {H : Hp} {p : Addr} {o : HO} (h : H p = none) : Ex H (upd H p o) := Evl.Ex.new h
/-- a list is to be read; it stays to be read -/
abbrev Ls (K : PySem.W.Frag) (H : Hp) (a : Addr) (xs : List V) : Prop := SqL K H a xs
theorem exL {K : PySem.W.Frag} {H H' : Hp} {a : Addr} {xs : List V} (h : SqL K H a xs) (e : Ex H H') : SqL K H' a xs := Evl.ex_l e h
theorem exT {K : PySem.W.Frag} {H H' : Hp} {a : Addr} {xs : List V} (h : SqT K H a xs) (e : Ex H H') : SqT K H' a xs := Evl.ex_t e h
theorem lsOf {K : PySem.W.Frag} {H : Hp} {a : Addr} {xs : List V} (h : H a = some (.lst xs)) : SqL K H a xs := .inl (.inl h)
theorem tpOf {K : PySem.W.Frag} {H : Hp} {a : Addr} {xs : List V} (h : H a = some (.tup xs)) : SqT K H a xs := .inl (.inl h)
/-- what is given back: a value, a new list, a tuple; all that stood stands -/
def GV (v : V) (H : Hp) (Q : VK) : Prop := ∀ H2, Ex H H2 → Q v H2
def GL (xs : List V) (H : Hp) (Q : VK) : Prop := ∀ p H2, H p = none → Ex H H2 → H2 p = some (.lst xs) → Q (.ref p) H2
def GT (xs : List V) (H : Hp) (Q : VK) : Prop := ∀ p H2, H p = none → Ex H H2 → H2 p = some (.tup xs) → Q (.ref p) H2
theorem GV.go {v : V} {H H1 : Hp} {Q : VK} (k : GV v H Q) (e : Ex H H1) : Q v H1 := k H1 e
theorem GL.go {xs : List V} {H H1 : Hp} {Q : VK} (k : GL xs H Q) (e : Ex H H1) {p : Addr} (hp : H1 p = none) : Q (.ref p) (upd H1 p (.lst xs)) := k p _ (Evl.fresh_back e hp) (e.trans (Ex.n hp)) upd_same
theorem GT.go {xs : List V} {H H1 : Hp} {Q : VK} (k : GT xs H Q) (e : Ex H H1) {p : Addr} (hp : H1 p = none) : Q (.ref p) (upd H1 p (.tup xs)) := k p _ (Evl.fresh_back e hp) (e.trans (Ex.n hp)) upd_same
theorem sml {n : Nat} (h : n ≤ 100000) : n ≤ sizeLine := Nat.le_trans h (by decide)
theorem smlt {n : Nat} (h : n < 100000) : n < sizeLine := Nat.lt_of_lt_of_le h (by decide)

/-! ### the module's facts -/
def isC (mg : Str → Option Value) (x : Str) (v : V) : Prop := ∃ u, mg x = some u ∧ RelV v u
abbrev gA (K : PySem.W.Frag) (x : Str) : Addr := match PySem.W.nsIn K mainGlobals x with
  | some (some (.ref a)) => a
  | _ => 0
def signsS : Str := " !\"#$&'()*+,-./0123456789:;<=>?@ABCDEFGHIJKLMNOPQRSTUVWXYZ[\\]^_`abcdefghijklmnopqrstuvwxyz{|}~"
structure Gf (K : PySem.W.Frag) (mg : Str → Option Value) (CG CP upA : Addr) : Prop where
  len : mg "len" = none
  min : mg "min" = none
  max : mg "max" = none
  all : mg "all" = none
  int : mg "int" = none
  str : mg "str" = none
  bool : mg "bool" = none
  dict : mg "dict" = none
  list : mg "list" = none
  tuple : mg "tuple" = none
  set : mg "set" = none
  isinstance : mg "isinstance" = none
  sorted : mg "sorted" = none
  range : mg "range" = none
  zip : mg "zip" = none
  enumerate : mg "enumerate" = none
  reversed : mg "reversed" = none
  abs : mg "abs" = none
  divmod : mg "divmod" = none
  most_number : isC mg "MOST_NUMBER" (.int 1000000000000000000)
  most_signs : isC mg "MOST_SIGNS" (.int 20)
  more : isC mg "MORE" (.int 128)
  byte : isC mg "BYTE" (.int 256)
  bits : isC mg "BITS" (.int 8)
  most_bytes : isC mg "MOST_BYTES" (.int 9)
  ways : isC mg "WAYS" (.int 5)
  most_cells : isC mg "MOST_CELLS" (.int 64)
  most_way : isC mg "MOST_WAY" (.int 4)
  most_wide : isC mg "MOST_WIDE" (.int 62)
  signs : isC mg "SIGNS" (.str signsS)
  signs_up : isC mg "SIGNS_UP" (.ref upA)
  upT : ∀ H : Hp, SqT K H upA [.str "<", .str "<="]
  clG : Cls K CG
  clP : Cls K CP
  g_some : NoAttr K CG "some"
  g_notes : NoAttr K CG "notes_there"
  g_at : NoAttr K CG "at"
  g_seen : NoAttr K CG "seen"
  p_each : NoAttr K CP "each"
  p_so : NoAttr K CP "so_many"
  p_rows : NoAttr K CP "own_rows"
  p_notes : NoAttr K CP "own_notes"

/-! ### a def of the text, to be called by its name -/
structure Dfn (K : PySem.W.Frag) (mg : Str → Option Value) (x : Str) (st : Stmt) : Prop where
  ex : ∃ f fd, FunD K x x (defArgs st) (defBody st) (defScope st) [] [] f fd ∧ mg x = some (.ref f)
/-- a method -/
structure Mfn (K : PySem.W.Frag) (C : Addr) (m qual : Str) (st : Stmt) : Prop where
  ex : ∃ f fd, FunD K m qual (defArgs st) (defBody st) (defScope st) [] [] f fd ∧ Cls K C ∧ Meth K C m f
/-- a class's __init__ -/
structure Ifn (K : PySem.W.Frag) (mg : Str → Option Value) (x : Str) (C : Addr) (qual : Str) (st : Stmt) : Prop where
  ex : ∃ f fd, FunD K "__init__" qual (defArgs st) (defBody st) (defScope st) [] [] f fd ∧ Mk K C f ∧ mg x = some (.ref C)
section
variable {P : Program} {w : World} {K : PySem.W.Frag} {mg : Str → Option Value} {base : Heap} {x m qual : Str} {st : Stmt} {N ps : List Str} {C : Addr} {k : Nat} {sp : Sp}
abbrev Bnd (x qual : Str) (st : Stmt) (ps : List Str) : Prop := ∀ (kV doc pm : Value) (an : Option Addr) (cdv ct : Value) (us : List Value), us.length = ps.length →
  bindArgs (PySem.W.fnOf x qual (defArgs st) (defBody st) (defScope st) .none kV doc pm an cdv ct) ⟨us, []⟩ = pure (ps.zip us)
abbrev Bdy (P : Program) (w : World) (K : PySem.W.Frag) (mg : Str → Option Value) (base : Heap) (qual : Str) (st : Stmt) (N : List Str) (k : Nat) (sp : Sp) : Prop :=
  ∀ (f : Addr) (cdv : Value) (A : Around) (outer : List Env) (s : Shared) (H : Hp) (vs : List V) (Q : VK) (E : XK), Room k (A.deeper (envOfC qual (defScope st) s.heap.objs.size f cdv)) → sp vs H Q E →
    ∃ t, PSs (cxOf CX0 P w K mg base N qual (defScope st) f cdv A outer s H E).nox (defBody st) t ∧ t { nx := fun _ H' => Q .non H', rt := Q } (start N vs) H
theorem fnok_mk {f : Addr} {fd : FuncData} (F : FunD K m qual (defArgs st) (defBody st) (defScope st) [] [] f fd) (S : FnScope N ps (defScope st)) (len : ∀ vs H Q E, sp vs H Q E → vs.length = ps.length) (hb : Bdy P w K mg base qual st N k sp) :
    FnOk P w K mg base CX0 (k + 1) f fd ps sp := by
  refine F.ok S len fun cdv A outer s H vs Q E hr hs => ?_
  obtain ⟨t, h, q⟩ := hb f cdv A outer s H vs Q E hr hs
  exact ⟨t, h.nox, q⟩
theorem cal_mk (D : Dfn K mg x st) (S : FnScope N ps (defScope st)) (b : Bnd x x st ps) (len : ∀ vs H Q E, sp vs H Q E → vs.length = ps.length) (hb : Bdy P w K mg base x st N k sp) : Cal P w K mg base (k + 1) x sp [] := by
  obtain ⟨f, fd, F, hm⟩ := D.ex
  exact ⟨f, fd, ps, [], fnok_mk F S len hb, hm, F.kp, F.bindsN b, .nil⟩
theorem met_mk (D : Mfn K C m qual st) (S : FnScope N ps (defScope st)) (b : Bnd m qual st ps) (len : ∀ vs H Q E, sp vs H Q E → vs.length = ps.length) (hb : Bdy P w K mg base qual st N k sp) : Met P w K mg base (k + 1) C m sp [] := by
  obtain ⟨f, fd, F, hc, hm⟩ := D.ex
  exact ⟨f, fd, ps, [], hc, hm, fnok_mk F S len hb, F.bindsN b, .nil⟩
theorem mak_mk (D : Ifn K mg x C qual st) (S : FnScope N ps (defScope st)) (b : Bnd "__init__" qual st ps) (len : ∀ vs H Q E, sp vs H Q E → vs.length = ps.length) (hb : Bdy P w K mg base qual st N k sp) : Mak P w K mg base (k + 1) x C sp [] := by
  obtain ⟨f, fd, F, hM, hm⟩ := D.ex
  exact ⟨f, fd, ps, [], hM, fnok_mk F S len hb, hm, F.bindsN b, .nil⟩
end
end Pk
set_option Elab.async false
set_option linter.all false
set_option maxRecDepth 100000
set_option maxHeartbeats 0
namespace Pk
open PySem PySem.Spec PyProof.Rows L2
def d_is_so : He.DefD := ⟨("is_so", none), "is_so", "is_so", defArgs s_is_so, defBody s_is_so, defScope s_is_so, [], []⟩
def d_meets : He.DefD := ⟨("meets", none), "meets", "meets", defArgs s_meets, defBody s_meets, defScope s_meets, [], []⟩
def d_note_of : He.DefD := ⟨("note_of", none), "note_of", "note_of", defArgs s_note_of, defBody s_note_of, defScope s_note_of, [], []⟩
def d_has_none : He.DefD := ⟨("has_none", none), "has_none", "has_none", defArgs s_has_none, defBody s_has_none, defScope s_has_none, [], []⟩
def d_has_all : He.DefD := ⟨("has_all", none), "has_all", "has_all", defArgs s_has_all, defBody s_has_all, defScope s_has_all, [], []⟩
def d_looked_open : He.DefD := ⟨("looked_open", none), "looked_open", "looked_open", defArgs s_looked_open, defBody s_looked_open, defScope s_looked_open, [], []⟩
def d_looked : He.DefD := ⟨("looked", none), "looked", "looked", defArgs s_looked, defBody s_looked, defScope s_looked, [], []⟩
def d_pair_meets : He.DefD := ⟨("pair_meets", none), "pair_meets", "pair_meets", defArgs s_pair_meets, defBody s_pair_meets, defScope s_pair_meets, [], []⟩
def d_row_meets : He.DefD := ⟨("row_meets", none), "row_meets", "row_meets", defArgs s_row_meets, defBody s_row_meets, defScope s_row_meets, [], []⟩
def d_places_in : He.DefD := ⟨("places_in", none), "places_in", "places_in", defArgs s_places_in, defBody s_places_in, defScope s_places_in, [], []⟩
def d_Glance_init : He.DefD := ⟨("Glance", some "__init__"), "__init__", "Glance.__init__", defArgs s_Glance_init, defBody s_Glance_init, defScope s_Glance_init, [], []⟩
def d_Glance_size : He.DefD := ⟨("Glance", some "size"), "size", "Glance.size", defArgs s_Glance_size, defBody s_Glance_size, defScope s_Glance_size, [], []⟩
def d_Glance_all_open : He.DefD := ⟨("Glance", some "all_open"), "all_open", "Glance.all_open", defArgs s_Glance_all_open, defBody s_Glance_all_open, defScope s_Glance_all_open, [], []⟩
def d_Glance_had : He.DefD := ⟨("Glance", some "had"), "had", "Glance.had", defArgs s_Glance_had, defBody s_Glance_had, defScope s_Glance_had, [], []⟩
def d_Glance_places_seen : He.DefD := ⟨("Glance", some "places_seen"), "places_seen", "Glance.places_seen", defArgs s_Glance_places_seen, defBody s_Glance_places_seen, defScope s_Glance_places_seen, [], []⟩
def d_Glance_cell_bits : He.DefD := ⟨("Glance", some "cell_bits"), "cell_bits", "Glance.cell_bits", defArgs s_Glance_cell_bits, defBody s_Glance_cell_bits, defScope s_Glance_cell_bits, [], []⟩
def d_Glance_pair_bits : He.DefD := ⟨("Glance", some "pair_bits"), "pair_bits", "Glance.pair_bits", defArgs s_Glance_pair_bits, defBody s_Glance_pair_bits, defScope s_Glance_pair_bits, [], []⟩
def d_Glance_bits : He.DefD := ⟨("Glance", some "bits"), "bits", "Glance.bits", defArgs s_Glance_bits, defBody s_Glance_bits, defScope s_Glance_bits, [], []⟩
def d_glances : He.DefD := ⟨("glances", none), "glances", "glances", defArgs s_glances, defBody s_glances, defScope s_glances, [], []⟩
def d_sieved : He.DefD := ⟨("sieved", none), "sieved", "sieved", defArgs s_sieved, defBody s_sieved, defScope s_sieved, [], []⟩
def d_rows_picked : He.DefD := ⟨("rows_picked", none), "rows_picked", "rows_picked", defArgs s_rows_picked, defBody s_rows_picked, defScope s_rows_picked, [], []⟩
def d_picked : He.DefD := ⟨("picked", none), "picked", "picked", defArgs s_picked, defBody s_picked, defScope s_picked, [], []⟩
def d_is_number : He.DefD := ⟨("is_number", none), "is_number", "is_number", defArgs s_is_number, defBody s_is_number, defScope s_is_number, [], []⟩
def d_is_text_cell : He.DefD := ⟨("is_text_cell", none), "is_text_cell", "is_text_cell", defArgs s_is_text_cell, defBody s_is_text_cell, defScope s_is_text_cell, [], []⟩
def d_is_cell_of : He.DefD := ⟨("is_cell_of", none), "is_cell_of", "is_cell_of", defArgs s_is_cell_of, defBody s_is_cell_of, defScope s_is_cell_of, [], []⟩
def d_cell_key : He.DefD := ⟨("cell_key", none), "cell_key", "cell_key", defArgs s_cell_key, defBody s_cell_key, defScope s_cell_key, [], []⟩
def d_number_bytes : He.DefD := ⟨("number_bytes", none), "number_bytes", "number_bytes", defArgs s_number_bytes, defBody s_number_bytes, defScope s_number_bytes, [], []⟩
def d_text_bytes : He.DefD := ⟨("text_bytes", none), "text_bytes", "text_bytes", defArgs s_text_bytes, defBody s_text_bytes, defScope s_text_bytes, [], []⟩
def d_cell_bytes : He.DefD := ⟨("cell_bytes", none), "cell_bytes", "cell_bytes", defArgs s_cell_bytes, defBody s_cell_bytes, defScope s_cell_bytes, [], []⟩
def d_byte_at : He.DefD := ⟨("byte_at", none), "byte_at", "byte_at", defArgs s_byte_at, defBody s_byte_at, defScope s_byte_at, [], []⟩
def d_number_of : He.DefD := ⟨("number_of", none), "number_of", "number_of", defArgs s_number_of, defBody s_number_of, defScope s_number_of, [], []⟩
def d_take_number : He.DefD := ⟨("take_number", none), "take_number", "take_number", defArgs s_take_number, defBody s_take_number, defScope s_take_number, [], []⟩
def d_take_text : He.DefD := ⟨("take_text", none), "take_text", "take_text", defArgs s_take_text, defBody s_take_text, defScope s_take_text, [], []⟩
def d_take_cell : He.DefD := ⟨("take_cell", none), "take_cell", "take_cell", defArgs s_take_cell, defBody s_take_cell, defScope s_take_cell, [], []⟩
def d_bits_for : He.DefD := ⟨("bits_for", none), "bits_for", "bits_for", defArgs s_bits_for, defBody s_bits_for, defScope s_bits_for, [], []⟩
def d_power_of : He.DefD := ⟨("power_of", none), "power_of", "power_of", defArgs s_power_of, defBody s_power_of, defScope s_power_of, [], []⟩
def d_byte_count : He.DefD := ⟨("byte_count", none), "byte_count", "byte_count", defArgs s_byte_count, defBody s_byte_count, defScope s_byte_count, [], []⟩
def d_packed : He.DefD := ⟨("packed", none), "packed", "packed", defArgs s_packed, defBody s_packed, defScope s_packed, [], []⟩
def d_take_packed : He.DefD := ⟨("take_packed", none), "take_packed", "take_packed", defArgs s_take_packed, defBody s_take_packed, defScope s_take_packed, [], []⟩
def d_runs_of : He.DefD := ⟨("runs_of", none), "runs_of", "runs_of", defArgs s_runs_of, defBody s_runs_of, defScope s_runs_of, [], []⟩
def d_book_of : He.DefD := ⟨("book_of", none), "book_of", "book_of", defArgs s_book_of, defBody s_book_of, defScope s_book_of, [], []⟩
def d_all_bytes : He.DefD := ⟨("all_bytes", none), "all_bytes", "all_bytes", defArgs s_all_bytes, defBody s_all_bytes, defScope s_all_bytes, [], []⟩
def d_run_bytes : He.DefD := ⟨("run_bytes", none), "run_bytes", "run_bytes", defArgs s_run_bytes, defBody s_run_bytes, defScope s_run_bytes, [], []⟩
def d_book_bytes : He.DefD := ⟨("book_bytes", none), "book_bytes", "book_bytes", defArgs s_book_bytes, defBody s_book_bytes, defScope s_book_bytes, [], []⟩
def d_small_bytes : He.DefD := ⟨("small_bytes", none), "small_bytes", "small_bytes", defArgs s_small_bytes, defBody s_small_bytes, defScope s_small_bytes, [], []⟩
def d_base_bytes : He.DefD := ⟨("base_bytes", none), "base_bytes", "base_bytes", defArgs s_base_bytes, defBody s_base_bytes, defScope s_base_bytes, [], []⟩
def d_step_bytes : He.DefD := ⟨("step_bytes", none), "step_bytes", "step_bytes", defArgs s_step_bytes, defBody s_step_bytes, defScope s_step_bytes, [], []⟩
def d_press_by : He.DefD := ⟨("press_by", none), "press_by", "press_by", defArgs s_press_by, defBody s_press_by, defScope s_press_by, [], []⟩
def d_pressed : He.DefD := ⟨("pressed", none), "pressed", "pressed", defArgs s_pressed, defBody s_pressed, defScope s_pressed, [], []⟩
def d_take_byte : He.DefD := ⟨("take_byte", none), "take_byte", "take_byte", defArgs s_take_byte, defBody s_take_byte, defScope s_take_byte, [], []⟩
def d_take_count : He.DefD := ⟨("take_count", none), "take_count", "take_count", defArgs s_take_count, defBody s_take_count, defScope s_take_count, [], []⟩
def d_take_cells : He.DefD := ⟨("take_cells", none), "take_cells", "take_cells", defArgs s_take_cells, defBody s_take_cells, defScope s_take_cells, [], []⟩
def d_take_runs : He.DefD := ⟨("take_runs", none), "take_runs", "take_runs", defArgs s_take_runs, defBody s_take_runs, defScope s_take_runs, [], []⟩
def d_take_book : He.DefD := ⟨("take_book", none), "take_book", "take_book", defArgs s_take_book, defBody s_take_book, defScope s_take_book, [], []⟩
def d_take_small : He.DefD := ⟨("take_small", none), "take_small", "take_small", defArgs s_take_small, defBody s_take_small, defScope s_take_small, [], []⟩
def d_run_cells : He.DefD := ⟨("run_cells", none), "run_cells", "run_cells", defArgs s_run_cells, defBody s_run_cells, defScope s_run_cells, [], []⟩
def d_book_cells : He.DefD := ⟨("book_cells", none), "book_cells", "book_cells", defArgs s_book_cells, defBody s_book_cells, defScope s_book_cells, [], []⟩
def d_base_cells : He.DefD := ⟨("base_cells", none), "base_cells", "base_cells", defArgs s_base_cells, defBody s_base_cells, defScope s_base_cells, [], []⟩
def d_step_cells : He.DefD := ⟨("step_cells", none), "step_cells", "step_cells", defArgs s_step_cells, defBody s_step_cells, defScope s_step_cells, [], []⟩
def d_cells_by : He.DefD := ⟨("cells_by", none), "cells_by", "cells_by", defArgs s_cells_by, defBody s_cells_by, defScope s_cells_by, [], []⟩
def d_take_head : He.DefD := ⟨("take_head", none), "take_head", "take_head", defArgs s_take_head, defBody s_take_head, defScope s_take_head, [], []⟩
def d_is_stretch : He.DefD := ⟨("is_stretch", none), "is_stretch", "is_stretch", defArgs s_is_stretch, defBody s_is_stretch, defScope s_is_stretch, [], []⟩
def d_unpressed : He.DefD := ⟨("unpressed", none), "unpressed", "unpressed", defArgs s_unpressed, defBody s_unpressed, defScope s_unpressed, [], []⟩
def d_Pillar_init : He.DefD := ⟨("Pillar", some "__init__"), "__init__", "Pillar.__init__", defArgs s_Pillar_init, defBody s_Pillar_init, defScope s_Pillar_init, [], []⟩
def d_Pillar_notes : He.DefD := ⟨("Pillar", some "notes"), "notes", "Pillar.notes", defArgs s_Pillar_notes, defBody s_Pillar_notes, defScope s_Pillar_notes, [], []⟩
def d_Pillar_stretch : He.DefD := ⟨("Pillar", some "stretch"), "stretch", "Pillar.stretch", defArgs s_Pillar_stretch, defBody s_Pillar_stretch, defScope s_Pillar_stretch, [], []⟩
def d_law_begin : He.DefD := ⟨("_law_begin", none), "_law_begin", "_law_begin", defArgs s_law_begin, defBody s_law_begin, defScope s_law_begin, [], []⟩
def d_law_take : He.DefD := ⟨("_law_take", none), "_law_take", "_law_take", defArgs s_law_take, defBody s_law_take, defScope s_law_take, [], []⟩
def d_law_number : He.DefD := ⟨("_law_number", none), "_law_number", "_law_number", defArgs s_law_number, defBody s_law_number, defScope s_law_number, [], []⟩
def d_law_text : He.DefD := ⟨("_law_text", none), "_law_text", "_law_text", defArgs s_law_text, defBody s_law_text, defScope s_law_text, [], []⟩
def d_law_cells : He.DefD := ⟨("_law_cells", none), "_law_cells", "_law_cells", defArgs s_law_cells, defBody s_law_cells, defScope s_law_cells, [], []⟩
def d_law_kinds : He.DefD := ⟨("_law_kinds", none), "_law_kinds", "_law_kinds", defArgs s_law_kinds, defBody s_law_kinds, defScope s_law_kinds, [], []⟩
def d_law_near : He.DefD := ⟨("_law_near", none), "_law_near", "_law_near", defArgs s_law_near, defBody s_law_near, defScope s_law_near, [], []⟩
def d_law_cell_test : He.DefD := ⟨("_law_cell_test", none), "_law_cell_test", "_law_cell_test", defArgs s_law_cell_test, defBody s_law_cell_test, defScope s_law_cell_test, [], []⟩
def d_law_test : He.DefD := ⟨("_law_test", none), "_law_test", "_law_test", defArgs s_law_test, defBody s_law_test, defScope s_law_test, [], []⟩
def d_law_shape : He.DefD := ⟨("_law_shape", none), "_law_shape", "_law_shape", defArgs s_law_shape, defBody s_law_shape, defScope s_law_shape, [], []⟩
def d_law_same : He.DefD := ⟨("_law_same", none), "_law_same", "_law_same", defArgs s_law_same, defBody s_law_same, defScope s_law_same, [], []⟩
def d_law_reads_right : He.DefD := ⟨("_law_reads_right", none), "_law_reads_right", "_law_reads_right", defArgs s_law_reads_right, defBody s_law_reads_right, defScope s_law_reads_right, [], []⟩
def d_law_right : He.DefD := ⟨("_law_right", none), "_law_right", "_law_right", defArgs s_law_right, defBody s_law_right, defScope s_law_right, [], []⟩
def d_law : He.DefD := ⟨("law", none), "law", "law", defArgs s_law, defBody s_law, defScope s_law, [], []⟩
def fnL : List He.DefD := [d_is_so, d_meets, d_note_of, d_has_none, d_has_all, d_looked_open, d_looked, d_pair_meets, d_row_meets, d_places_in, d_Glance_init, d_Glance_size, d_Glance_all_open, d_Glance_had, d_Glance_places_seen, d_Glance_cell_bits, d_Glance_pair_bits, d_Glance_bits, d_glances, d_sieved, d_rows_picked, d_picked, d_is_number, d_is_text_cell, d_is_cell_of, d_cell_key, d_number_bytes, d_text_bytes, d_cell_bytes, d_byte_at, d_number_of, d_take_number, d_take_text, d_take_cell, d_bits_for, d_power_of, d_byte_count, d_packed, d_take_packed, d_runs_of, d_book_of, d_all_bytes, d_run_bytes, d_book_bytes, d_small_bytes, d_base_bytes, d_step_bytes, d_press_by, d_pressed, d_take_byte, d_take_count, d_take_cells, d_take_runs, d_take_book, d_take_small, d_run_cells, d_book_cells, d_base_cells, d_step_cells, d_cells_by, d_take_head, d_is_stretch, d_unpressed, d_Pillar_init, d_Pillar_notes, d_Pillar_stretch, d_law_begin, d_law_take, d_law_number, d_law_text, d_law_cells, d_law_kinds, d_law_near, d_law_cell_test, d_law_test, d_law_shape, d_law_same, d_law_reads_right, d_law_right, d_law]
def faL : List He.Fa := [.glo "is_so", .glo "meets", .glo "note_of", .glo "has_none", .glo "has_all", .glo "looked_open", .glo "looked", .glo "pair_meets", .glo "row_meets", .glo "places_in", .glo "glances", .glo "sieved", .glo "rows_picked", .glo "picked", .glo "is_number", .glo "is_text_cell", .glo "is_cell_of", .glo "cell_key", .glo "number_bytes", .glo "text_bytes", .glo "cell_bytes", .glo "byte_at", .glo "number_of", .glo "take_number", .glo "take_text", .glo "take_cell", .glo "bits_for", .glo "power_of", .glo "byte_count", .glo "packed", .glo "take_packed", .glo "runs_of", .glo "book_of", .glo "all_bytes", .glo "run_bytes", .glo "book_bytes", .glo "small_bytes", .glo "base_bytes", .glo "step_bytes", .glo "press_by", .glo "pressed", .glo "take_byte", .glo "take_count", .glo "take_cells", .glo "take_runs", .glo "take_book", .glo "take_small", .glo "run_cells", .glo "book_cells", .glo "base_cells", .glo "step_cells", .glo "cells_by", .glo "take_head", .glo "is_stretch", .glo "unpressed", .glo "_law_begin", .glo "_law_take", .glo "_law_number", .glo "_law_text", .glo "_law_cells", .glo "_law_kinds", .glo "_law_near", .glo "_law_cell_test", .glo "_law_test", .glo "_law_shape", .glo "_law_same", .glo "_law_reads_right", .glo "_law_right", .glo "law", .glo "Glance", .glo "Pillar", .glo "SIGNS_UP", .free "len", .free "min", .free "max", .free "all", .free "int", .free "str", .free "bool", .free "dict", .free "list", .free "tuple", .free "set", .free "isinstance", .free "sorted", .free "range", .free "zip", .free "enumerate", .free "reversed", .free "abs", .free "divmod", .int "MOST_NUMBER" 1000000000000000000, .int "MOST_SIGNS" 20, .int "MORE" 128, .int "BYTE" 256, .int "BITS" 8, .int "MOST_BYTES" 9, .int "WAYS" 5, .int "MOST_CELLS" 64, .int "MOST_WAY" 4, .int "MOST_WIDE" 62, .str "SIGNS" signsS, .cls "Glance", .cls "Pillar", .mkr "Glance", .mkr "Pillar", .meth "Glance" "size", .meth "Glance" "all_open", .meth "Glance" "had", .meth "Glance" "places_seen", .meth "Glance" "cell_bits", .meth "Glance" "pair_bits", .meth "Glance" "bits", .meth "Pillar" "notes", .meth "Pillar" "stretch", .noat "Glance" "some", .noat "Glance" "notes_there", .noat "Glance" "at", .noat "Glance" "seen", .noat "Pillar" "each", .noat "Pillar" "so_many", .noat "Pillar" "own_rows", .noat "Pillar" "own_notes"]
def exB (K : PySem.W.Frag) : Bool := He.tupB K "SIGNS_UP" [.str "<", .str "<="]
/-- the addresses on a list that are not yet told in the bits of n, each once; k goes on with these and the bits -/
def frsh (k : List Addr → Nat → List Addr) : List Addr → Nat → List Addr → List Addr
  | [], n, t => k t n
  | a :: r, n, t => match Nat.land (Nat.shiftRight n a) 1 with
    | 0 => a :: frsh k r (Nat.lor n (Nat.shiftLeft 1 a)) (a :: t)
    | _ + 1 => frsh k r n t
/-- what is reached from the list t in i steps, beyond the bits of n -/
def reach (g : Addr → Option Obj) : Nat → List Addr → Nat → List Addr
  | 0, _, _ => []
  | i + 1, t, n => frsh (reach g i) (t.flatMap fun a => match g a with
    | some o => He.refsD o
    | none => []) n []
/-- the part of the heap in four steps from the module's names -/
def fragP (g : Addr → Option Obj) : PySem.W.Frag := He.frG g (mainGlobals :: reach g 4 [mainGlobals] (Nat.shiftLeft 1 mainGlobals))
/-- facts by names on that part, and one look more -/
def hookP (fa : List He.Fa) (fn : List He.DefD) (ex : PySem.W.Frag → Bool) : PySem.W.Hook where
  α := He.AlD × Bool
  obs := fun s => (He.obsD fa fn (fragP s.heap.get?), ex (fragP s.heap.get?))
  val := fun _ => (He.valD fn, true)
  says := fun _ h => ∃ K : PySem.W.Frag, K.In h ∧ He.SaysD fa fn K ∧ ex K = true
  of := fun _ _ e => ⟨_, He.frG_in, congrArg Prod.fst e, congrArg Prod.snd e⟩
  keeps := fun _ _ _ ⟨K, hK, c⟩ k => ⟨K, PySem.W.Frag.In.keeps hK k, c⟩
abbrev RR : PySem.W.OpenRow := PySem.W.OpenLaw.row PySem.Challenge.rw_pillarstore_k27_sieves_whole
abbrev hkL : PySem.W.Hook := hookP faL fnL exB
def obL (s : PySem.W.SharedT) : He.AlD × Bool := (He.obsD faL fnL (fragP (HandSHeadRun.getT s)), exB (fragP (HandSHeadRun.getT s)))
theorem obL_eq (s : PySem.W.SharedT) : obL s = hkL.obs s.abs := by
  have e : HandSHeadRun.getT s = s.abs.heap.get? := funext (HandSHeadRun.getT_eq s)
  unfold obL
  rw [e] <;> rfl
def nam0 : List PySem.Str := ["SIGNS_UP", "is_so", "meets", "note_of", "has_none", "has_all", "looked_open", "looked", "pair_meets", "row_meets", "places_in", "Glance", "glances", "sieved", "rows_picked", "picked", "StoreError", "NoRow", "BadBytes", "SIGNS", "MOST_NUMBER", "MOST_SIGNS", "is_number", "is_text_cell", "is_cell_of", "cell_key", "MORE", "BYTE", "BITS", "MOST_BYTES"]
def nam1 : List PySem.Str := ["number_bytes", "text_bytes", "cell_bytes", "byte_at", "number_of", "take_number", "take_text", "take_cell", "bits_for", "power_of", "byte_count", "packed", "take_packed", "WAYS", "runs_of", "book_of", "all_bytes", "run_bytes", "book_bytes", "small_bytes", "base_bytes", "step_bytes", "press_by", "pressed", "MOST_CELLS", "MOST_WAY", "MOST_WIDE", "take_byte", "take_count", "take_cells"]
def nam2 : List PySem.Str := ["take_runs", "take_book", "take_small", "run_cells", "book_cells", "base_cells", "step_cells", "cells_by", "take_head", "is_stretch", "unpressed", "count_in", "cell_in", "Pillar", "_law_begin", "_law_take", "_law_number", "_law_text", "_law_cells", "_law_kinds", "_law_near", "_law_cell_test", "_law_test", "_law_shape", "_law_same", "_law_reads_right", "_law_right"]
def namL : List PySem.Str := nam0 ++ nam1 ++ nam2
theorem map_two {α β γ δ : Type _} {x : Option α} {f : α → β} {g : α → γ} {h : α → δ} {b : β} {c : γ} {d : δ} (h1 : x.map (fun s => (f s, g s)) = some (b, c)) (h2 : x.map h = some d) : x.map (fun s => (f s, g s, h s)) = some (b, c, d) := by
  cases x with
  | none => cases h1
  | some s =>
    have e1 : (f s, g s) = (b, c) := Option.some.inj h1
    have e2 : h s = d := Option.some.inj h2
    have e3 : f s = b := congrArg Prod.fst e1
    have e4 : g s = c := congrArg Prod.snd e1
    show some (f s, g s, h s) = some (b, c, d)
    rw [e2, e3, e4]
/-- the run of the module's top, at most 6000 steps -/
noncomputable abbrev runX (w : World) (os : OsState) := HandSHeadRun.endF (HandSHeadRun.stepQ (HandSHeadRun.denQ HandSHeadRun.tabQ) RR.prog w) 6000 RR.prog w os
theorem run1 (w : World) (os : OsState) : (runX w os).map (fun s => (HandSHeadRun.looksF RR.prog (PySem.W.boot_heap w.params) s.abs, HandSHeadRun.seenQ (PySem.W.view RR.prog [97]) namL (importedModules RR.prog.main.body) (fun s => PySem.W.xlAt (PySem.W.view RR.prog [97]) [] s && PySem.W.recOk RR.toRowW.records s) s.abs)) = some (true, PySem.W.openGood (PySem.W.view RR.prog [97]) namL) := by
  kernel_rfl
theorem run2 (w : World) (os : OsState) : (runX w os).map obL = some (hkL.val w) := by
  kernel_rfl
theorem runL (w : World) : HandSHeadRun.RunEq RR (PySem.W.view RR.prog [97]) hkL obL 6000 namL w := fun os => map_two (run1 w os) (run2 w os)
end Pk
set_option Elab.async false
set_option linter.all false
set_option maxRecDepth 100000
set_option maxHeartbeats 4000000
set_option autoImplicit false
namespace Pk
open PySem PySem.Spec PyProof.Rows L2
/-! ### cells, their bytes -/
def sgL : List Nat := signsS.cps.toList
def sIx (c : Nat) : Int := ((sgL.idxOf c : Nat) : Int)
def TxtOk (z : Str) : Prop := z.length ≤ 20 ∧ ∀ c ∈ z.cps.toList, c ∈ sgL
def NumOk (i : Int) : Prop := -1000000000000000000 < i ∧ i < 1000000000000000000
def tb (z : Str) : List Int := nb ((z.length : Nat) : Int) ++ z.cps.toList.map sIx
def cb : V → List Int
  | .str z => 2 :: tb z
  | .int i => 1 :: nb i
  | _ => [0]
/-- a cell of a number column, of a text column -/
inductive NumC : V → Prop
  | non : NumC .non
  | int {i : Int} (h : NumOk i) : NumC (.int i)
inductive TxtC : V → Prop
  | non : TxtC .non
  | str {z : Str} (h : TxtOk z) : TxtC (.str z)
def CellOk (c : V) : Prop := NumC c ∨ TxtC c
theorem NumOk.sm {i : Int} (h : NumOk i) : Sm i := by
  unfold NumOk at h
  unfold Sm
  omega
theorem Sm.nat {n : Nat} (h : n ≤ 100000) : Sm ((n : Nat) : Int) := by
  unfold Sm
  omega
theorem str_len (z : Str) : z.length = z.cps.toList.length := by
  show z.cps.size = _
  rw [Array.length_toList]
theorem tb_len {z : Str} (h : TxtOk z) : (tb z).length ≤ 22 := by
  unfold tb
  rw [List.length_append, List.length_map, ← str_len]
  have h1 := nb_nat_len (n := z.length) (by have := h.1; omega)
  have := h.1
  omega
theorem cb_len {c : V} (h : CellOk c) : (cb c).length ≤ 23 := by
  rcases h with h | h
  · cases h with
    | non => exact (by decide : 1 ≤ 23)
    | int h =>
      have := nb_len h.sm
      show (nb _).length + 1 ≤ 23
      omega
  · cases h with
    | non => exact (by decide : 1 ≤ 23)
    | str h =>
      have := tb_len h
      show (tb _).length + 1 ≤ 23
      omega
theorem cb_pos (c : V) : 0 < (cb c).length := by
  cases c <;> exact Nat.succ_pos _
theorem sgL_len : sgL.length = 94 := by decide +kernel
theorem signs_len : signsS.length = 94 := by decide +kernel
theorem sg_nodup : sgL.Nodup := by decide +kernel
theorem sIx_bd {c : Nat} (h : c ∈ sgL) : 0 ≤ sIx c ∧ sIx c < 94 := by
  have := List.idxOf_lt_length_of_mem h
  rw [sgL_len] at this
  unfold sIx
  omega
theorem sIx_at {c : Nat} (h : c ∈ sgL) : sgL[sgL.idxOf c]? = some c := List.getElem?_eq_some_iff.mpr ⟨List.idxOf_lt_length_of_mem h, List.getElem_idxOf _⟩
/-- where one sign stands in the signs -/
theorem sg_occ_all : sgL.all (fun c => decide ((Builtin.Str.occurrences signsS ⟨#[c]⟩ 0 signsS.length 1).head? = some (sgL.idxOf c))) = true := by decide +kernel
theorem sg_occ {c : Nat} (h : c ∈ sgL) : ∃ rest, Builtin.Str.occurrences signsS ⟨#[c]⟩ 0 signsS.length 1 = sgL.idxOf c :: rest := by
  have := of_decide_eq_true (List.all_eq_true.mp sg_occ_all c h)
  cases e : Builtin.Str.occurrences signsS ⟨#[c]⟩ 0 signsS.length 1 with
  | nil => rw [e] at this; cases this
  | cons a r =>
    rw [e] at this
    exact ⟨r, by rw [Option.some.inj this]⟩
/-! ### tests whose answer is known -/
theorem ifT {c : Bool} {A B : Prop} (h : c = true) (a : A) : if c = true then A else B := by
  rw [if_pos h]
  exact a
theorem ifF {c : Bool} {A B : Prop} (h : c = false) (b : B) : if c = true then A else B := by
  rw [if_neg (by rw [h]; exact Bool.false_ne_true)]
  exact b
theorem ifB {c : Bool} {A B : Prop} (a : c = true → A) (b : c = false → B) : if c = true then A else B := by
  cases c with
  | true => exact ifT rfl (a rfl)
  | false => exact ifF rfl (b rfl)
theorem dT {p : Prop} [Decidable p] (h : p) : decide p = true := decide_eq_true h
theorem dF {p : Prop} [Decidable p] (h : ¬ p) : decide p = false := decide_eq_false h
/-- both ways go on alike -/
theorem ifS {c : Bool} {A B : Prop} (b : B) (a : c = true → B → A) : if c = true then A else B := ifB (fun h => a h b) (fun _ => b)
theorem vT {a b : Int} (h : decide (V.int a = V.int b) = true) : a = b := by
  have e := of_decide_eq_true h
  injection e
theorem vF {a b : Int} (h : decide (V.int a = V.int b) = false) : a ≠ b := fun e => of_decide_eq_false h (by rw [e])
theorem vDT {a b : Int} (h : a = b) : decide (V.int a = V.int b) = true := decide_eq_true (by rw [h])
theorem vDF {a b : Int} (h : a ≠ b) : decide (V.int a = V.int b) = false := decide_eq_false fun e => h (by injection e)
theorem GT.to {xs ys : List V} {H : Hp} {Q : VK} (k : GT xs H Q) (h : xs = ys) : GT ys H Q := h ▸ k
theorem GL.to {xs ys : List V} {H : Hp} {Q : VK} (k : GL xs H Q) (h : xs = ys) : GL ys H Q := h ▸ k
theorem GV.to {x y : V} {H : Hp} {Q : VK} (k : GV x H Q) (h : x = y) : GV y H Q := h ▸ k
/-- a pair, its second place reckoned otherwise -/
theorem GT.go2 {x : V} {a b : Int} {H H1 : Hp} {Q : VK} (k : GT [x, .int a] H Q) (e : Ex H H1) {p : Addr} (hp : H1 p = none) (h : a = b) : Q (.ref p) (upd H1 p (.tup [x, .int b])) := by
  rw [← h]
  exact k.go e hp
theorem tt_int {n m : Int} {Q : V → Prop} (q : Q (.int n)) (h : n = m) : Q (.int m) := h ▸ q
theorem at_int {row : List Int} {k : Nat} {x : Int} (h : row[k]? = some x) {i : Int} (e : i = (k : Int)) : atI (row.map V.int) i = some (.int x) := by
  rw [e]
  exact atI_nat (by rw [List.getElem?_map, h]; rfl)
theorem at_k {xs : List V} {k : Nat} {x : V} (h : xs[k]? = some x) {i : Int} (e : i = (k : Int)) : atI xs i = some x := by
  rw [e]
  exact atI_nat h
theorem lt_of_at {α : Type} {xs : List α} {k : Nat} {x : α} (h : xs[k]? = some x) : k < xs.length := (List.getElem?_eq_some_iff.mp h).1
end Pk
set_option Elab.async false
set_option linter.all false
set_option maxRecDepth 100000
set_option maxHeartbeats 4000000
set_option autoImplicit false
namespace Pk
open PySem PySem.Spec PyProof.Rows L2
open C8 (Cal Met Mak pe_c pe_mk pe_mt pe_mt0 pe_gc)
section
variable {P : Program} {w : World} {K : PySem.W.Frag} {mg : Str → Option Value} {base : Heap} {CG CP upA : Addr}
/-! ### number_bytes -/
def sp_number_bytes (K : PySem.W.Frag) : Sp := fun vs H Q _ => ∃ n : Int, vs = [.int n] ∧ Sm n ∧ GL ((nb n).map V.int) H Q
def I_number_bytes (n : Int) (p : Addr) (H : Hp) (m : Nat) (σ : L2.St) (H' : Hp) : Prop := ∃ (z : Nat) (acc : List Int), m = z ∧ σ = [some (.int n), some (.int (z : Int)), some (.ref p)] ∧ Ex H H' ∧ H' p = some (.lst (acc.map V.int)) ∧ acc ++ nbN z = nb n
theorem ok_number_bytes (T : Gf K mg CG CP upA) (D : Dfn K mg "number_bytes" s_number_bytes) : Cal P w K mg base 1 "number_bytes" (sp_number_bytes K) [] := by
  refine cal_mk D sc_number_bytes (fun _ _ _ _ _ _ us hl => match us, hl with | [_], _ => rfl) (fun vs H Q E h => ?_) (fun f cdv A outer s H vs Q E hr h => ?_)
  · obtain ⟨_, rfl, _⟩ := h; rfl
  · obtain ⟨n, rfl, hn, q⟩ := h
    have hz := zg_lt hn
    refine ⟨_, pss_cons (ps_set (i := 1) sc_number_bytes.nd rfl (Or.inl rfl) (pe_op op_mul (pe_int) (pv 0)))
      (Evl.pss_cut (ps_if (pt_cmpR op_lt (pv 0) (pe_int) (nomark _)) (pss_one (ps_set (i := 1) sc_number_bytes.nd rfl (Or.inl rfl) (pe_op op_sub (pe_op op_mul (pe_un un_neg (pe_int)) (pv 0)) (pe_int)))) (pss_nil))
      (pss_cons (ps_set (i := 2) sc_number_bytes.nd rfl (Or.inl rfl) (pe_lst (pa_nil)))
      (pss_cons (ps_while PassesOwn.never (pt_cmpR op_ge (pv 1) (pe_gc (by rfl) T.more) (nomark _))
        (pss_cons (ps_expr (pe_bm PySem.F.plainAttrs_list PySem.F.slot_list_append PySem.F.type_list_append mt_append (pv 2) (pa_cons (pe_op op_add (pe_op op_mod (pv 1) (pe_gc (by rfl) T.more)) (pe_gc (by rfl) T.more)) pa_nil)))
        (pss_one (ps_set (i := 1) sc_number_bytes.nd rfl (Or.inl rfl) (pe_op op_fdiv (pv 1) (pe_gc (by rfl) T.more))))))
      (pss_one (ps_ret (pe_op op_cat (pv 2) (pe_lst (pa_cons (pv 1) pa_nil)))))))), ?_⟩
    refine ⟨_, rfl, _, _, rfl, rfl, .inl ⟨by decide, by decide⟩, ?_⟩
    refine ⟨fun σ' H' => σ' = [some (.int n), some (.int ((zg n : Nat) : Int)), none] ∧ H' = H, ?_, ?_⟩
    · refine ⟨_, rfl, _, _, rfl, rfl, _, rfl, ifB (fun c => ?_) (fun c => ?_)⟩
      · have c := of_decide_eq_true c
        refine ⟨_, rfl, _, rfl, _, _, rfl, rfl, .inl ⟨by decide, by decide⟩, _, _, rfl, rfl, ?_, rfl⟩
        show [some (V.int n), some (V.int (-2 * n - 1)), none] = _
        rw [show ((zg n : Nat) : Int) = -2 * n - 1 by unfold zg; rw [if_pos c]; omega]
      · have c := of_decide_eq_false c
        refine ⟨?_, rfl⟩
        show [some (V.int n), some (V.int (2 * n)), none] = _
        rw [show ((zg n : Nat) : Int) = 2 * n by unfold zg; rw [if_neg c]; omega]
    rintro σ' H' ⟨rfl, rfl⟩
    refine ⟨Nat.zero_le _, fun p np => ?_⟩
    refine ⟨I_number_bytes n p H', ⟨_, zg n, [], rfl, rfl, Ex.n np, upd_same, rfl⟩, ?_⟩
    rintro m σ H1 ⟨z, acc, rfl, rfl, e, hp, hz2⟩
    have hl : (acc ++ nbN m).length ≤ 9 := by rw [hz2]; exact nb_len hn
    rw [List.length_append] at hl
    have hpos := nbN_pos m
    refine ⟨_, rfl, _, _, rfl, rfl, _, rfl, ifB (fun c => ?_) (fun c => ?_)⟩
    · have c := of_decide_eq_true c
      refine ⟨fun σ' H' => ∃ m', m' < m ∧ I_number_bytes n p _ m' σ' H', fun _ _ h => h, ?_⟩
      refine ⟨_, rfl, .inl ⟨rfl, _, .inl (.inl hp)⟩, _, rfl, _, _, rfl, rfl, (show (0 : Int) < 128 by decide), _, _, rfl, rfl, _, _, _, rfl, rfl, hp, smlt (by rw [List.length_map]; omega), ?_⟩
      refine ⟨_, rfl, _, _, rfl, rfl, ⟨by decide, by decide⟩, ?_⟩
      refine ⟨m / 128, by omega, m / 128, acc ++ [((m % 128 + 128 : Nat) : Int)], rfl, rfl, e.mut np, ?_, ?_⟩
      · rw [upd_same, List.map_append]
        rfl
      · rw [List.append_assoc, ← hz2, nbN_ge (z := m) (by omega)]
        rfl
    · have c := of_decide_eq_false c
      refine ⟨_, rfl, _, rfl, Nat.le_of_ble_eq_true rfl, fun p2 np2 => ?_⟩
      refine ⟨p, p2, acc.map V.int, _, rfl, rfl, ?_, upd_same, sml (by rw [List.length_map]; show acc.length + 1 ≤ _; omega), fun p3 np3 => ?_⟩
      · rw [upd_ne (ne_of_none hp np2)]
        exact hp
      · have e2 : List.map V.int acc ++ [V.int ((m : Nat) : Int)] = List.map V.int (nb n) := by
          rw [← hz2, nbN_lt (z := m) (by omega)]
          simp
        rw [e2]
        exact q.go (e.trans (Ex.n np2)) np3

/-! ### text_bytes, cell_bytes -/
def sp_text_bytes (K : PySem.W.Frag) : Sp := fun vs H Q _ => ∃ z : Str, vs = [.str z] ∧ TxtOk z ∧ GL ((tb z).map V.int) H Q
theorem ok_text_bytes (T : Gf K mg CG CP upA) (D : Dfn K mg "text_bytes" s_text_bytes) (c_number_bytes : Cal P w K mg base 1 "number_bytes" (sp_number_bytes K) []) : Cal P w K mg base 2 "text_bytes" (sp_text_bytes K) [] := by
  refine cal_mk D sc_text_bytes (fun _ _ _ _ _ _ us hl => match us, hl with | [_], _ => rfl) (fun vs H Q E h => ?_) (fun f cdv A outer s H vs Q E hr h => ?_)
  · obtain ⟨_, rfl, _⟩ := h; rfl
  · obtain ⟨z, rfl, hz, q⟩ := h
    have h20 := hz.1
    refine ⟨_, pss_one (ps_ret (pe_op op_cat (pe_c c_number_bytes hr (by decide) (by rfl) (pa_cons (pe_callB call_len_str (by rfl) T.len (by decide +kernel) (pa_cons (pv 0) pa_nil)) pa_nil)) (pe_lc (own := [("sign", 1)]) (g := gName 1) (tt := tYes) (te := (tBM K "str" _ _ _)) (by rfl) sc_text_bytes.nd (pi_str (pv 0)) (blkOk_by (N := N_text_bytes) (sc := defScope s_text_bytes) (by decide +kernel)) (fun _ _ _ _ _ => pg_name (i := 1) sc_text_bytes.nd rfl (Or.inl rfl)) (fun _ _ _ _ _ => pts_nil) (fun _ _ _ _ _ => pe_bm PySem.F.plainAttrs_str PySem.F.slot_str_index PySem.F.type_str_index mt_sindex (pe_gc (by rfl) T.signs) (pa_cons (pv 1) pa_nil))))), ?_⟩
    refine ⟨_, rfl, _, rfl, sml (by omega), ((z.length : Nat) : Int), rfl, Sm.nat (by omega), fun p H1 np e1 hp => ?_⟩
    refine ⟨_, rfl, z, rfl, fun d nd => ?_⟩
    refine lc_it walk_str (fun i H' => Ex H1 H' ∧ H' d = some (.lst (((z.cps.toList.map sIx).take i).map V.int))) ⟨Ex.n nd, upd_same⟩ (fun _ _ _ _ => trivial) (fun i x H' H2 hi hI hy => ?_) (fun H' hI => ?_)
    · obtain ⟨e2, hd⟩ := hI
      obtain ⟨rfl, c, hc, rfl⟩ := hy
      have hc' : z.cps.toList[i]? = some c := by rw [Array.getElem?_toList]; exact hc
      have hm := hz.2 c (List.mem_of_getElem? hc')
      obtain ⟨rest, ho⟩ := sg_occ hm
      have hlt : i < z.length := hi
      refine ⟨rfl, ?_⟩
      refine ⟨rfl, _, rfl, _, _, _, _, rfl, rfl, ho, ?_⟩
      · refine ⟨_, hd, smlt (by rw [List.length_map, List.length_take]; omega), e2.mut nd, ?_⟩
        have e3 : ((z.cps.toList.map sIx).take i).map V.int ++ [V.int ((sgL.idxOf c : Nat) : Int)] = ((z.cps.toList.map sIx).take (i + 1)).map V.int := by
          rw [List.take_add_one, List.getElem?_map, hc', List.map_append]
          rfl
        rw [e3]
        exact upd_same
    · obtain ⟨e2, hd⟩ := hI
      have e3 : (z.cps.toList.map sIx).take z.cps.size = z.cps.toList.map sIx := List.take_of_length_le (by rw [List.length_map, Array.length_toList]; exact Nat.le_refl _)
      rw [e3] at hd
      refine ⟨p, d, _, _, rfl, rfl, e2 _ _ hp, hd, sml ?_, fun p3 np3 => ?_⟩
      · rw [List.length_map, List.length_map, List.length_map, ← str_len]
        have := nb_nat_len (n := z.length) (by omega)
        omega
      · rw [← List.map_append]
        exact q.go (e1.trans e2) np3
theorem k_i_s : PySem.W.kitOne K (.type "int") (.type "str") = some false := kit_ty (by decide +kernel)
theorem k_s_s : PySem.W.kitOne K (.type "str") (.type "str") = some true := kit_ty (by decide +kernel)
theorem k_n_s : PySem.W.kitOne K (.type "NoneType") (.type "str") = some false := kit_ty (by decide +kernel)
def sp_cell_bytes (K : PySem.W.Frag) : Sp := fun vs H Q _ => ∃ c : V, vs = [c] ∧ CellOk c ∧ GL ((cb c).map V.int) H Q
theorem ok_cell_bytes (T : Gf K mg CG CP upA) (D : Dfn K mg "cell_bytes" s_cell_bytes) (c_text_bytes : Cal P w K mg base 2 "text_bytes" (sp_text_bytes K) []) (c_number_bytes : Cal P w K mg base 1 "number_bytes" (sp_number_bytes K) []) : Cal P w K mg base 3 "cell_bytes" (sp_cell_bytes K) [] := by
  refine cal_mk D sc_cell_bytes (fun _ _ _ _ _ _ us hl => match us, hl with | [_], _ => rfl) (fun vs H Q E h => ?_) (fun f cdv A outer s H vs Q E hr h => ?_)
  · obtain ⟨_, rfl, _⟩ := h; rfl
  · obtain ⟨c, rfl, hc, q⟩ := h
    refine ⟨_, pss_cons (ps_if (pt_cmpR op_isN (pv 0) pe_non (nomark _)) (pss_one (ps_ret (pe_lst (pa_cons (pe_int) pa_nil)))) (pss_nil))
      (pss_cons (ps_if (pt_val (pe_callB call_isi (by rfl) T.isinstance (by decide +kernel) (pa_cons (pv 0) (pa_cons (pe_bltn (v := .ty "str") (u := Value.type "str") (by rfl) T.str (by decide +kernel) rfl) pa_nil)))) (pss_one (ps_ret (pe_op op_cat (pe_lst (pa_cons (pe_int) pa_nil)) (pe_c c_text_bytes hr (by decide) (by rfl) (pa_cons (pv 0) pa_nil))))) (pss_nil))
      (pss_one (ps_ret (pe_op op_cat (pe_lst (pa_cons (pe_int) pa_nil)) (pe_c c_number_bytes hr (by decide) (by rfl) (pa_cons (pv 0) pa_nil)))))), ?_⟩
    refine ⟨_, rfl, rfl, _, rfl, ifB (fun hn => ?_) (fun hn => ?_)⟩
    · have hn := of_decide_eq_true hn
      subst hn
      exact ⟨Nat.le_of_ble_eq_true rfl, fun p np => q.go (Ex.r H) np⟩
    · have hn := of_decide_eq_false hn
      cases c with
      | int i =>
        have hi : Sm i := by
          rcases hc with h | h <;> cases h
          rename_i h
          exact h.sm
        refine ⟨_, rfl, _, _, .type "int", _, false, rfl, .ty _, .base (.int _), k_i_s, _, rfl, ?_⟩
        refine ⟨Nat.le_of_ble_eq_true rfl, fun p np => ?_⟩
        refine ⟨_, rfl, i, rfl, hi, fun p2 H2 np2 e2 hp2 => ?_⟩
        refine ⟨p, p2, _, _, rfl, rfl, e2 _ _ upd_same, hp2, sml ?_, fun p3 np3 => ?_⟩
        · rw [List.length_map]
          have := nb_len hi
          show 1 + _ ≤ _
          omega
        · exact q.go ((Ex.n np).trans e2) np3
      | str z =>
        have hz : TxtOk z := by
          rcases hc with h | h <;> cases h
          assumption
        refine ⟨_, rfl, _, _, .type "str", _, true, rfl, .ty _, .base (.str _), k_s_s, _, rfl, ?_⟩
        refine ⟨Nat.le_of_ble_eq_true rfl, fun p np => ?_⟩
        refine ⟨_, rfl, z, rfl, hz, fun p2 H2 np2 e2 hp2 => ?_⟩
        refine ⟨p, p2, _, _, rfl, rfl, e2 _ _ upd_same, hp2, sml ?_, fun p3 np3 => ?_⟩
        · rw [List.length_map]
          have := tb_len hz
          show 1 + _ ≤ _
          omega
        · exact q.go ((Ex.n np).trans e2) np3
      | non => exact absurd rfl hn
      | _ => rcases hc with h | h <;> cases h
end
end Pk
set_option Elab.async false
set_option linter.all false
set_option maxRecDepth 100000
set_option maxHeartbeats 4000000
set_option autoImplicit false
namespace Pk
open PySem PySem.Spec PyProof.Rows L2
open C8 (Cal Met Mak pe_c pe_mk pe_mt pe_mt0 pe_gc)
section
variable {P : Program} {w : World} {K : PySem.W.Frag} {mg : Str → Option Value} {base : Heap} {CG CP upA : Addr}
/-! ### byte_at, number_of, take_number -/
def sp_byte_at (K : PySem.W.Frag) : Sp := fun vs H Q _ => ∃ (a : Addr) (i : Int) (row : List Int) (k : Nat) (x : Int), vs = [.ref a, .int i] ∧ i = (k : Int) ∧ SqL K H a (row.map V.int) ∧ row[k]? = some x ∧ Q (.int x) H
theorem ok_byte_at (T : Gf K mg CG CP upA) (D : Dfn K mg "byte_at" s_byte_at)  : Cal P w K mg base 1 "byte_at" (sp_byte_at K) [] := by
  refine cal_mk D sc_byte_at (fun _ _ _ _ _ _ us hl => match us, hl with | [_, _], _ => rfl) (fun vs H Q E h => ?_) (fun f cdv A outer s H vs Q E hr h => ?_)
  · obtain ⟨_, _, _, _, _, rfl, _⟩ := h; rfl
  · obtain ⟨a, i, row, k, x, rfl, rfl, hS, hx, q⟩ := h
    have hk := lt_of_at hx
    refine ⟨_, pss_cons (ps_if (pt_cmpR op_ge (pv 1) (pe_callB call_len_seq (by rfl) T.len (by decide +kernel) (pa_cons (pv 0) pa_nil)) (nomark _)) (pss_never) (pss_nil))
      (pss_one (ps_ret (pe_ix ix_list (pv 0) (pv 1) (fun _ _ => rfl)))), ?_⟩
    refine ⟨_, rfl, _, rfl, _, _, rfl, .inl hS, _, _, rfl, rfl, _, rfl, ifF (dF (by rw [List.length_map]; omega)) ?_⟩
    exact ⟨_, rfl, _, rfl, _, _, _, _, rfl, rfl, hS, at_int hx rfl, q⟩
def sp_number_of (K : PySem.W.Frag) : Sp := fun vs H Q _ => ∃ (i : Int) (z : Nat), vs = [.int i] ∧ i = (z : Int) ∧ Q (.int (unz z)) H
theorem ok_number_of (T : Gf K mg CG CP upA) (D : Dfn K mg "number_of" s_number_of)  : Cal P w K mg base 1 "number_of" (sp_number_of K) [] := by
  refine cal_mk D sc_number_of (fun _ _ _ _ _ _ us hl => match us, hl with | [_], _ => rfl) (fun vs H Q E h => ?_) (fun f cdv A outer s H vs Q E hr h => ?_)
  · obtain ⟨_, _, rfl, _⟩ := h; rfl
  · obtain ⟨i, z, rfl, rfl, q⟩ := h
    refine ⟨_, pss_cons (ps_if (pt_cmpR op_eq (pe_op op_mod (pv 0) (pe_int)) (pe_int) (nomark _)) (pss_one (ps_ret (pe_op op_fdiv (pv 0) (pe_int)))) (pss_nil))
      (pss_one (ps_ret (pe_op op_sub (pe_un un_neg (pe_op op_fdiv (pv 0) (pe_int))) (pe_int)))), ?_⟩
    refine ⟨_, rfl, _, _, rfl, rfl, (show (0 : Int) < 2 by decide), rfl, _, rfl, ifB (fun c => ?_) (fun c => ?_)⟩
    · have c := vT c
      refine ⟨_, rfl, _, _, rfl, rfl, ⟨by decide, by decide⟩, ?_⟩
      have e : unz z = (z : Int) / 2 := by
        unfold unz
        rw [if_pos (by omega)]
        omega
      rw [e] at q
      exact q
    · have c := vF c
      refine ⟨_, rfl, _, _, rfl, rfl, ⟨by decide, by decide⟩, _, rfl, _, _, rfl, rfl, ?_⟩
      have e : unz z = -((z : Int) / 2) - 1 := by
        unfold unz
        rw [if_neg (by omega)]
        omega
      rw [e] at q
      exact q
def sp_take_number (K : PySem.W.Frag) : Sp := fun vs H Q _ => ∃ (a : Addr) (i : Int) (row : List Int) (k : Nat) (n : Int), vs = [.ref a, .int i] ∧ i = (k : Int) ∧ SqL K H a (row.map V.int) ∧ At row k (nb n) ∧ Sm n ∧ GT [.int n, .int ((k : Int) + ((nb n).length : Int))] H Q
def I_take_number (a : Addr) (row : List Int) (k : Nat) (n : Int) (H : Hp) (t : Nat) (σ : L2.St) (H' : Hp) : Prop := H' = H ∧ ∃ (r : Int) (z : Nat) (y4 y5 : Option V), σ = [some (.ref a), some (.int (k : Int)), some (.int r), some (.int (128 ^ t)), y4, y5] ∧
  r + 128 ^ t * (z : Int) = (zg n : Int) ∧ At row (k + t) (nbN z) ∧ (nb n).length = t + (nbN z).length ∧ (0 < t → 0 < z)
theorem pow128 {t : Nat} (h : t ≤ 9) : (1 : Int) ≤ 128 ^ t ∧ (128 : Int) ^ t ≤ 128 ^ 9 := by
  have h1 : (0 : Int) < 128 ^ t := Int.pow_pos (by decide)
  have h2 : (128 : Nat) ^ t ≤ 128 ^ 9 := Nat.pow_le_pow_right (by decide) h
  have h3 : (128 : Int) ^ t ≤ 128 ^ 9 := by exact_mod_cast h2
  exact ⟨by omega, h3⟩
theorem ok_take_number (T : Gf K mg CG CP upA) (D : Dfn K mg "take_number" s_take_number) (c_byte_at : Cal P w K mg base 1 "byte_at" (sp_byte_at K) []) (c_number_of : Cal P w K mg base 1 "number_of" (sp_number_of K) []) : Cal P w K mg base 2 "take_number" (sp_take_number K) [] := by
  refine cal_mk D sc_take_number (fun _ _ _ _ _ _ us hl => match us, hl with | [_, _], _ => rfl) (fun vs H Q E h => ?_) (fun f cdv A outer s H vs Q E hr h => ?_)
  · obtain ⟨_, _, _, _, _, rfl, _⟩ := h; rfl
  · obtain ⟨a, i, row, k, n, rfl, rfl, hS, hA, hn, q⟩ := h
    have h9 := nb_len hn
    refine ⟨_, pss_cons (ps_set (i := 2) sc_take_number.nd rfl (Or.inl rfl) (pe_int))
      (pss_cons (ps_set (i := 3) sc_take_number.nd rfl (Or.inl rfl) (pe_int))
      (pss_cons (ps_for PassesOwn.never rfl (pi_range1 (by rfl) T.range (pa_cons (pe_gc (by rfl) T.most_bytes) pa_nil)) (pg_name (i := 4) sc_take_number.nd rfl (Or.inl rfl))
        (pss_cons (ps_set (i := 5) sc_take_number.nd rfl (Or.inl rfl) (pe_c c_byte_at hr (by decide) (by rfl) (pa_cons (pv 0) (pa_cons (pe_op op_add (pv 1) (pv 4)) pa_nil))))
        (pss_cons (ps_aug (i := 2) sc_take_number.nd rfl (.inl rfl) (pe_op op_mul (pe_op op_mod (pv 5) (pe_gc (by rfl) T.more)) (pv 3)) ip_add)
        (pss_cons (ps_aug (i := 3) sc_take_number.nd rfl (.inl rfl) (pe_gc (by rfl) T.more) iop_mul)
        (pss_one (ps_if (pt_cmpR op_lt (pv 5) (pe_gc (by rfl) T.more) (nomark _)) (pss_cons (ps_if (PW.pt (pw_and (pt_cmpR op_eq (pv 5) (pe_int) (nomark _)) (pw_and1 (pt_cmpR op_gt (pv 4) (pe_int) (nomark _))))) (pss_never) (pss_nil))
          (pss_one (ps_ret (pe_tup (pa_cons (pe_c c_number_of hr (by decide) (by rfl) (pa_cons (pv 2) pa_nil)) (pa_cons (pe_op op_add (pe_op op_add (pv 1) (pv 4)) (pe_int)) pa_nil)))))) (pss_nil)))))))
      (pss_one (ps_never)))), ?_⟩
    refine ⟨9, rfl, by decide, by decide, for_range (lo := 0) (n := 9) (I_take_number a row k n H) ⟨rfl, 0, zg n, none, none, rfl, ?_, hA, ?_, fun h => absurd h (Nat.lt_irrefl _)⟩ (fun t σ H' ht hI => ?_) (fun σ H' hI => ?_)⟩
    · rw [Int.pow_zero, Int.one_mul, Int.zero_add]
    · rw [Nat.zero_add]
      rfl
    · obtain ⟨rfl, r, z, y4, y5, rfl, hr1, hA1, hl1, hz1⟩ := hI
      have hpow := pow128 (t := t) (by omega)
      have hpos := nbN_pos z
      by_cases hz : z < 128
      · -- the last byte
        have eA := hA1
        rw [nbN_lt hz] at eA
        have hb := eA.head
        refine ⟨_, rfl, _, rfl, _, rfl, _, _, rfl, rfl, a, _, row, k + t, _, rfl, by omega, hS, hb, ?_⟩
        refine ⟨_, rfl, _, rfl, _, _, rfl, rfl, (show (0 : Int) < 128 by decide), _, rfl, _, _, rfl, rfl, .inl ⟨by omega, by omega⟩, _, _, rfl, rfl, ?_⟩
        refine ⟨_, rfl, _, _, rfl, rfl, .inr ⟨by decide, by decide⟩, ?_⟩
        refine ⟨_, rfl, _, _, rfl, rfl, _, rfl, ifT (dT (by omega)) ?_⟩
        refine ⟨_, rfl, rfl, _, rfl, ifS ?_ (fun c b => ?_)⟩
        · refine ⟨_, rfl, _, zg n, rfl, by rw [← hr1, Int.emod_eq_of_lt (by omega) (by omega), Int.mul_comm], _, rfl, _, rfl, _, _, rfl, rfl, _, _, rfl, rfl, Nat.le_of_ble_eq_true rfl, fun p np => ?_⟩
          rw [unz_zg]
          refine q.go2 (Ex.r _) np ?_
          rw [hl1, nbN_lt hz]
          show (k : Int) + ((t + 1 : Nat) : Int) = _
          omega
        · have c := vT c
          have ht : ¬ 0 < t := fun h => by have := hz1 h; omega
          exact ⟨_, rfl, _, _, rfl, rfl, _, rfl, ifF (dF (by omega)) b⟩
      · -- more bytes
        have eA := hA1
        rw [nbN_ge hz] at eA
        have hl2 := congrArg List.length (nbN_ge hz)
        rw [List.length_cons] at hl2
        have hpos2 := nbN_pos (z / 128)
        have hb := eA.head
        refine ⟨_, rfl, _, rfl, _, rfl, _, _, rfl, rfl, a, _, row, k + t, _, rfl, by omega, hS, hb, ?_⟩
        refine ⟨_, rfl, _, rfl, _, _, rfl, rfl, (show (0 : Int) < 128 by decide), _, rfl, _, _, rfl, rfl, .inl ⟨by omega, by omega⟩, _, _, rfl, rfl, ?_⟩
        refine ⟨_, rfl, _, _, rfl, rfl, .inr ⟨by decide, by decide⟩, ?_⟩
        refine ⟨_, rfl, _, _, rfl, rfl, _, rfl, ifF (dF (by omega)) ?_⟩
        refine ⟨rfl, _, z / 128, _, _, rfl, ?_, ?_, ?_, fun _ => by omega⟩
        · rw [← hr1, Int.pow_succ, show ((z % 128 + 128 : Nat) : Int) % 128 = ((z % 128 : Nat) : Int) by omega]
          have e1 : ((z : Nat) : Int) = 128 * ((z / 128 : Nat) : Int) + ((z % 128 : Nat) : Int) := by omega
          rw [e1, Int.mul_add, Int.mul_assoc, Int.mul_comm ((z % 128 : Nat) : Int), Int.add_assoc]
          omega
        · exact eA.tail
        · omega
    · obtain ⟨rfl, r, z, y4, y5, rfl, hr1, hA1, hl1, hz1⟩ := hI
      have hpos := nbN_pos z
      omega
end
end Pk
set_option Elab.async false
set_option linter.all false
set_option maxRecDepth 100000
set_option maxHeartbeats 4000000
set_option autoImplicit false
namespace Pk
open PySem PySem.Spec PyProof.Rows L2
open C8 (Cal Met Mak pe_c pe_mk pe_mt pe_mt0 pe_gc)
section
variable {P : Program} {w : World} {K : PySem.W.Frag} {mg : Str → Option Value} {base : Heap} {CG CP upA : Addr}
/-! ### take_text, take_cell -/
def sp_take_text (K : PySem.W.Frag) : Sp := fun vs H Q _ => ∃ (a : Addr) (i : Int) (row : List Int) (k : Nat) (z : Str), vs = [.ref a, .int i] ∧ i = (k : Int) ∧ SqL K H a (row.map V.int) ∧ At row k (tb z) ∧ TxtOk z ∧ GT [.str z, .int ((k : Int) + ((tb z).length : Int))] H Q
theorem ext_tk {z : Str} {t : Nat} {c : Nat} (h : z.cps.toList[t]? = some c) : (⟨(z.cps.toList.take t).toArray⟩ : Str) ++ (⟨#[c]⟩ : Str) = ⟨(z.cps.toList.take (t + 1)).toArray⟩ := by
  rw [List.take_add_one, h]
  exact SX.S_cat (z.cps.toList.take t) [c]
theorem ok_take_text (T : Gf K mg CG CP upA) (D : Dfn K mg "take_text" s_take_text) (c_take_number : Cal P w K mg base 2 "take_number" (sp_take_number K) []) (c_byte_at : Cal P w K mg base 1 "byte_at" (sp_byte_at K) []) : Cal P w K mg base 3 "take_text" (sp_take_text K) [] := by
  refine cal_mk D sc_take_text (fun _ _ _ _ _ _ us hl => match us, hl with | [_, _], _ => rfl) (fun vs H Q E h => ?_) (fun f cdv A outer s H vs Q E hr h => ?_)
  · obtain ⟨_, _, _, _, _, rfl, _⟩ := h; rfl
  · obtain ⟨a, i, row, k, z, rfl, rfl, hS, hA, hz, q⟩ := h
    have h20 := hz.1
    have hsl := str_len z
    refine ⟨_, pss_cons (ps_asg (pe_c c_take_number hr (by decide) (by rfl) (pa_cons (pv 0) (pa_cons (pv 1) pa_nil))) (pg_tup (by rfl) (pgs_cons (pg_name (i := 2) sc_take_text.nd rfl (Or.inl rfl)) (pgs_cons (pg_name (i := 1) sc_take_text.nd rfl (Or.inl rfl)) pgs_nil))))
      (pss_cons (ps_if (pt_not (pt_chain op_le op_le (pe_int) (pv 2) (pe_gc (by rfl) T.most_signs))) (pss_never) (pss_nil))
      (pss_cons (ps_set (i := 3) sc_take_text.nd rfl (Or.inl rfl) (pe_str))
      (pss_cons (ps_for PassesOwn.never rfl (pi_range1 (by rfl) T.range (pa_cons (pv 2) pa_nil)) (pg_name (i := 4) sc_take_text.nd rfl (Or.inl rfl))
        (pss_cons (ps_set (i := 5) sc_take_text.nd rfl (Or.inl rfl) (pe_c c_byte_at hr (by decide) (by rfl) (pa_cons (pv 0) (pa_cons (pe_op op_add (pv 1) (pv 4)) pa_nil))))
        (pss_cons (ps_if (pt_not (pt_chain op_le op_lt (pe_int) (pv 5) (pe_callB call_len_str (by rfl) T.len (by decide +kernel) (pa_cons (pe_gc (by rfl) T.signs) pa_nil)))) (pss_never) (pss_nil))
        (pss_one (ps_aug (i := 3) sc_take_text.nd rfl (.inl rfl) (pe_ix ix_str (pe_gc (by rfl) T.signs) (pv 5) (fun _ _ => rfl)) iop_add_str)))))
      (pss_one (ps_ret (pe_tup (pa_cons (pv 3) (pa_cons (pe_op op_add (pv 1) (pv 2)) pa_nil)))))))), ?_⟩
    refine ⟨_, rfl, _, rfl, a, _, row, k, ((z.length : Nat) : Int), rfl, rfl, hS, hA.left, Sm.nat (by omega), fun p H1 np e1 hp => ?_⟩
    have hA2 := hA.right
    refine ⟨_, _, rfl, .inl (.inl hp), rfl, _, _, rfl, _, _, rfl, rfl, ?_⟩
    refine ⟨_, rfl, _, _, rfl, rfl, _, rfl, ifT (dT (by omega)) ⟨_, _, rfl, rfl, _, rfl, ifF (by rw [dT (by omega)]; rfl) ?_⟩⟩
    refine ⟨_, rfl, _, rfl, by omega, by omega, for_range (lo := 0) (n := z.length) (fun t σ H' => H' = H1 ∧ ∃ y4 y5, σ = [some (.ref a), some (.int ((k : Int) + ((nb ((z.length : Nat) : Int)).length : Int))), some (.int ((z.length : Nat) : Int)), some (.str ⟨(z.cps.toList.take t).toArray⟩), y4, y5])
      ⟨rfl, none, none, rfl⟩ (fun t σ H' ht hI => ?_) (fun σ H' hI => ?_)⟩
    · obtain ⟨rfl, y4, y5, rfl⟩ := hI
      obtain ⟨c, hc⟩ : ∃ c, z.cps.toList[t]? = some c := ⟨_, List.getElem?_eq_getElem (by omega)⟩
      have hm := hz.2 c (List.mem_of_getElem? hc)
      have hbd := sIx_bd hm
      have hb : row[k + (nb ((z.length : Nat) : Int)).length + t]? = some (sIx c) := by
        obtain ⟨pre, post, er, el⟩ := hA2
        rw [er, List.getElem?_append_right (by omega), List.getElem?_append_left (by rw [List.length_map]; omega), List.getElem?_map, show k + (nb ((z.length : Nat) : Int)).length + t - pre.length = t by omega, hc]
        rfl
      refine ⟨_, rfl, _, rfl, _, rfl, _, _, rfl, rfl, a, _, row, k + (nb ((z.length : Nat) : Int)).length + t, sIx c, rfl, by omega, exL hS e1, hb, ?_⟩
      refine ⟨_, rfl, _, _, rfl, rfl, _, rfl, ifT (dT hbd.1) ⟨_, rfl, sml (by rw [signs_len]; decide), _, _, rfl, rfl, _, rfl, ifF (by rw [dT (by rw [signs_len]; omega)]; rfl) ?_⟩⟩
      refine ⟨_, rfl, _, rfl, signsS, _, c, rfl, rfl, sml (by rw [signs_len]; decide), ?_, _, _, rfl, rfl, ?_, ?_⟩
      · exact atI_nat (sIx_at hm)
      · refine sml ?_
        show (z.cps.toList.take t).toArray.size + 1 ≤ _
        rw [List.size_toArray, List.length_take]
        omega
      · refine ⟨rfl, some (.int (0 + (t : Int))), some (.int (sIx c)), ?_⟩
        rw [← ext_tk hc]
        rfl
    · obtain ⟨rfl, y4, y5, rfl⟩ := hI
      refine ⟨_, rfl, _, rfl, _, rfl, _, _, rfl, rfl, Nat.le_of_ble_eq_true rfl, fun p3 np3 => ?_⟩
      have e2 : (⟨(z.cps.toList.take z.length).toArray⟩ : Str) = z := by
        rw [List.take_of_length_le (by omega)]
      rw [e2]
      refine q.go2 e1 np3 ?_
      show _ + (((nb _) ++ _).length : Int) = _
      rw [List.length_append, List.length_map]
      omega
def sp_take_cell (K : PySem.W.Frag) : Sp := fun vs H Q _ => ∃ (a : Addr) (i : Int) (row : List Int) (k : Nat) (c : V), vs = [.ref a, .int i] ∧ i = (k : Int) ∧ SqL K H a (row.map V.int) ∧ At row k (cb c) ∧ CellOk c ∧ GT [c, .int ((k : Int) + ((cb c).length : Int))] H Q
theorem ok_take_cell (T : Gf K mg CG CP upA) (D : Dfn K mg "take_cell" s_take_cell) (c_byte_at : Cal P w K mg base 1 "byte_at" (sp_byte_at K) []) (c_take_number : Cal P w K mg base 2 "take_number" (sp_take_number K) []) (c_take_text : Cal P w K mg base 3 "take_text" (sp_take_text K) []) : Cal P w K mg base 4 "take_cell" (sp_take_cell K) [] := by
  refine cal_mk D sc_take_cell (fun _ _ _ _ _ _ us hl => match us, hl with | [_, _], _ => rfl) (fun vs H Q E h => ?_) (fun f cdv A outer s H vs Q E hr h => ?_)
  · obtain ⟨_, _, _, _, _, rfl, _⟩ := h; rfl
  · obtain ⟨a, i, row, k, c, rfl, rfl, hS, hA, hc, q⟩ := h
    refine ⟨_, pss_cons (ps_set (i := 2) sc_take_cell.nd rfl (Or.inl rfl) (pe_c c_byte_at hr (by decide) (by rfl) (pa_cons (pv 0) (pa_cons (pv 1) pa_nil))))
      (pss_cons (ps_if (pt_cmpR op_eq (pv 2) (pe_int) (nomark _)) (pss_one (ps_ret (pe_tup (pa_cons (pe_non) (pa_cons (pe_op op_add (pv 1) (pe_int)) pa_nil))))) (pss_nil))
      (pss_cons (ps_if (pt_cmpR op_eq (pv 2) (pe_int) (nomark _)) (pss_one (ps_ret (pe_c c_take_number hr (by decide) (by rfl) (pa_cons (pv 0) (pa_cons (pe_op op_add (pv 1) (pe_int)) pa_nil))))) (pss_nil))
      (pss_cons (ps_if (pt_cmpR op_eq (pv 2) (pe_int) (nomark _)) (pss_one (ps_ret (pe_c c_take_text hr (by decide) (by rfl) (pa_cons (pv 0) (pa_cons (pe_op op_add (pv 1) (pe_int)) pa_nil))))) (pss_nil))
      (pss_one (ps_never))))), ?_⟩
    cases c with
    | non =>
      refine ⟨_, rfl, _, rfl, a, _, row, k, 0, rfl, rfl, hS, hA.head, ?_⟩
      refine ⟨_, rfl, rfl, _, rfl, ifT (vDT rfl) ?_⟩
      exact ⟨_, rfl, _, _, rfl, rfl, Nat.le_of_ble_eq_true rfl, fun p np => q.go (Ex.r _) np⟩
    | int n =>
      have hn : Sm n := by
        rcases hc with h | h <;> cases h
        rename_i h
        exact h.sm
      refine ⟨_, rfl, _, rfl, a, _, row, k, 1, rfl, rfl, hS, hA.head, ?_⟩
      refine ⟨_, rfl, rfl, _, rfl, ifF (vDF (by decide)) ?_⟩
      refine ⟨_, rfl, rfl, _, rfl, ifT (vDT rfl) ?_⟩
      refine ⟨_, rfl, _, rfl, _, _, rfl, rfl, a, _, row, k + 1, n, rfl, by omega, hS, hA.tail, hn, q.to ?_⟩
      show [V.int n, V.int ((k : Int) + (((nb n).length + 1 : Nat) : Int))] = _
      rw [show (k : Int) + (((nb n).length + 1 : Nat) : Int) = ((k + 1 : Nat) : Int) + ((nb n).length : Int) by omega]
    | str z =>
      have hz : TxtOk z := by
        rcases hc with h | h <;> cases h
        assumption
      refine ⟨_, rfl, _, rfl, a, _, row, k, 2, rfl, rfl, hS, hA.head, ?_⟩
      refine ⟨_, rfl, rfl, _, rfl, ifF (vDF (by decide)) ?_⟩
      refine ⟨_, rfl, rfl, _, rfl, ifF (vDF (by decide)) ?_⟩
      refine ⟨_, rfl, rfl, _, rfl, ifT (vDT rfl) ?_⟩
      refine ⟨_, rfl, _, rfl, _, _, rfl, rfl, a, _, row, k + 1, z, rfl, by omega, hS, hA.tail, hz, q.to ?_⟩
      show [V.str z, V.int ((k : Int) + (((tb z).length + 1 : Nat) : Int))] = _
      rw [show (k : Int) + (((tb z).length + 1 : Nat) : Int) = ((k + 1 : Nat) : Int) + ((tb z).length : Int) by omega]
    | _ => rcases hc with h | h <;> cases h
end
end Pk
set_option Elab.async false
set_option linter.all false
set_option maxRecDepth 100000
set_option maxHeartbeats 4000000
set_option autoImplicit false
namespace Pk
open PySem PySem.Spec PyProof.Rows L2
open C8 (Cal Met Mak pe_c pe_mk pe_mt pe_mt0 pe_gc)
section
variable {P : Program} {w : World} {K : PySem.W.Frag} {mg : Str → Option Value} {base : Heap} {CG CP upA : Addr}
/-! ### bits_for, power_of, byte_count, packed, take_packed -/
def sp_bits_for (K : PySem.W.Frag) : Sp := fun vs H Q _ => ∃ (i : Int) (n : Nat), vs = [.int i] ∧ i = (n : Int) ∧ Q (.int ((bf n : Nat) : Int)) H
def I_bits_for (n : Nat) (H : Hp) (m : Nat) (σ : L2.St) (H' : Hp) : Prop := H' = H ∧ ∃ t : Nat, σ = [some (.int (m : Int)), some (.int (t : Int))] ∧ t + bf m = bf n
theorem ok_bits_for (T : Gf K mg CG CP upA) (D : Dfn K mg "bits_for" s_bits_for)  : Cal P w K mg base 1 "bits_for" (sp_bits_for K) [] := by
  refine cal_mk D sc_bits_for (fun _ _ _ _ _ _ us hl => match us, hl with | [_], _ => rfl) (fun vs H Q E h => ?_) (fun f cdv A outer s H vs Q E hr h => ?_)
  · obtain ⟨_, _, rfl, _⟩ := h; rfl
  · obtain ⟨i, n, rfl, rfl, q⟩ := h
    refine ⟨_, pss_cons (ps_set (i := 1) sc_bits_for.nd rfl (Or.inl rfl) (pe_int))
      (pss_cons (ps_while PassesOwn.never (pt_cmpR op_gt (pv 0) (pe_int) (nomark _))
        (pss_cons (ps_set (i := 0) sc_bits_for.nd rfl (Or.inl rfl) (pe_op op_fdiv (pv 0) (pe_int)))
        (pss_one (ps_aug (i := 1) sc_bits_for.nd rfl (.inl rfl) (pe_int) ip_add))))
      (pss_one (ps_ret (pv 1)))), ?_⟩
    refine ⟨I_bits_for n H, ⟨n, rfl, 0, rfl, Nat.zero_add _⟩, ?_⟩
    rintro m σ H' ⟨rfl, t, rfl, ht⟩
    refine ⟨_, rfl, _, _, rfl, rfl, _, rfl, ifB (fun c => ?_) (fun c => ?_)⟩
    · have c := of_decide_eq_true c
      refine ⟨fun σ' H'' => ∃ m', m' < m ∧ I_bits_for n H' m' σ' H'', fun _ _ h => h, ?_⟩
      refine ⟨_, rfl, _, _, rfl, rfl, ⟨by decide, by decide⟩, ?_⟩
      refine ⟨_, rfl, _, _, rfl, rfl, m / 2, by omega, rfl, t + 1, rfl, ?_⟩
      rw [← ht, bf_pos (n := m) (by omega)]
      omega
    · have c := of_decide_eq_false c
      have hm : m = 0 := by omega
      subst hm
      rw [bf_zero, Nat.add_zero] at ht
      subst ht
      exact ⟨_, rfl, q⟩
def sp_power_of (K : PySem.W.Frag) : Sp := fun vs H Q _ => ∃ (i : Int) (n : Nat), vs = [.int i] ∧ i = (n : Int) ∧ n ≤ 1000 ∧ Q (.int (2 ^ n)) H
theorem ok_power_of (T : Gf K mg CG CP upA) (D : Dfn K mg "power_of" s_power_of)  : Cal P w K mg base 1 "power_of" (sp_power_of K) [] := by
  refine cal_mk D sc_power_of (fun _ _ _ _ _ _ us hl => match us, hl with | [_], _ => rfl) (fun vs H Q E h => ?_) (fun f cdv A outer s H vs Q E hr h => ?_)
  · obtain ⟨_, _, rfl, _⟩ := h; rfl
  · obtain ⟨i, n, rfl, rfl, hn, q⟩ := h
    refine ⟨_, pss_cons (ps_set (i := 1) sc_power_of.nd rfl (Or.inl rfl) (pe_int))
      (pss_cons (ps_for PassesOwn.never rfl (pi_range1 (by rfl) T.range (pa_cons (pv 0) pa_nil)) (pg_name (i := 2) sc_power_of.nd rfl (Or.inl rfl))
        (pss_one (ps_aug (i := 1) sc_power_of.nd rfl (.inl rfl) (pe_int) iop_mul)))
      (pss_one (ps_ret (pv 1)))), ?_⟩
    refine ⟨_, rfl, _, rfl, by omega, by omega, for_range (lo := 0) (n := n) (fun t σ H' => H' = H ∧ ∃ y2, σ = [some (.int (n : Int)), some (.int (2 ^ t)), y2]) ⟨rfl, none, rfl⟩ (fun t σ H' ht hI => ?_) (fun σ H' hI => ?_)⟩
    · obtain ⟨rfl, y2, rfl⟩ := hI
      refine ⟨_, rfl, _, _, rfl, rfl, .inr ⟨by decide, by decide⟩, rfl, some (.int (0 + (t : Int))), ?_⟩
      rw [Int.pow_succ]
      rfl
    · obtain ⟨rfl, y2, rfl⟩ := hI
      exact ⟨_, rfl, q⟩
def sp_byte_count (K : PySem.W.Frag) : Sp := fun vs H Q _ => ∃ (i j : Int) (m n : Nat), vs = [.int i, .int j] ∧ i = (m : Int) ∧ j = (n : Int) ∧ m ≤ 1000 ∧ Q (.int ((bc m n : Nat) : Int)) H
theorem ok_byte_count (T : Gf K mg CG CP upA) (D : Dfn K mg "byte_count" s_byte_count)  : Cal P w K mg base 1 "byte_count" (sp_byte_count K) [] := by
  refine cal_mk D sc_byte_count (fun _ _ _ _ _ _ us hl => match us, hl with | [_, _], _ => rfl) (fun vs H Q E h => ?_) (fun f cdv A outer s H vs Q E hr h => ?_)
  · obtain ⟨_, _, _, _, rfl, _⟩ := h; rfl
  · obtain ⟨i, j, m, n, rfl, rfl, rfl, hm, q⟩ := h
    refine ⟨_, pss_one (ps_ret (pe_op op_fdiv (pe_op op_sub (pe_op op_add (pe_op op_mul (pv 0) (pv 1)) (pe_gc (by rfl) T.bits)) (pe_int)) (pe_gc (by rfl) T.bits))), ?_⟩
    refine ⟨_, rfl, _, rfl, _, _, rfl, rfl, .inl ⟨by omega, by omega⟩, _, _, rfl, rfl, _, _, rfl, rfl, _, _, rfl, rfl, ⟨by decide, by decide⟩, ?_⟩
    refine tt_int (Q := fun v => Q v H) q ?_
    unfold bc
    show _ = ((m : Int) * (n : Int) + 8 - 1) / 8
    have e : ((m * n : Nat) : Int) = (m : Int) * (n : Int) := Int.natCast_mul m n
    omega
end
end Pk
set_option Elab.async false
set_option linter.all false
set_option maxRecDepth 100000
set_option maxHeartbeats 4000000
set_option autoImplicit false
namespace Pk
open PySem PySem.Spec PyProof.Rows L2
open C8 (Cal Met Mak pe_c pe_mk pe_mt pe_mt0 pe_gc)
section
variable {P : Program} {w : World} {K : PySem.W.Frag} {mg : Str → Option Value} {base : Heap} {CG CP upA : Addr}
/-! ### packed -/
theorem pow_w {w : Nat} (h : w ≤ 62) : (1 : Int) ≤ 2 ^ w ∧ (2 : Int) ^ w ≤ 4611686018427387904 := by
  have h1 : (0 : Int) < 2 ^ w := two_pos w
  have h2 : (2 : Nat) ^ w ≤ 2 ^ 62 := Nat.pow_le_pow_right (by decide) h
  have h3 : (2 : Int) ^ w ≤ 2 ^ 62 := by exact_mod_cast h2
  exact ⟨by omega, h3⟩
theorem cdiv_w {i : Int} {w : Nat} (h : w ≤ 62) : CDivW i (2 ^ w) := by
  have h1 := pow_w h
  exact wide_div (b := 63) (by omega) (by omega) (by decide) (by decide)
def sp_packed (K : PySem.W.Frag) : Sp := fun vs H Q _ => ∃ (a : Addr) (i : Int) (ns : List Int) (w : Nat), vs = [.ref a, .int i] ∧ i = (w : Int) ∧ SqL K H a (ns.map V.int) ∧ ns.length ≤ 64 ∧ w ≤ 62 ∧ GL ((pk ns w).map V.int) H Q
theorem pk_drop {w : Nat} {ns : List Int} {i : Nat} (h : i < ns.length) {x : Int} (hx : ns[ns.length - 1 - i]? = some x) : pkVal w (ns.drop (ns.length - (i + 1))) = pkVal w (ns.drop (ns.length - i)) * 2 ^ w + x := by
  obtain ⟨hl, e⟩ := List.getElem?_eq_some_iff.mp hx
  rw [show ns.length - (i + 1) = ns.length - 1 - i by omega, List.drop_eq_getElem_cons hl, e, show ns.length - 1 - i + 1 = ns.length - i by omega]
  rfl
theorem ok_packed (T : Gf K mg CG CP upA) (D : Dfn K mg "packed" s_packed) (c_power_of : Cal P w K mg base 1 "power_of" (sp_power_of K) []) (c_byte_count : Cal P w K mg base 1 "byte_count" (sp_byte_count K) []) : Cal P w K mg base 2 "packed" (sp_packed K) [] := by
  refine cal_mk D sc_packed (fun _ _ _ _ _ _ us hl => match us, hl with | [_, _], _ => rfl) (fun vs H Q E h => ?_) (fun f cdv A outer s H vs Q E hr h => ?_)
  · obtain ⟨_, _, _, _, rfl, _⟩ := h; rfl
  · obtain ⟨a, i, ns, w, rfl, rfl, hS, hn, hw, q⟩ := h
    have hp := pow_w hw
    refine ⟨_, pss_cons (ps_set (i := 2) sc_packed.nd rfl (Or.inl rfl) (pe_c c_power_of hr (by decide) (by rfl) (pa_cons (pv 1) pa_nil)))
      (pss_cons (ps_set (i := 3) sc_packed.nd rfl (Or.inl rfl) (pe_int))
      (pss_cons (ps_for PassesOwn.never rfl (pi_reversed (by rfl) T.reversed (pa_cons (pv 0) pa_nil)) (pg_name (i := 4) sc_packed.nd rfl (Or.inl rfl))
        (pss_one (ps_set (i := 3) sc_packed.nd rfl (Or.inl rfl) (pe_op op_add (pe_op op_mul (pv 3) (pv 2)) (pv 4)))))
      (pss_cons (ps_set (i := 5) sc_packed.nd rfl (Or.inl rfl) (pe_lst (pa_nil)))
      (pss_cons (ps_for PassesOwn.never rfl (pi_range1 (by rfl) T.range (pa_cons (pe_c c_byte_count hr (by decide) (by rfl) (pa_cons (pe_callB call_len_seq (by rfl) T.len (by decide +kernel) (pa_cons (pv 0) pa_nil)) (pa_cons (pv 1) pa_nil))) pa_nil)) (pg_name (i := 6) sc_packed.nd rfl (Or.inl rfl))
        (pss_cons (ps_expr (pe_bm PySem.F.plainAttrs_list PySem.F.slot_list_append PySem.F.type_list_append mt_append (pv 5) (pa_cons (pe_op op_mod (pv 3) (pe_gc (by rfl) T.byte)) pa_nil)))
        (pss_one (ps_set (i := 3) sc_packed.nd rfl (Or.inl rfl) (pe_op op_fdiv (pv 3) (pe_gc (by rfl) T.byte))))))
      (pss_one (ps_ret (pv 5))))))), ?_⟩
    refine ⟨_, rfl, _, w, rfl, rfl, by omega, ?_⟩
    refine ⟨_, rfl, a, _, rfl, hS, ?_⟩
    refine for_it walk_rev (fun i σ' H' => H' = H ∧ ∃ y4, σ' = [some (.ref a), some (.int (w : Int)), some (.int (2 ^ w)), some (.int (pkVal w (ns.drop (ns.length - i)))), y4, none, none]) ⟨rfl, none, ?_⟩ (fun i σ' H' _ hI => ?_) (fun i x σ' H' H2 hi hI hy => ?_) (fun σ' H' hI => ?_)
    · rw [Nat.sub_zero, List.drop_length]
      rfl
    · rw [hI.1]
      exact hS
    · obtain ⟨rfl, y4, rfl⟩ := hI
      obtain ⟨rfl, hx⟩ := hy
      rw [List.length_map] at hi hx
      rw [List.getElem?_map] at hx
      cases e : ns[ns.length - 1 - i]? with
      | none =>
        rw [e] at hx
        cases hx
      | some n =>
        rw [e] at hx
        have ex : x = V.int n := (Option.some.inj hx).symm
        subst ex
        refine ⟨_, rfl, _, rfl, _, _, rfl, rfl, .inr ⟨by omega, by omega⟩, _, rfl, _, _, rfl, rfl, rfl, some (.int n), ?_⟩
        rw [pk_drop hi e]
        rfl
    · obtain ⟨rfl, y4, rfl⟩ := hI
      rw [List.length_map, Nat.sub_self, List.drop_zero]
      refine ⟨Nat.zero_le _, fun p np => ?_⟩
      have hbc : bc ns.length w ≤ 497 := by
        unfold bc
        have := Nat.mul_le_mul hn hw
        omega
      refine ⟨_, rfl, _, _, rfl, .inl (exL hS (Ex.n np)), _, rfl, _, _, ns.length, w, rfl, by rw [List.length_map], rfl, by omega, ?_⟩
      refine ⟨_, rfl, by omega, by omega, for_range (lo := 0) (n := bc ns.length w) (fun t σ' H2 => Ex H' H2 ∧ H2 p = some (.lst ((dg t (pkVal w ns)).map V.int)) ∧ ∃ y6, σ' = [some (.ref a), some (.int (w : Int)), some (.int (2 ^ w)), some (.int (pkVal w ns / 256 ^ t)), y4, some (.ref p), y6])
        ⟨Ex.n np, upd_same, none, ?_⟩ (fun t σ' H2 ht hI => ?_) (fun σ' H2 hI => ?_)⟩
      · rw [Int.pow_zero, Int.ediv_one]
        rfl
      · obtain ⟨e2, hd, y6, rfl⟩ := hI
        refine ⟨_, rfl, .inl ⟨rfl, _, .inl (.inl hd)⟩, _, rfl, _, _, rfl, rfl, (show (0 : Int) < 256 by decide), _, _, _, rfl, rfl, hd, smlt (by rw [List.length_map, dg_len]; omega), ?_⟩
        refine ⟨_, rfl, _, _, rfl, rfl, ⟨by decide, by decide⟩, e2.mut np, ?_, some (.int (0 + (t : Int))), ?_⟩
        · rw [upd_same, dg_succ, List.map_append (f := V.int)]
          rfl
        · rw [Int.pow_succ, ← Int.ediv_ediv_of_nonneg (Int.le_of_lt (Int.pow_pos (by decide)))]
          rfl
      · obtain ⟨e2, hd, y6, rfl⟩ := hI
        exact ⟨_, rfl, q p H2 np e2 hd⟩
end
end Pk
set_option Elab.async false
set_option linter.all false
set_option maxRecDepth 100000
set_option maxHeartbeats 4000000
set_option autoImplicit false
namespace Pk
open PySem PySem.Spec PyProof.Rows L2
open C8 (Cal Met Mak pe_c pe_mk pe_mt pe_mt0 pe_gc)
section
variable {P : Program} {w : World} {K : PySem.W.Frag} {mg : Str → Option Value} {base : Heap} {CG CP upA : Addr}
/-! ### take_packed -/
/-- a pair of a list of these and a number -/
def GTL (xs : List V) (j : Int) (H : Hp) (Q : VK) : Prop := ∀ p l H2, H l = none → Ex H H2 → H2 l = some (.lst xs) → H2 p = some (.tup [.ref l, .int j]) → Q (.ref p) H2
theorem GTL.go {xs : List V} {i j : Int} {H H1 : Hp} {Q : VK} (k : GTL xs i H Q) {l : Addr} (nl : H l = none) (e : Ex H H1) (hl : H1 l = some (.lst xs)) {p : Addr} (hp : H1 p = none) (h : i = j) : Q (.ref p) (upd H1 p (.tup [.ref l, .int j])) := by
  rw [← h]
  exact k p l _ nl (e.trans (Ex.n hp)) (by rw [upd_ne (ne_of_none hl hp)]; exact hl) upd_same
theorem cut_at {row : List Int} {k : Nat} {bs : List Int} (h : At row k bs) {i j : Int} (hi : i = (k : Int)) (hj : j = ((k + bs.length : Nat) : Int)) : cutV (row.map V.int) (some i) (some j) = bs.map V.int := by
  have hle := h.le
  rw [hi, hj]
  unfold cutV
  rw [HT.sIx_nat, HT.sIx_nat, List.length_map, Nat.min_eq_left (show k ≤ row.length by omega), Nat.min_eq_left hle, ← List.map_drop, ← List.map_take, show k + bs.length - k = bs.length by omega, h.cut]
theorem undg_drop {ns : List Int} {i : Nat} (h : i < ns.length) {x : Int} (hx : ns[ns.length - 1 - i]? = some x) : undg (ns.drop (ns.length - (i + 1))) = undg (ns.drop (ns.length - i)) * 256 + x := by
  obtain ⟨hl, e⟩ := List.getElem?_eq_some_iff.mp hx
  rw [show ns.length - (i + 1) = ns.length - 1 - i by omega, List.drop_eq_getElem_cons hl, e, show ns.length - 1 - i + 1 = ns.length - i by omega]
  rfl
def sp_take_packed (K : PySem.W.Frag) : Sp := fun vs H Q _ => ∃ (a : Addr) (i j m : Int) (row : List Int) (k : Nat) (ns : List Int) (w : Nat), vs = [.ref a, .int i, .int j, .int m] ∧ i = (k : Int) ∧ j = (ns.length : Int) ∧ m = (w : Int) ∧
  SqL K H a (row.map V.int) ∧ At row k (pk ns w) ∧ InW w ns ∧ ns.length ≤ 64 ∧ w ≤ 62 ∧ GTL (ns.map V.int) ((k : Int) + ((pk ns w).length : Int)) H Q
theorem getM {l : List Int} {i : Nat} {x : V} (h : (l.map V.int)[i]? = some x) : ∃ n, l[i]? = some n ∧ x = V.int n := by
  rw [List.getElem?_map] at h
  cases e : l[i]? with
  | none => rw [e] at h; cases h
  | some n => rw [e] at h; exact ⟨n, rfl, (Option.some.inj h).symm⟩
theorem ok_take_packed (T : Gf K mg CG CP upA) (D : Dfn K mg "take_packed" s_take_packed) (c_power_of : Cal P w K mg base 1 "power_of" (sp_power_of K) []) (c_byte_count : Cal P w K mg base 1 "byte_count" (sp_byte_count K) []) : Cal P w K mg base 2 "take_packed" (sp_take_packed K) [] := by
  refine cal_mk D sc_take_packed (fun _ _ _ _ _ _ us hl => match us, hl with | [_, _, _, _], _ => rfl) (fun vs H Q E h => ?_) (fun f cdv A outer s H vs Q E hr h => ?_)
  · obtain ⟨_, _, _, _, _, _, _, _, rfl, _⟩ := h; rfl
  · obtain ⟨a, i, j, m, row, k, ns, w, rfl, rfl, rfl, rfl, hS, hA, hW, hn, hw, q⟩ := h
    have hp := pow_w hw
    have hle := hA.le
    have hpl := pk_len ns w
    refine ⟨_, pss_cons (ps_set (i := 4) sc_take_packed.nd rfl (Or.inl rfl) (pe_op op_add (pv 1) (pe_c c_byte_count hr (by decide) (by rfl) (pa_cons (pv 2) (pa_cons (pv 3) pa_nil)))))
      (pss_cons (ps_if (pt_cmpR op_gt (pv 4) (pe_callB call_len_seq (by rfl) T.len (by decide +kernel) (pa_cons (pv 0) pa_nil)) (nomark _)) (pss_never) (pss_nil))
      (pss_cons (ps_set (i := 5) sc_take_packed.nd rfl (Or.inl rfl) (pe_int))
      (pss_cons (ps_for PassesOwn.never rfl (pi_reversed (by rfl) T.reversed (pa_cons (pe_slice sl_list (pv 0) (po_some (pv 1)) (po_some (pv 4))) pa_nil)) (pg_name (i := 6) sc_take_packed.nd rfl (Or.inl rfl))
        (pss_one (ps_set (i := 5) sc_take_packed.nd rfl (Or.inl rfl) (pe_op op_add (pe_op op_mul (pv 5) (pe_gc (by rfl) T.byte)) (pv 6)))))
      (pss_cons (ps_set (i := 7) sc_take_packed.nd rfl (Or.inl rfl) (pe_c c_power_of hr (by decide) (by rfl) (pa_cons (pv 3) pa_nil)))
      (pss_cons (ps_set (i := 8) sc_take_packed.nd rfl (Or.inl rfl) (pe_lst (pa_nil)))
      (pss_cons (ps_for PassesOwn.never rfl (pi_range1 (by rfl) T.range (pa_cons (pv 2) pa_nil)) (pg_name (i := 9) sc_take_packed.nd rfl (Or.inl rfl))
        (pss_cons (ps_expr (pe_bm PySem.F.plainAttrs_list PySem.F.slot_list_append PySem.F.type_list_append mt_append (pv 8) (pa_cons (pe_op op_mod (pv 5) (pv 7)) pa_nil)))
        (pss_one (ps_set (i := 5) sc_take_packed.nd rfl (Or.inl rfl) (pe_op op_fdivW (pv 5) (pv 7))))))
      (pss_cons (ps_if (pt_cmpR op_ne (pv 5) (pe_int) (nomark _)) (pss_never) (pss_nil))
      (pss_one (ps_ret (pe_tup (pa_cons (pv 8) (pa_cons (pv 4) pa_nil)))))))))))), ?_⟩
    refine ⟨_, rfl, _, rfl, _, rfl, _, _, ns.length, w, rfl, rfl, rfl, by omega, _, _, rfl, rfl, ?_⟩
    refine ⟨_, rfl, _, rfl, _, _, rfl, .inl hS, _, _, rfl, rfl, _, rfl, ifF (dF (by rw [List.length_map]; omega)) ?_⟩
    refine ⟨_, rfl, _, rfl, _, rfl, _, rfl, _, rfl, _, _, rfl, hS, fun c nc => ?_⟩
    rw [cut_at hA rfl (by omega)]
    refine ⟨c, _, rfl, lsOf upd_same, ?_⟩
    refine for_it walk_rev (fun i σ' H' => H' = upd H c (.lst ((pk ns w).map V.int)) ∧ ∃ y6, σ' = [some (.ref a), some (.int (k : Int)), some (.int (ns.length : Int)), some (.int (w : Int)), some (.int ((k : Int) + ((bc ns.length w : Nat) : Int))), some (.int (undg ((pk ns w).drop ((pk ns w).length - i)))), y6, none, none, none]) ⟨rfl, none, ?_⟩ (fun i σ' H' _ hI => ?_) (fun i x σ' H' H2 hi hI hy => ?_) (fun σ' H' hI => ?_)
    · rw [Nat.sub_zero, List.drop_length]
      rfl
    · rw [hI.1]
      exact lsOf upd_same
    · obtain ⟨rfl, y6, rfl⟩ := hI
      obtain ⟨rfl, hx⟩ := hy
      rw [List.length_map] at hi hx
      obtain ⟨n, e, rfl⟩ := getM hx
      refine ⟨_, rfl, _, _, rfl, rfl, .inr ⟨by decide, by decide⟩, _, rfl, _, _, rfl, rfl, rfl, some (.int n), ?_⟩
      rw [undg_drop hi e]
      rfl
    · obtain ⟨rfl, y6, rfl⟩ := hI
      rw [List.length_map, Nat.sub_self, List.drop_zero, undg_pk hW]
      refine ⟨_, rfl, _, w, rfl, rfl, by omega, ?_⟩
      refine ⟨Nat.zero_le _, fun p np => ?_⟩
      have e1 : Ex H (upd (upd H c (.lst ((pk ns w).map V.int))) p (.lst [])) := (Ex.n nc).trans (Ex.n np)
      have npH : H p = none := Evl.fresh_back (Ex.n nc) np
      refine ⟨_, rfl, _, rfl, by omega, by omega, for_range (lo := 0) (n := ns.length) (fun t σ' H2 => Ex H H2 ∧ H2 p = some (.lst ((ns.take t).map V.int)) ∧ ∃ y9, σ' = [some (.ref a), some (.int (k : Int)), some (.int (ns.length : Int)), some (.int (w : Int)), some (.int ((k : Int) + ((bc ns.length w : Nat) : Int))), some (.int (pkVal w (ns.drop t))), y6, some (.int (2 ^ w)), some (.ref p), y9])
        ⟨e1, upd_same, none, rfl⟩ (fun t σ' H2 ht hI => ?_) (fun σ' H2 hI => ?_)⟩
      · obtain ⟨e2, hd, y9, rfl⟩ := hI
        have hcons := List.drop_eq_getElem_cons ht
        have hx := hW ns[t] (List.getElem_mem ht)
        refine ⟨_, rfl, .inl ⟨rfl, _, .inl (.inl hd)⟩, _, rfl, _, rfl, _, _, rfl, rfl, (show (0 : Int) < 2 ^ w from two_pos w), _, _, _, rfl, rfl, hd, smlt (by rw [List.length_map, List.length_take]; omega), ?_⟩
        refine ⟨_, rfl, _, rfl, _, _, rfl, rfl, cdiv_w hw, e2.mut npH, ?_, some (.int (0 + (t : Int))), ?_⟩
        · rw [upd_same, hcons]
          show some (HO.lst (List.map V.int (List.take t ns) ++ [V.int (pkVal w (ns[t] :: List.drop (t + 1) ns) % 2 ^ w)])) = _
          rw [pkVal_mod hx, List.take_add_one, List.getElem?_eq_getElem ht, List.map_append (f := V.int)]
          rfl
        · rw [hcons]
          show [_, _, _, _, _, some (V.int (pkVal w (ns[t] :: List.drop (t + 1) ns) / 2 ^ w)), _, _, _, _] = _
          rw [pkVal_div hx]
      · obtain ⟨e2, hd, y9, rfl⟩ := hI
        rw [List.take_length] at hd
        rw [List.drop_length]
        refine ⟨_, rfl, rfl, _, rfl, ifF (by rw [vDT (show pkVal w [] = 0 from rfl)]; rfl) ?_⟩
        refine ⟨_, rfl, _, rfl, Nat.le_of_ble_eq_true rfl, fun p3 np3 => q.go npH e2 hd np3 (by rw [hpl])⟩
end
end Pk
set_option Elab.async false
set_option linter.all false
set_option maxRecDepth 100000
set_option maxHeartbeats 4000000
set_option autoImplicit false
namespace Pk
open PySem PySem.Spec PyProof.Rows L2
/-! ### dicts whose keys are None, ints, texts -/
abbrev NKey := Option Key
def nV : NKey → V
  | none => .non
  | some k => kV k
def DN (P : Program) (w : World) (a : Addr) (kvs : List (NKey × V)) : HO :=
  .ext fun h => kvs.length ≤ sizeLine ∧ (a == sysModules) = false ∧ ∃ vs, KV kvs vs ∧ h.DictOf (noneKind P w) a vs
theorem nV_is {P : Program} {w : World} {k : NKey} {u : Value} (r : RelV (nV k) u) : (noneKind P w).is k u = true := by
  cases k with
  | none =>
    obtain rfl : u = Value.none := r
    rfl
  | some k => exact kV_is (P := P) (w := w) r
section
variable {X : Cx} {pins : List (Addr × Obj)} {σ : L2.St} {H : Hp} {s : Shared} {a : Addr} {kvs : List (NKey × V)}
theorem dn_at (I : Inv X pins σ H s) (e : H a = some (DN X.prog X.w a kvs)) : kvs.length ≤ sizeLine ∧ (a == sysModules) = false ∧ ∃ vs, KV kvs vs ∧ s.heap.DictOf (noneKind X.prog X.w) a vs :=
  (show ObjOk X.prog X.w H s.heap a (DN X.prog X.w a kvs) from I.hok a _ e).1
theorem dn_obj {P : Program} {w : World} {H : Hp} {h : Heap} {vs : List (NKey × Value)} (z : kvs.length ≤ sizeLine) (hd : (a == sysModules) = false) (rel : KV kvs vs) (dd : h.DictOf (noneKind P w) a vs) : ObjOk P w H h a (DN P w a kvs) := by
  refine ⟨⟨z, hd, vs, rel, dd⟩, ?_, fun h1 h2 p k => ?_⟩
  · obtain ⟨o, _, _, ho, _⟩ := dd
    exact ⟨o, ho⟩
  · obtain ⟨z1, d1, vs1, r1, o, es, ep, ho, rest⟩ := p
    exact ⟨z1, d1, vs1, r1, o, es, ep, k o ho, rest⟩
def tNewN (P : Program) (w : World) : TE := fun _ H Q => ∀ p, H p = none → Q (.ref p) (upd H p (DN P w p []))
theorem pe_dnewN {pos : Pos} : PE X (.Dict [] [] pos) (tNewN X.prog X.w) := by
  refine ⟨fun pins s σ H Q I h => wpAny_Dict_empty ?_⟩
  have hb := I.big
  have new : ObjOk X.prog X.w (upd H s.heap.objs.size (DN X.prog X.w s.heap.objs.size [])) (s.heap.push { cls := .type "dict", data := .dict #[] }) s.heap.objs.size (DN X.prog X.w s.heap.objs.size []) :=
    dn_obj (Nat.zero_le _) (beq_eq_false_iff_ne.mpr fun z => by rw [z] at hb; exact Nat.lt_irrefl _ hb) .nil (Heap.DictOf.new s.heap)
  exact ⟨.ref s.heap.objs.size, _, I.laid (t' := s.toks) (fun _ _ q => Heap.get?_push_of_some _ q) (Nat.le_refl _) new, rfl, h _ (I.hok.fresh (Nat.le_refl _))⟩
variable {o i e value : Expr} {pos pos' tpos : Pos} {td ty tv : TE}
/-- d[y], there -/
def tNGet (P : Program) (w : World) (td ty : TE) : TE := fun σ H Q => td σ H fun x H1 => ty σ H1 fun y H2 => ∃ (a : Addr) (kvs : List (NKey × V)) (k : NKey) (v : V), x = .ref a ∧ y = nV k ∧ H2 a = some (DN P w a kvs) ∧ valV kvs k = some v ∧ Q v H2
theorem pe_nget (ho : PE X o td) (hi : PE X i ty) (hs : NoSl i) : PE X (.Subscript o i pos) (tNGet X.prog X.w td ty) := by
  refine ⟨fun pins s σ H Q I h => ?_⟩
  refine subD_of PySem.F.slot_dict_getitem.lookup hs (thn (ho.run pins s σ H _ I h) fun u s1 ⟨x, H1, I1, rx, q1⟩ => thn (hi.run pins s1 σ H1 _ I1 q1) fun iv s2 ⟨y, H2, I2, ry, a, kvs, k, v, ex, ey, g, l, q2⟩ => ?_)
  subst ex ey
  obtain rfl : u = Value.ref a := rx
  obtain ⟨z, hd, vs, rel, dd⟩ := dn_at I2 g
  obtain ⟨w', hw, rw'⟩ := RelO.some_of (v := v) (o := valueAt vs k) (by rw [← l]; exact rel.val k)
  exact ⟨dd.typeIs, wpAny_getItem_of (nV_is ry) dd.mapOf hw ⟨v, H2, I2.tok _, rw', q2⟩⟩
/-- d[y] = v -/
def sNPut (P : Program) (w : World) (td ty tv : TE) : TS := fun D σ H => tv σ H fun v H1 => td σ H1 fun x H2 => ty σ H2 fun y H3 => ∃ (a : Addr) (kvs : List (NKey × V)) (k : NKey), x = .ref a ∧ y = nV k ∧ H3 a = some (DN P w a kvs) ∧ kvs.length < sizeLine ∧ D.nx σ (upd H3 a (DN P w a (putK kvs k v)))
theorem ps_nput (ho : PE X o td) (hi : PE X i ty) (hv : PE X value tv) (hs : swapsWith value (some (.Subscript o i pos')) pos.line X.env = pure false) : PS X (.Assign [.Subscript o i pos'] value pos) (sNPut X.prog X.w td ty tv) := by
  refine ⟨fun pins s σ H D I h => ?_⟩
  refine wpAny_Assign_Subscript (thn (hv.run pins s σ H _ I h) fun r s1 ⟨v, H1, I1, rv, q1⟩ => thn (ho.run pins s1 σ H1 _ I1 q1) fun u s2 ⟨x, H2, I2, rx, q2⟩ => thn (hi.run pins s2 σ H2 _ I2 q2) fun iv s3 ⟨y, H3, I3, ry, a, kvs, k, ex, ey, g, l, q3⟩ => ?_) hs
  subst ex ey
  obtain rfl : u = Value.ref a := rx
  obtain ⟨z, hd, vs, rel, dd⟩ := dn_at I3 g
  have hz : vs.length ≤ sizeLine := by rw [← rel.length]; exact z
  have hl : (putK kvs k v).length ≤ sizeLine := Nat.le_trans (length_putK kvs k v) l
  refine wpAny_setItem_pairs (hsz := hz) (nV_is ry) dd fun h' dd' hsb => ?_
  have he : ∃ q, h'.get? a = some q := by
    obtain ⟨q, _, _, hq, _⟩ := dd'
    exact ⟨q, hq⟩
  have mu : Mut (H3 a) := by rw [g]; exact True.intro
  exact ⟨σ, _, d_write I3 mu hsb he (dn_obj hl hd (rel.put k rv) dd'), q3⟩
theorem nkIs_rel {k : NKey} {v : Value} (h : nkIs k v = true) : RelV (nV k) v := by
  cases k with
  | none => exact nk_none h
  | some k => exact keyIs_rel h
/-- list(d) -/
def rListN (P : Program) (w : World) : List V → Hp → VK → Prop := fun xs H Q => ∃ (p : Addr) (kvs : List (NKey × V)), xs = [.ref p] ∧ H p = some (DN P w p kvs) ∧ ∀ q, H q = none → Q (.ref q) (upd H q (.lst (kvs.map fun kv => nV kv.1)))
theorem call_listN (hc : X.calm = true) : CallR X (.type "list") (rListN X.prog X.w) := by
  intro pins s σ H xs us Q I r h
  obtain ⟨p, kvs, rfl, hk, q⟩ := h
  obtain ⟨u, rfl, rx⟩ := vals1 r
  obtain rfl : u = Value.ref p := rx
  obtain ⟨z, lo, vs, rk, hd⟩ := dn_at I hk
  obtain ⟨ep, hat⟩ := hd.dictAt
  have hl : kvs.length = vs.length := rk.length
  refine PySem.W.kdl_call (PySem.W.kdl_dict (knd := noneKind X.prog X.w) (kvs := vs) (ep := ep) lo) (I.ok.hd hc) hat (hl ▸ z) fun h' tk acc' c' keep hS hacc => ?_
  have hn := I.hok.fresh (Nat.le_refl s.heap.objs.size)
  have ev : Vals (kvs.map fun kv => nV kv.1) acc'.toList := by
    refine vals_of_at (by rw [List.length_map, hl, ← hacc.1, Array.length_toList]) fun j x u h1 h2 => ?_
    rw [Array.getElem?_toList] at h2
    obtain ⟨k, y, hky, hi⟩ := hacc.2 j u h2
    have e1 : (kvs.map (·.1))[j]? = some k := by
      rw [rk.keys, List.getElem?_map, hky] <;> rfl
    have e2 : (kvs.map fun kv => nV kv.1) = (kvs.map (·.1)).map nV := by rw [List.map_map] <;> rfl
    rw [e2, List.getElem?_map, e1] at h1
    rw [← Option.some.inj h1]
    exact nkIs_rel hi
  have new : ObjOk X.prog X.w (upd H s.heap.objs.size (.lst (kvs.map fun kv => nV kv.1))) h' s.heap.objs.size (.lst (kvs.map fun kv => nV kv.1)) :=
    ⟨by rw [List.length_map]; exact z, acc'.toList, c', ev, by rw [Array.toArray_toList]; exact hS⟩
  exact ⟨.ref s.heap.objs.size, _, I.laid keep (Nat.le_refl _) new, rfl, q _ hn⟩
end
/-! ### cells in order -/
/-- two numbers, two texts -/
def cmpb : V → V → Bool
  | .int _, .int _ => true
  | .str _, .str _ => true
  | _, _ => false
def vlt : V → V → Bool
  | .int a, .int b => decide (a < b)
  | .str a, .str b => decide (a.cps.toList < b.cps.toList)
  | _, _ => false
def rC (f : V → V → Bool) : R2 := fun x y H Q => cmpb x y = true ∧ Q (.bl (f x y)) H
theorem cmpb_cases {x y : V} (h : cmpb x y = true) : (∃ i j, x = .int i ∧ y = .int j) ∨ ∃ a b, x = .str a ∧ y = .str b := by
  cases x <;> cases y <;> first | exact .inl ⟨_, _, rfl, rfl⟩ | exact .inr ⟨_, _, rfl, rfl⟩ | cases h
section
variable {X : Cx}
theorem op_ltC : OpR X (compareOp .Lt) (rC vlt) := by
  intro pins s σ H x y v u Q I rx ry h
  obtain ⟨c, q⟩ := h
  rcases cmpb_cases c with ⟨i, j, rfl, rfl⟩ | ⟨i, j, rfl, rfl⟩
  · exact op_lt pins s σ H _ _ v u Q I rx ry ⟨_, _, rfl, rfl, q⟩
  · exact op_lt_str pins s σ H _ _ v u Q I rx ry ⟨_, _, rfl, rfl, q⟩
theorem op_gtC : OpR X (compareOp .Gt) (rC fun x y => vlt y x) := by
  intro pins s σ H x y v u Q I rx ry h
  obtain ⟨c, q⟩ := h
  rcases cmpb_cases c with ⟨i, j, rfl, rfl⟩ | ⟨i, j, rfl, rfl⟩
  · exact op_gt pins s σ H _ _ v u Q I rx ry ⟨_, _, rfl, rfl, q⟩
  · exact op_gt_str pins s σ H _ _ v u Q I rx ry ⟨_, _, rfl, rfl, q⟩
theorem op_leC : OpR X (compareOp .LtE) (rC fun x y => !vlt y x) := by
  intro pins s σ H x y v u Q I rx ry h
  obtain ⟨c, q⟩ := h
  rcases cmpb_cases c with ⟨i, j, rfl, rfl⟩ | ⟨i, j, rfl, rfl⟩
  · refine op_le pins s σ H _ _ v u Q I rx ry ⟨_, _, rfl, rfl, ?_⟩
    have e : (!decide (j < i)) = decide (i ≤ j) := by
      by_cases z : i ≤ j
      · rw [decide_eq_true z, decide_eq_false (by omega)]; rfl
      · rw [decide_eq_false z, decide_eq_true (by omega)]; rfl
    show Q (.bl (decide (i ≤ j))) H
    rw [← e]
    exact q
  · exact op_le_str pins s σ H _ _ v u Q I rx ry ⟨_, _, rfl, rfl, q⟩
theorem op_geC : OpR X (compareOp .GtE) (rC fun x y => !vlt x y) := by
  intro pins s σ H x y v u Q I rx ry h
  obtain ⟨c, q⟩ := h
  rcases cmpb_cases c with ⟨i, j, rfl, rfl⟩ | ⟨i, j, rfl, rfl⟩
  · refine op_ge pins s σ H _ _ v u Q I rx ry ⟨_, _, rfl, rfl, ?_⟩
    have e : (!decide (i < j)) = decide (j ≤ i) := by
      by_cases z : j ≤ i
      · rw [decide_eq_true z, decide_eq_false (by omega)]; rfl
      · rw [decide_eq_false z, decide_eq_true (by omega)]; rfl
    show Q (.bl (decide (j ≤ i))) H
    rw [← e]
    exact q
  · exact op_ge_str pins s σ H _ _ v u Q I rx ry ⟨_, _, rfl, rfl, q⟩
end
/-- tuple(list), as a reading with a name -/
def rTupS (K : PySem.W.Frag) : List V → Hp → VK → Prop := fun xs H Q => ∃ p ys, xs = [.ref p] ∧ ((SqL K H p ys ∧ ∀ l, H l = none → Q (.ref l) (upd H l (.tup ys))) ∨ (SqT K H p ys ∧ Q (.ref p) H))
end Pk
set_option Elab.async false
set_option linter.all false
set_option maxRecDepth 100000
set_option maxHeartbeats 4000000
set_option autoImplicit false
namespace Pk
open PySem PySem.Spec PyProof.Rows L2
open C8 (Cal Met Mak pe_c pe_mk pe_mt pe_mt0 pe_gc)
section
variable {P : Program} {w : World} {K : PySem.W.Frag} {mg : Str → Option Value} {base : Heap} {CG CP upA : Addr}
/-! ### kinds of cells -/
theorem iT {α : Sort _} {c : Bool} {a b : α} (h : c = true) : (if c = true then a else b) = a := if_pos h
theorem iF {α : Sort _} {c : Bool} {a b : α} (h : c = false) : (if c = true then a else b) = b := if_neg (by rw [h]; exact Bool.false_ne_true)
def isI : V → Bool
  | .int _ => true
  | _ => false
def sp_is_number (K : PySem.W.Frag) : Sp := fun vs H Q _ => ∃ c : V, vs = [c] ∧ CellOk c ∧ Q (.bl (isI c)) H
theorem k_i_i : PySem.W.kitOne K (.type "int") (.type "int") = some true := kit_ty (by decide +kernel)
theorem k_s_i : PySem.W.kitOne K (.type "str") (.type "int") = some false := kit_ty (by decide +kernel)
theorem k_n_i : PySem.W.kitOne K (.type "NoneType") (.type "int") = some false := kit_ty (by decide +kernel)
theorem k_i_b : PySem.W.kitOne K (.type "int") (.type "bool") = some false := kit_ty (by decide +kernel)
theorem CellOk.cases {c : V} (h : CellOk c) : c = .non ∨ (∃ i, c = .int i ∧ NumOk i) ∨ ∃ z, c = .str z ∧ TxtOk z := by
  rcases h with h | h
  · cases h with
    | non => exact .inl rfl
    | int h => exact .inr (.inl ⟨_, rfl, h⟩)
  · cases h with
    | non => exact .inl rfl
    | str h => exact .inr (.inr ⟨_, rfl, h⟩)
theorem ok_is_number (T : Gf K mg CG CP upA) (D : Dfn K mg "is_number" s_is_number)  : Cal P w K mg base 1 "is_number" (sp_is_number K) [] := by
  refine cal_mk D sc_is_number (fun _ _ _ _ _ _ us hl => match us, hl with | [_], _ => rfl) (fun vs H Q E h => ?_) (fun f cdv A outer s H vs Q E hr h => ?_)
  · obtain ⟨_, rfl, _⟩ := h; rfl
  · obtain ⟨c, rfl, hc, q⟩ := h
    refine ⟨_, pss_one (ps_ret (pe_and (pe_callB call_isi (by rfl) T.isinstance (by decide +kernel) (pa_cons (pv 0) (pa_cons (pe_bltn (v := .ty "int") (u := Value.type "int") (by rfl) T.int (by decide +kernel) rfl) pa_nil))) (pe_one (pe_not (pe_callB call_isi (by rfl) T.isinstance (by decide +kernel) (pa_cons (pv 0) (pa_cons (pe_bltn (v := .ty "bool") (u := Value.type "bool") (by rfl) T.bool (by decide +kernel) rfl) pa_nil))))))), ?_⟩
    rcases hc.cases with rfl | ⟨i, rfl, hi⟩ | ⟨z, rfl, hz⟩
    · exact ⟨_, rfl, _, _, .type "NoneType", _, false, rfl, .ty _, .base .non, k_n_i, _, rfl, q⟩
    · exact ⟨_, rfl, _, _, .type "int", _, true, rfl, .ty _, .base (.int _), k_i_i, _, rfl, _, rfl, _, _, .type "int", _, false, rfl, .ty _, .base (.int _), k_i_b, _, rfl, q⟩
    · exact ⟨_, rfl, _, _, .type "str", _, false, rfl, .ty _, .base (.str _), k_s_i, _, rfl, q⟩
def isT : V → Bool
  | .str _ => true
  | _ => false
def sp_is_text_cell (K : PySem.W.Frag) : Sp := fun vs H Q _ => ∃ c : V, vs = [c] ∧ CellOk c ∧ c ≠ .non ∧ GV (.bl (isT c)) H Q
theorem ok_is_text_cell (T : Gf K mg CG CP upA) (D : Dfn K mg "is_text_cell" s_is_text_cell)  : Cal P w K mg base 1 "is_text_cell" (sp_is_text_cell K) [] := by
  refine cal_mk D sc_is_text_cell (fun _ _ _ _ _ _ us hl => match us, hl with | [_], _ => rfl) (fun vs H Q E h => ?_) (fun f cdv A outer s H vs Q E hr h => ?_)
  · obtain ⟨_, rfl, _⟩ := h; rfl
  · obtain ⟨c, rfl, hc, nn, q⟩ := h
    refine ⟨_, pss_one (ps_ret (pe_and (pe_callB call_isi (by rfl) T.isinstance (by decide +kernel) (pa_cons (pv 0) (pa_cons (pe_bltn (v := .ty "str") (u := Value.type "str") (by rfl) T.str (by decide +kernel) rfl) pa_nil))) (pe_and (pe_cmpR op_le (pe_callB call_len_str (by rfl) T.len (by decide +kernel) (pa_cons (pv 0) pa_nil)) (pe_gc (by rfl) T.most_signs) (nomark _)) (pe_one (pe_callB (cr_all rfl) (by rfl) T.all (by decide +kernel) (pa_cons (pe_lc (own := [("sign", 1)]) (g := gName 1) (tt := tYes) (by rfl) sc_is_text_cell.nd (pi_str (pv 0)) (blkOk_by (N := N_is_text_cell) (sc := defScope s_is_text_cell) (by decide +kernel)) (fun _ _ _ _ _ => pg_name (i := 1) sc_is_text_cell.nd rfl (Or.inl rfl)) (fun _ _ _ _ _ => pts_nil) (fun _ _ _ _ _ => pe_cmpR op_in_sign (pv 1) (pe_gc (by rfl) T.signs) rfl)) pa_nil)))))), ?_⟩
    rcases hc.cases with rfl | ⟨i, rfl, hi⟩ | ⟨z, rfl, hz⟩
    · exact absurd rfl nn
    · exact ⟨_, rfl, _, _, .type "int", _, false, rfl, .ty _, .base (.int _), k_i_s, _, rfl, q.go (Ex.r H)⟩
    · have h20 := hz.1
      refine ⟨_, rfl, _, _, .type "str", _, true, rfl, .ty _, .base (.str _), k_s_s, _, rfl, ?_⟩
      refine ⟨_, rfl, _, rfl, sml (by omega), _, _, rfl, rfl, _, rfl, ?_⟩
      rw [dT (by omega)]
      refine ⟨_, rfl, _, rfl, fun d nd => ?_⟩
      refine lc_it walk_str (fun i H' => Ex H H' ∧ H' d = some (.lst ((List.replicate i true).map V.bl))) ⟨Ex.n nd, upd_same⟩ (fun _ _ _ _ => trivial) (fun i x H' H2 hi hI hy => ?_) (fun H' hI => ?_)
      · obtain ⟨e2, hd⟩ := hI
        obtain ⟨rfl, c, hc, rfl⟩ := hy
        have hc' : z.cps.toList[i]? = some c := by rw [Array.getElem?_toList]; exact hc
        have hm := hz.2 c (List.mem_of_getElem? hc')
        have hlt : i < z.length := hi
        refine ⟨rfl, ?_⟩
        refine ⟨_, rfl, _, _, rfl, rfl, ?_⟩
        refine ⟨_, hd, smlt (by rw [List.length_map, List.length_replicate]; omega), e2.mut nd, ?_⟩
        rw [upd_same, List.replicate_succ', List.map_append (f := V.bl), dT (show c ∈ signsS.cps.toList from hm)]
        rfl
      · obtain ⟨e2, hd⟩ := hI
        refine ⟨_, _, rfl, lsOf hd, ?_⟩
        rw [show (List.replicate z.cps.size true).all id = true from List.all_eq_true.mpr fun x hx => (List.eq_of_mem_replicate hx)]
        exact q.go e2
def ckB (n : Bool) : V → Bool
  | .non => true
  | .int _ => n
  | .str _ => !n
  | _ => false
def kdS (n : Bool) : Str := if n = true then "number" else "text"
def sp_is_cell_of (K : PySem.W.Frag) : Sp := fun vs H Q _ => ∃ (n : Bool) (c : V), vs = [.str (kdS n), c] ∧ CellOk c ∧ GV (.bl (ckB n c)) H Q
theorem ok_is_cell_of (T : Gf K mg CG CP upA) (D : Dfn K mg "is_cell_of" s_is_cell_of) (c_is_text_cell : Cal P w K mg base 1 "is_text_cell" (sp_is_text_cell K) []) (c_is_number : Cal P w K mg base 1 "is_number" (sp_is_number K) []) : Cal P w K mg base 2 "is_cell_of" (sp_is_cell_of K) [] := by
  refine cal_mk D sc_is_cell_of (fun _ _ _ _ _ _ us hl => match us, hl with | [_, _], _ => rfl) (fun vs H Q E h => ?_) (fun f cdv A outer s H vs Q E hr h => ?_)
  · obtain ⟨_, _, rfl, _⟩ := h; rfl
  · obtain ⟨n, c, rfl, hc, q⟩ := h
    refine ⟨_, pss_cons (ps_if (pt_cmpR op_isN (pv 1) pe_non (nomark _)) (pss_one (ps_ret (pe_bl))) (pss_nil))
      (pss_cons (ps_if (pt_cmpR op_eq (pv 0) (pe_str) (nomark _)) (pss_one (ps_ret (pe_and (pe_c c_is_number hr (by decide) (by rfl) (pa_cons (pv 1) pa_nil)) (pe_one (pe_cmpR op_lt (pe_callB call_abs (by rfl) T.abs (by decide +kernel) (pa_cons (pv 1) pa_nil)) (pe_gc (by rfl) T.most_number) (nomark _)))))) (pss_nil))
      (pss_one (ps_ret (pe_c c_is_text_cell hr (by decide) (by rfl) (pa_cons (pv 1) pa_nil))))), ?_⟩
    rcases hc.cases with rfl | ⟨i, rfl, hi⟩ | ⟨z, rfl, hz⟩
    · exact ⟨_, rfl, rfl, _, rfl, ifT rfl (q.go (Ex.r H))⟩
    · refine ⟨_, rfl, rfl, _, rfl, ifF rfl ?_⟩
      cases n with
      | true =>
        refine ⟨_, rfl, rfl, _, rfl, ifT rfl ?_⟩
        refine ⟨_, rfl, _, rfl, hc, _, rfl, _, rfl, _, rfl, _, _, rfl, rfl, ?_⟩
        show Q (V.bl (decide ((if i < 0 then -i else i) < 1000000000000000000))) H
        rw [dT (by unfold NumOk at hi; split <;> omega)]
        exact q.go (Ex.r H)
      | false =>
        refine ⟨_, rfl, rfl, _, rfl, ifF (by decide +kernel) ?_⟩
        exact ⟨_, rfl, _, rfl, hc, (fun e => by cases e), q⟩
    · refine ⟨_, rfl, rfl, _, rfl, ifF rfl ?_⟩
      cases n with
      | true =>
        refine ⟨_, rfl, rfl, _, rfl, ifT rfl ?_⟩
        exact ⟨_, rfl, _, rfl, hc, _, rfl, q.go (Ex.r H)⟩
      | false =>
        refine ⟨_, rfl, rfl, _, rfl, ifF (by decide +kernel) ?_⟩
        exact ⟨_, rfl, _, rfl, hc, (fun e => by cases e), q⟩
/-- the tuple by which a cell is in order -/
def kT : V → List V
  | .int i => [.int 1, .int i, .str ""]
  | .str z => [.int 2, .int 0, .str z]
  | _ => [.int 0, .int 0, .str ""]
def sp_cell_key (K : PySem.W.Frag) : Sp := fun vs H Q _ => ∃ c : V, vs = [c] ∧ CellOk c ∧ GT (kT c) H Q
theorem ok_cell_key (T : Gf K mg CG CP upA) (D : Dfn K mg "cell_key" s_cell_key) (c_is_number : Cal P w K mg base 1 "is_number" (sp_is_number K) []) : Cal P w K mg base 2 "cell_key" (sp_cell_key K) [] := by
  refine cal_mk D sc_cell_key (fun _ _ _ _ _ _ us hl => match us, hl with | [_], _ => rfl) (fun vs H Q E h => ?_) (fun f cdv A outer s H vs Q E hr h => ?_)
  · obtain ⟨_, rfl, _⟩ := h; rfl
  · obtain ⟨c, rfl, hc, q⟩ := h
    refine ⟨_, pss_cons (ps_if (pt_cmpR op_isN (pv 0) pe_non (nomark _)) (pss_one (ps_ret (pe_tup (pa_cons (pe_int) (pa_cons (pe_int) (pa_cons (pe_str) pa_nil)))))) (pss_nil))
      (pss_cons (ps_if (pt_val (pe_c c_is_number hr (by decide) (by rfl) (pa_cons (pv 0) pa_nil))) (pss_one (ps_ret (pe_tup (pa_cons (pe_int) (pa_cons (pv 0) (pa_cons (pe_str) pa_nil)))))) (pss_nil))
      (pss_one (ps_ret (pe_tup (pa_cons (pe_int) (pa_cons (pe_int) (pa_cons (pv 0) pa_nil))))))), ?_⟩
    rcases hc.cases with rfl | ⟨i, rfl, hi⟩ | ⟨z, rfl, hz⟩
    · exact ⟨_, rfl, rfl, _, rfl, ifT rfl ⟨Nat.le_of_ble_eq_true rfl, fun p np => q.go (Ex.r H) np⟩⟩
    · refine ⟨_, rfl, rfl, _, rfl, ifF rfl ⟨_, rfl, _, rfl, hc, _, rfl, ?_⟩⟩
      exact ⟨_, rfl, Nat.le_of_ble_eq_true rfl, fun p np => q.go (Ex.r H) np⟩
    · refine ⟨_, rfl, rfl, _, rfl, ifF rfl ⟨_, rfl, _, rfl, hc, _, rfl, ?_⟩⟩
      exact ⟨_, rfl, Nat.le_of_ble_eq_true rfl, fun p np => q.go (Ex.r H) np⟩
end
end Pk
set_option Elab.async false
set_option linter.all false
set_option maxRecDepth 100000
set_option maxHeartbeats 4000000
set_option autoImplicit false
namespace Pk
open PySem PySem.Spec PyProof.Rows L2
open C8 (Cal Met Mak pe_c pe_mk pe_mt pe_mt0 pe_gc)
section
variable {P : Program} {w : World} {K : PySem.W.Frag} {mg : Str → Option Value} {base : Heap} {CG CP upA : Addr}
/-! ### tests of cells -/
theorem GV.ifT {c : Bool} {x y : Bool} {H : Hp} {Q : VK} (k : GV (.bl (if c = true then x else y)) H Q) (h : c = true) : GV (.bl x) H Q := by rw [iT h] at k; exact k
theorem GV.ifF {c : Bool} {x y : Bool} {H : Hp} {Q : VK} (k : GV (.bl (if c = true then x else y)) H Q) (h : c = false) : GV (.bl y) H Q := by rw [iF h] at k; exact k
def KdV : Bool → V → Prop
  | true, v => ∃ i, v = .int i
  | false, v => ∃ z, v = .str z
theorem KdV.cmp {b : Bool} {x y : V} (h : KdV b x) (g : KdV b y) : cmpb x y = true := by
  cases b <;> obtain ⟨_, rfl⟩ := h <;> obtain ⟨_, rfl⟩ := g <;> rfl
theorem KdV.scal {b : Bool} {x y : V} (h : KdV b x) (g : KdV b y) : scal x y = true := by
  cases b <;> obtain ⟨_, rfl⟩ := h <;> obtain ⟨_, rfl⟩ := g <;> rfl
theorem KdV.flat {b : Bool} {x : V} (h : KdV b x) : flatV x = true := by
  cases b <;> obtain ⟨_, rfl⟩ := h <;> rfl
theorem KdV.nn {b : Bool} {x : V} (h : KdV b x) : x ≠ .non := by
  cases b <;> obtain ⟨_, rfl⟩ := h <;> exact fun e => by cases e
theorem flats {b : Bool} {vs : List V} (h : ∀ v ∈ vs, KdV b v) : vs.all flatV = true := List.all_eq_true.mpr fun v hv => (h v hv).flat
def sgB (sg : Str) (z : Str) : Bool := decide (V.str sg = V.str z)
def soB (c : V) (sg : Str) (v : V) : Bool :=
  if sgB sg "=" = true then decide (c = v) else if sgB sg "<>" = true then !decide (c = v) else if sgB sg "<" = true then vlt c v
  else if sgB sg "<=" = true then !vlt v c else if sgB sg ">" = true then vlt v c else !vlt c v
def sp_is_so (K : PySem.W.Frag) : Sp := fun vs H Q _ => ∃ (b : Bool) (c : V) (sg : Str) (v : V), vs = [c, .str sg, v] ∧ KdV b c ∧ KdV b v ∧ GV (.bl (soB c sg v)) H Q
theorem ok_is_so (T : Gf K mg CG CP upA) (D : Dfn K mg "is_so" s_is_so)  : Cal P w K mg base 1 "is_so" (sp_is_so K) [] := by
  refine cal_mk D sc_is_so (fun _ _ _ _ _ _ us hl => match us, hl with | [_, _, _], _ => rfl) (fun vs H Q E h => ?_) (fun f cdv A outer s H vs Q E hr h => ?_)
  · obtain ⟨_, _, _, _, rfl, _⟩ := h; rfl
  · obtain ⟨b, c, sg, v, rfl, hc, hv, q⟩ := h
    refine ⟨_, pss_cons (ps_if (pt_cmpR op_eq (pv 1) (pe_str) (nomark _)) (pss_one (ps_ret (pe_cmpR op_eq (pv 0) (pv 2) (nomark _)))) (pss_nil))
      (pss_cons (ps_if (pt_cmpR op_eq (pv 1) (pe_str) (nomark _)) (pss_one (ps_ret (pe_cmpR op_ne (pv 0) (pv 2) (nomark _)))) (pss_nil))
      (pss_cons (ps_if (pt_cmpR op_eq (pv 1) (pe_str) (nomark _)) (pss_one (ps_ret (pe_cmpR op_ltC (pv 0) (pv 2) (nomark _)))) (pss_nil))
      (pss_cons (ps_if (pt_cmpR op_eq (pv 1) (pe_str) (nomark _)) (pss_one (ps_ret (pe_cmpR op_leC (pv 0) (pv 2) (nomark _)))) (pss_nil))
      (pss_cons (ps_if (pt_cmpR op_eq (pv 1) (pe_str) (nomark _)) (pss_one (ps_ret (pe_cmpR op_gtC (pv 0) (pv 2) (nomark _)))) (pss_nil))
      (pss_one (ps_ret (pe_cmpR op_geC (pv 0) (pv 2) (nomark _)))))))), ?_⟩
    have q := q.go (Ex.r H)
    unfold soB sgB at q
    refine ⟨_, rfl, rfl, _, rfl, ifB (fun h => ?_) (fun h => ?_)⟩
    · rw [iT h] at q
      exact ⟨_, rfl, _, rfl, hc.scal hv, q⟩
    rw [iF h] at q
    refine ⟨_, rfl, rfl, _, rfl, ifB (fun h => ?_) (fun h => ?_)⟩
    · rw [iT h] at q
      exact ⟨_, rfl, _, rfl, hc.scal hv, q⟩
    rw [iF h] at q
    refine ⟨_, rfl, rfl, _, rfl, ifB (fun h => ?_) (fun h => ?_)⟩
    · rw [iT h] at q
      exact ⟨_, rfl, _, rfl, hc.cmp hv, q⟩
    rw [iF h] at q
    refine ⟨_, rfl, rfl, _, rfl, ifB (fun h => ?_) (fun h => ?_)⟩
    · rw [iT h] at q
      exact ⟨_, rfl, _, rfl, hc.cmp hv, q⟩
    rw [iF h] at q
    refine ⟨_, rfl, rfl, _, rfl, ifB (fun h => ?_) (fun h => ?_)⟩
    · rw [iT h] at q
      exact ⟨_, rfl, _, rfl, hc.cmp hv, q⟩
    rw [iF h] at q
    exact ⟨_, rfl, _, rfl, hc.cmp hv, q⟩
inductive CT where
  | op
  | am (vs : List V)
  | so (sg : Str) (v : V)
def SgOk (sg : Str) : Prop := sgB sg "open" = false ∧ sgB sg "among" = false
def CTAt (K : PySem.W.Frag) (H : Hp) : CT → Addr → Prop
  | .op, a => SqT K H a [.str "open"]
  | .am vs, a => ∃ l, SqT K H a [.str "among", .ref l] ∧ SqL K H l vs
  | .so sg v, a => SqT K H a [.str sg, v]
def CTFit (b : Bool) : CT → Prop
  | .op => True
  | .am vs => ∀ v ∈ vs, KdV b v
  | .so sg v => SgOk sg ∧ KdV b v
theorem CTAt.ex {H H' : Hp} {a : Addr} : ∀ {t : CT}, CTAt K H t a → Ex H H' → CTAt K H' t a
  | .op, h, e => exT h e
  | .am vs, ⟨l, h1, h2⟩, e => ⟨l, exT h1 e, exL h2 e⟩
  | .so sg v, h, e => exT (xs := [.str sg, v]) h e
def meetB (c : V) : CT → Bool
  | .op => decide (c = .non)
  | .am vs => if decide (c = .non) = true then false else inV c vs
  | .so sg v => if decide (c = .non) = true then false else soB c sg v
/-- a cell of a column of a kind, as tests see it -/
def CkV (b : Bool) (c : V) : Prop := c = .non ∨ KdV b c
def sp_meets (K : PySem.W.Frag) : Sp := fun vs H Q _ => ∃ (b : Bool) (c : V) (a : Addr) (t : CT), vs = [c, .ref a] ∧ CkV b c ∧ CTAt K H t a ∧ CTFit b t ∧ GV (.bl (meetB c t)) H Q
theorem ok_meets (T : Gf K mg CG CP upA) (D : Dfn K mg "meets" s_meets) (c_is_so : Cal P w K mg base 1 "is_so" (sp_is_so K) []) : Cal P w K mg base 2 "meets" (sp_meets K) [] := by
  refine cal_mk D sc_meets (fun _ _ _ _ _ _ us hl => match us, hl with | [_, _], _ => rfl) (fun vs H Q E h => ?_) (fun f cdv A outer s H vs Q E hr h => ?_)
  · obtain ⟨_, _, _, _, rfl, _⟩ := h; rfl
  · obtain ⟨b, c, a, t, rfl, hc, ha, hf, q⟩ := h
    refine ⟨_, pss_cons (ps_if (pt_cmpR op_eq (pe_ix ix_tup (pv 1) (pe_int) (fun _ _ => rfl)) (pe_str) (nomark _)) (pss_one (ps_ret (pe_cmpR op_isN (pv 0) pe_non (nomark _)))) (pss_nil))
      (pss_cons (ps_if (pt_cmpR op_isN (pv 0) pe_non (nomark _)) (pss_one (ps_ret (pe_bl))) (pss_nil))
      (pss_cons (ps_if (pt_cmpR op_eq (pe_ix ix_tup (pv 1) (pe_int) (fun _ _ => rfl)) (pe_str) (nomark _)) (pss_one (ps_ret (pe_cmpR op_in_seq (pv 0) (pe_ix ix_tup (pv 1) (pe_int) (fun _ _ => rfl)) rfl))) (pss_nil))
      (pss_one (ps_ret (pe_c c_is_so hr (by decide) (by rfl) (pa_cons (pv 0) (pa_cons (pe_ix ix_tup (pv 1) (pe_int) (fun _ _ => rfl)) (pa_cons (pe_ix ix_tup (pv 1) (pe_int) (fun _ _ => rfl)) pa_nil)))))))), ?_⟩
    cases t with
    | op =>
      refine ⟨_, rfl, _, _, _, _, rfl, rfl, ha, at_k (k := 0) rfl rfl, rfl, _, rfl, ifT (by decide +kernel) ?_⟩
      exact ⟨_, rfl, rfl, q.go (Ex.r H)⟩
    | am vs =>
      obtain ⟨l, h1, h2⟩ := ha
      refine ⟨_, rfl, _, _, _, _, rfl, rfl, h1, at_k (k := 0) rfl rfl, rfl, _, rfl, ifF (by decide +kernel) ?_⟩
      refine ⟨_, rfl, rfl, _, rfl, ifB (fun h => ?_) (fun h => ?_)⟩
      · exact (q.ifT h).go (Ex.r H)
      have q := q.ifF h
      refine ⟨_, rfl, _, _, _, _, rfl, rfl, h1, at_k (k := 0) rfl rfl, rfl, _, rfl, ifT (by decide +kernel) ?_⟩
      refine ⟨_, rfl, _, rfl, _, _, _, _, rfl, rfl, h1, at_k (k := 1) rfl rfl, _, _, rfl, .inl h2, ?_, flats hf, q.go (Ex.r H)⟩
      rcases hc with rfl | hc
      · rfl
      · exact hc.flat
    | so sg v =>
      obtain ⟨⟨g1, g2⟩, hv⟩ := hf
      refine ⟨_, rfl, _, _, _, _, rfl, rfl, ha, at_k (k := 0) rfl rfl, rfl, _, rfl, ifF g1 ?_⟩
      refine ⟨_, rfl, rfl, _, rfl, ifB (fun h => ?_) (fun h => ?_)⟩
      · exact (q.ifT h).go (Ex.r H)
      have q := q.ifF h
      refine ⟨_, rfl, _, _, _, _, rfl, rfl, ha, at_k (k := 0) rfl rfl, rfl, _, rfl, ifF g2 ?_⟩
      refine ⟨_, rfl, _, rfl, _, _, _, _, rfl, rfl, ha, at_k (k := 0) rfl rfl, _, rfl, _, _, _, _, rfl, rfl, ha, at_k (k := 1) rfl rfl, b, c, sg, v, rfl, ?_, hv, ?_⟩
      · rcases hc with rfl | hc
        · exact absurd h (by decide)
        · exact hc
      · exact q
def upB (sg : Str) : Bool := inV (.str sg) [.str "<", .str "<="]
def noneB (lo hi : V) (sg : Str) (v : V) : Bool :=
  if sgB sg "=" = true then (if vlt v lo = true then true else vlt hi v) else if sgB sg "<>" = true then (if decide (lo = v) = true then decide (hi = v) else false)
  else if upB sg = true then !soB lo sg v else !soB hi sg v
def allB (lo hi : V) (sg : Str) (v : V) : Bool :=
  if sgB sg "=" = true then (if decide (lo = v) = true then decide (hi = v) else false) else if sgB sg "<>" = true then (if vlt v lo = true then true else vlt hi v)
  else if upB sg = true then soB hi sg v else soB lo sg v
def sp_has_none (K : PySem.W.Frag) : Sp := fun vs H Q _ => ∃ (b : Bool) (lo hi : V) (sg : Str) (v : V), vs = [lo, hi, .str sg, v] ∧ KdV b lo ∧ KdV b hi ∧ KdV b v ∧ GV (.bl (noneB lo hi sg v)) H Q
def sp_has_all (K : PySem.W.Frag) : Sp := fun vs H Q _ => ∃ (b : Bool) (lo hi : V) (sg : Str) (v : V), vs = [lo, hi, .str sg, v] ∧ KdV b lo ∧ KdV b hi ∧ KdV b v ∧ GV (.bl (allB lo hi sg v)) H Q
theorem ok_has_none (T : Gf K mg CG CP upA) (D : Dfn K mg "has_none" s_has_none) (c_is_so : Cal P w K mg base 1 "is_so" (sp_is_so K) []) : Cal P w K mg base 2 "has_none" (sp_has_none K) [] := by
  refine cal_mk D sc_has_none (fun _ _ _ _ _ _ us hl => match us, hl with | [_, _, _, _], _ => rfl) (fun vs H Q E h => ?_) (fun f cdv A outer s H vs Q E hr h => ?_)
  · obtain ⟨_, _, _, _, _, rfl, _⟩ := h; rfl
  · obtain ⟨b, lo, hi, sg, v, rfl, hl, hh, hv, q⟩ := h
    refine ⟨_, pss_cons (ps_if (pt_cmpR op_eq (pv 2) (pe_str) (nomark _)) (pss_one (ps_ret (pe_or (pe_cmpR op_ltC (pv 3) (pv 0) (nomark _)) (pe_one (pe_cmpR op_gtC (pv 3) (pv 1) (nomark _)))))) (pss_nil))
      (pss_cons (ps_if (pt_cmpR op_eq (pv 2) (pe_str) (nomark _)) (pss_one (ps_ret (pe_and (pe_cmpR op_eq (pv 0) (pv 3) (nomark _)) (pe_one (pe_cmpR op_eq (pv 1) (pv 3) (nomark _)))))) (pss_nil))
      (pss_cons (ps_if (pt_cmpR op_in_seq (pv 2) (pe_gc (by rfl) T.signs_up) rfl) (pss_one (ps_ret (pe_not (pe_c c_is_so hr (by decide) (by rfl) (pa_cons (pv 0) (pa_cons (pv 2) (pa_cons (pv 3) pa_nil))))))) (pss_nil))
      (pss_one (ps_ret (pe_not (pe_c c_is_so hr (by decide) (by rfl) (pa_cons (pv 1) (pa_cons (pv 2) (pa_cons (pv 3) pa_nil))))))))), ?_⟩
    refine ⟨_, rfl, rfl, _, rfl, ifB (fun h => ?_) (fun h => ?_)⟩
    · have q := q.ifT h
      refine ⟨_, rfl, _, rfl, hv.cmp hl, _, rfl, ifB (fun h => ?_) (fun h => ?_)⟩
      · exact (q.ifT h).go (Ex.r H)
      · exact ⟨_, rfl, _, rfl, hv.cmp hh, (q.ifF h).go (Ex.r H)⟩
    have q := q.ifF h
    refine ⟨_, rfl, rfl, _, rfl, ifB (fun h => ?_) (fun h => ?_)⟩
    · have q := q.ifT h
      refine ⟨_, rfl, _, rfl, hl.scal hv, _, rfl, ifB (fun h => ?_) (fun h => ?_)⟩
      · exact ⟨_, rfl, _, rfl, hh.scal hv, (q.ifT h).go (Ex.r H)⟩
      · exact (q.ifF h).go (Ex.r H)
    have q := q.ifF h
    refine ⟨_, rfl, _, _, rfl, .inr (T.upT H), rfl, rfl, _, rfl, ifB (fun h => ?_) (fun h => ?_)⟩
    · have q := q.ifT h
      exact ⟨_, rfl, _, rfl, _, rfl, b, _, _, _, rfl, hl, hv, fun H2 e => ⟨_, rfl, q.go e⟩⟩
    · have q := q.ifF h
      exact ⟨_, rfl, _, rfl, _, rfl, b, _, _, _, rfl, hh, hv, fun H2 e => ⟨_, rfl, q.go e⟩⟩
theorem ok_has_all (T : Gf K mg CG CP upA) (D : Dfn K mg "has_all" s_has_all) (c_is_so : Cal P w K mg base 1 "is_so" (sp_is_so K) []) : Cal P w K mg base 2 "has_all" (sp_has_all K) [] := by
  refine cal_mk D sc_has_all (fun _ _ _ _ _ _ us hl => match us, hl with | [_, _, _, _], _ => rfl) (fun vs H Q E h => ?_) (fun f cdv A outer s H vs Q E hr h => ?_)
  · obtain ⟨_, _, _, _, _, rfl, _⟩ := h; rfl
  · obtain ⟨b, lo, hi, sg, v, rfl, hl, hh, hv, q⟩ := h
    refine ⟨_, pss_cons (ps_if (pt_cmpR op_eq (pv 2) (pe_str) (nomark _)) (pss_one (ps_ret (pe_and (pe_cmpR op_eq (pv 0) (pv 3) (nomark _)) (pe_one (pe_cmpR op_eq (pv 1) (pv 3) (nomark _)))))) (pss_nil))
      (pss_cons (ps_if (pt_cmpR op_eq (pv 2) (pe_str) (nomark _)) (pss_one (ps_ret (pe_or (pe_cmpR op_ltC (pv 3) (pv 0) (nomark _)) (pe_one (pe_cmpR op_gtC (pv 3) (pv 1) (nomark _)))))) (pss_nil))
      (pss_cons (ps_if (pt_cmpR op_in_seq (pv 2) (pe_gc (by rfl) T.signs_up) rfl) (pss_one (ps_ret (pe_c c_is_so hr (by decide) (by rfl) (pa_cons (pv 1) (pa_cons (pv 2) (pa_cons (pv 3) pa_nil)))))) (pss_nil))
      (pss_one (ps_ret (pe_c c_is_so hr (by decide) (by rfl) (pa_cons (pv 0) (pa_cons (pv 2) (pa_cons (pv 3) pa_nil)))))))), ?_⟩
    refine ⟨_, rfl, rfl, _, rfl, ifB (fun h => ?_) (fun h => ?_)⟩
    · have q := q.ifT h
      refine ⟨_, rfl, _, rfl, hl.scal hv, _, rfl, ifB (fun h => ?_) (fun h => ?_)⟩
      · exact ⟨_, rfl, _, rfl, hh.scal hv, (q.ifT h).go (Ex.r H)⟩
      · exact (q.ifF h).go (Ex.r H)
    have q := q.ifF h
    refine ⟨_, rfl, rfl, _, rfl, ifB (fun h => ?_) (fun h => ?_)⟩
    · have q := q.ifT h
      refine ⟨_, rfl, _, rfl, hv.cmp hl, _, rfl, ifB (fun h => ?_) (fun h => ?_)⟩
      · exact (q.ifT h).go (Ex.r H)
      · exact ⟨_, rfl, _, rfl, hv.cmp hh, (q.ifF h).go (Ex.r H)⟩
    have q := q.ifF h
    refine ⟨_, rfl, _, _, rfl, .inr (T.upT H), rfl, rfl, _, rfl, ifB (fun h => ?_) (fun h => ?_)⟩
    · exact ⟨_, rfl, _, rfl, _, rfl, b, _, _, _, rfl, hh, hv, q.ifT h⟩
    · exact ⟨_, rfl, _, rfl, _, rfl, b, _, _, _, rfl, hl, hv, q.ifF h⟩
def lkO (n k : Int) : Str := if decide (V.int k = V.int 0) = true then "none" else if decide (V.int k = V.int n) = true then "all" else "some"
def sp_looked_open (K : PySem.W.Frag) : Sp := fun vs H Q _ => ∃ n k : Int, vs = [.int n, .int k] ∧ GV (.str (lkO n k)) H Q
theorem GV.ifTs {c : Bool} {x y : Str} {H : Hp} {Q : VK} (k : GV (.str (if c = true then x else y)) H Q) (h : c = true) : GV (.str x) H Q := by rw [iT h] at k; exact k
theorem GV.ifFs {c : Bool} {x y : Str} {H : Hp} {Q : VK} (k : GV (.str (if c = true then x else y)) H Q) (h : c = false) : GV (.str y) H Q := by rw [iF h] at k; exact k
theorem ok_looked_open (T : Gf K mg CG CP upA) (D : Dfn K mg "looked_open" s_looked_open)  : Cal P w K mg base 1 "looked_open" (sp_looked_open K) [] := by
  refine cal_mk D sc_looked_open (fun _ _ _ _ _ _ us hl => match us, hl with | [_, _], _ => rfl) (fun vs H Q E h => ?_) (fun f cdv A outer s H vs Q E hr h => ?_)
  · obtain ⟨_, _, rfl, _⟩ := h; rfl
  · obtain ⟨n, k, rfl, q⟩ := h
    refine ⟨_, pss_cons (ps_if (pt_cmpR op_eq (pv 1) (pe_int) (nomark _)) (pss_one (ps_ret (pe_str))) (pss_nil))
      (pss_cons (ps_if (pt_cmpR op_eq (pv 1) (pv 0) (nomark _)) (pss_one (ps_ret (pe_str))) (pss_nil))
      (pss_one (ps_ret (pe_str)))), ?_⟩
    refine ⟨_, rfl, rfl, _, rfl, ifB (fun h => ?_) (fun h => ?_)⟩
    · exact (q.ifTs h).go (Ex.r H)
    have q := q.ifFs h
    refine ⟨_, rfl, _, rfl, rfl, _, rfl, ifB (fun h => ?_) (fun h => ?_)⟩
    · exact (q.ifTs h).go (Ex.r H)
    · exact (q.ifFs h).go (Ex.r H)
/-- the word of two bools and the open ones -/
def wd (k : Int) (x y : Bool) : Str := if x = true then "none" else if (if y = true then decide (V.int k = V.int 0) else false) = true then "all" else "some"
def lkS (n k : Int) (lo hi : V) : CT → Str
  | .op => lkO n k
  | .am vs => if decide (V.int k = V.int n) = true then "none" else wd k ((vs.map (noneB lo hi "=")).all id) (if decide (lo = hi) = true then inV lo vs else false)
  | .so sg v => if decide (V.int k = V.int n) = true then "none" else wd k (noneB lo hi sg v) (allB lo hi sg v)
def NtAt (H : Hp) (a : Addr) (n k : Int) (lo hi : V) : Prop := H a = some (.tup [.int n, .int k, lo, hi])
def sp_looked (K : PySem.W.Frag) : Sp := fun vs H Q _ => ∃ (b : Bool) (a a2 : Addr) (n k : Int) (lo hi : V) (t : CT), vs = [.ref a, .ref a2] ∧ NtAt H a n k lo hi ∧ CTAt K H t a2 ∧ CTFit b t ∧ (∀ vs, t = .am vs → vs.length ≤ 1000) ∧ (k ≠ n → KdV b lo ∧ KdV b hi) ∧ GV (.str (lkS n k lo hi t)) H Q
theorem ok_looked (T : Gf K mg CG CP upA) (D : Dfn K mg "looked" s_looked) (c_looked_open : Cal P w K mg base 1 "looked_open" (sp_looked_open K) []) (c_has_none : Cal P w K mg base 2 "has_none" (sp_has_none K) []) (c_has_all : Cal P w K mg base 2 "has_all" (sp_has_all K) []) : Cal P w K mg base 3 "looked" (sp_looked K) [] := by
  refine cal_mk D sc_looked (fun _ _ _ _ _ _ us hl => match us, hl with | [_, _], _ => rfl) (fun vs H Q E h => ?_) (fun f cdv A outer s H vs Q E hr h => ?_)
  · obtain ⟨_, _, _, _, _, _, _, _, rfl, _⟩ := h; rfl
  · obtain ⟨b, a, a2, n, k, lo, hi, t, rfl, hN, ha, hf, hvs, hk, q⟩ := h
    refine ⟨_, pss_cons (ps_asg (pv 0) (pg_tup (by rfl) (pgs_cons (pg_name (i := 2) sc_looked.nd rfl (Or.inl rfl)) (pgs_cons (pg_name (i := 3) sc_looked.nd rfl (Or.inl rfl)) (pgs_cons (pg_name (i := 4) sc_looked.nd rfl (Or.inr rfl)) (pgs_cons (pg_name (i := 5) sc_looked.nd rfl (Or.inr rfl)) pgs_nil))))))
      (pss_cons (ps_if (pt_cmpR op_eq (pe_ix ix_tup (pv 1) (pe_int) (fun _ _ => rfl)) (pe_str) (nomark _)) (pss_one (ps_ret (pe_c c_looked_open hr (by decide) (by rfl) (pa_cons (pv 2) (pa_cons (pv 3) pa_nil))))) (pss_nil))
      (pss_cons (ps_if (pt_cmpR op_eq (pv 3) (pv 2) (nomark _)) (pss_one (ps_ret (pe_str))) (pss_nil))
      (Evl.pss_cut (ps_if (pt_cmpR op_eq (pe_ix ix_tup (pv 1) (pe_int) (fun _ _ => rfl)) (pe_str) (nomark _)) (pss_cons (ps_set (i := 6) sc_looked.nd rfl (Or.inl rfl) (pe_callB (cr_all rfl) (by rfl) T.all (by decide +kernel) (pa_cons (pe_lc (own := [("value", 8)]) (g := gName 8) (tt := tYes) (by rfl) sc_looked.nd (pi_list (pe_ix ix_tup (pv 1) (pe_int) (fun _ _ => rfl))) (blkOk_by (N := N_looked) (sc := defScope s_looked) (by decide +kernel)) (fun _ _ _ _ _ => pg_name (i := 8) sc_looked.nd rfl (Or.inl rfl)) (fun _ _ _ _ _ => pts_nil) (fun _ _ _ _ _ => pe_c c_has_none hr (by decide) (by rfl) (pa_cons (pv 4) (pa_cons (pv 5) (pa_cons (pe_str) (pa_cons (pv 8) pa_nil)))))) pa_nil)))
        (pss_one (ps_set (i := 7) sc_looked.nd rfl (Or.inl rfl) (pe_and (pe_cmpR op_eq (pv 4) (pv 5) (nomark _)) (pe_one (pe_cmpR op_in_seq (pv 4) (pe_ix ix_tup (pv 1) (pe_int) (fun _ _ => rfl)) rfl)))))) (pss_cons (ps_set (i := 6) sc_looked.nd rfl (Or.inl rfl) (pe_c c_has_none hr (by decide) (by rfl) (pa_cons (pv 4) (pa_cons (pv 5) (pa_cons (pe_ix ix_tup (pv 1) (pe_int) (fun _ _ => rfl)) (pa_cons (pe_ix ix_tup (pv 1) (pe_int) (fun _ _ => rfl)) pa_nil))))))
        (pss_one (ps_set (i := 7) sc_looked.nd rfl (Or.inl rfl) (pe_c c_has_all hr (by decide) (by rfl) (pa_cons (pv 4) (pa_cons (pv 5) (pa_cons (pe_ix ix_tup (pv 1) (pe_int) (fun _ _ => rfl)) (pa_cons (pe_ix ix_tup (pv 1) (pe_int) (fun _ _ => rfl)) pa_nil)))))))))
      (pss_cons (ps_if (pt_val (pv 6)) (pss_one (ps_ret (pe_str))) (pss_nil))
      (pss_cons (ps_if (PW.pt (pw_and (pt_val (pv 7)) (pw_and1 (pt_cmpR op_eq (pv 3) (pe_int) (nomark _))))) (pss_one (ps_ret (pe_str))) (pss_nil))
      (pss_one (ps_ret (pe_str)))))))), ?_⟩
    refine ⟨_, rfl, _, _, rfl, .inl (.inl hN), rfl, _, _, rfl, _, _, rfl, _, _, rfl, _, _, rfl, rfl, ?_⟩
    cases t with
    | op =>
      refine ⟨_, rfl, _, _, _, _, rfl, rfl, ha, at_k (k := 0) rfl rfl, rfl, _, rfl, ifT (by decide +kernel) ?_⟩
      exact ⟨_, rfl, _, rfl, _, _, rfl, q⟩
    | am vs =>
      obtain ⟨l, h1, h2⟩ := ha
      have hvl := hvs vs rfl
      refine ⟨_, rfl, _, _, _, _, rfl, rfl, h1, at_k (k := 0) rfl rfl, rfl, _, rfl, ifF (by decide +kernel) ?_⟩
      refine ⟨_, rfl, _, rfl, rfl, _, rfl, ifB (fun h => (q.ifTs h).go (Ex.r H)) (fun h => ?_)⟩
      have q := q.ifFs h
      obtain ⟨hlo, hhi⟩ := hk (vF h)
      refine ⟨fun σ' H' => Ex H H' ∧ ∃ y, σ' = [some (.ref a), some (.ref a2), some (.int n), some (.int k), some lo, some hi, some (.bl ((vs.map (noneB lo hi "=")).all id)), some (.bl (if decide (lo = hi) = true then inV lo vs else false)), y], ?_, ?_⟩
      · refine ⟨_, rfl, _, _, _, _, rfl, rfl, h1, at_k (k := 0) rfl rfl, rfl, _, rfl, ifT (by decide +kernel) ?_⟩
        refine ⟨_, rfl, _, _, _, _, rfl, rfl, h1, at_k (k := 1) rfl rfl, _, rfl, ⟨_, h2⟩, fun d nd => ?_⟩
        refine lc_it walk_list (fun i H' => Ex H H' ∧ H' d = some (.lst (((vs.map (noneB lo hi "=")).take i).map V.bl))) ⟨Ex.n nd, upd_same⟩ (fun i H' hi hI => exL h2 hI.1) (fun i x H' H2 hi hI hy => ?_) (fun H' hI => ?_)
        · obtain ⟨e2, hd⟩ := hI
          obtain ⟨rfl, hx⟩ := hy
          have hv := hf x (List.mem_of_getElem? hx)
          refine ⟨rfl, ?_⟩
          refine ⟨_, rfl, _, rfl, _, rfl, b, _, _, _, _, rfl, hlo, hhi, hv, fun H3 e3 => ?_⟩
          refine ⟨_, e3 _ _ hd, smlt (by rw [List.length_map, List.length_take]; omega), (e2.trans e3).mut nd, ?_⟩
          rw [upd_same, List.take_add_one, List.getElem?_map, hx, List.map_append (f := V.bl)]
          rfl
        · obtain ⟨e2, hd⟩ := hI
          rw [List.take_of_length_le (by rw [List.length_map]; exact Nat.le_refl _)] at hd
          refine ⟨_, _, rfl, lsOf hd, ?_⟩
          refine ⟨_, rfl, _, rfl, hlo.scal hhi, _, rfl, ifB (fun h => ?_) (fun h => ?_)⟩
          · refine ⟨_, rfl, _, rfl, _, _, _, _, rfl, rfl, exT h1 e2, at_k (k := 1) rfl rfl, _, _, rfl, .inl (exL h2 e2), hlo.flat, flats hf, e2, none, ?_⟩
            rw [iT h]
            rfl
          · refine ⟨e2, none, ?_⟩
            rw [iF h]
            rfl
      · rintro σ' H' ⟨e2, y, rfl⟩
        have q := q.go e2
        unfold wd at q
        refine ⟨_, rfl, _, rfl, ifB (fun h => ?_) (fun h => ?_)⟩
        · rw [iT h] at q; exact q
        rw [iF h] at q
        refine ⟨_, rfl, _, rfl, ifB (fun h => ?_) (fun h => ?_)⟩
        · rw [iT h] at q
          refine ⟨_, rfl, rfl, _, rfl, ifB (fun h => ?_) (fun h => ?_)⟩
          · rw [iT h] at q; exact q
          · rw [iF h] at q; exact q
        · rw [iF h, iF rfl] at q
          exact q
    | so sg v =>
      obtain ⟨⟨g1, g2⟩, hv⟩ := hf
      refine ⟨_, rfl, _, _, _, _, rfl, rfl, ha, at_k (k := 0) rfl rfl, rfl, _, rfl, ifF g1 ?_⟩
      refine ⟨_, rfl, _, rfl, rfl, _, rfl, ifB (fun h => (q.ifTs h).go (Ex.r H)) (fun h => ?_)⟩
      have q := q.ifFs h
      obtain ⟨hlo, hhi⟩ := hk (vF h)
      refine ⟨fun σ' H' => Ex H H' ∧ ∃ y, σ' = [some (.ref a), some (.ref a2), some (.int n), some (.int k), some lo, some hi, some (.bl (noneB lo hi sg v)), some (.bl (allB lo hi sg v)), y], ?_, ?_⟩
      · refine ⟨_, rfl, _, _, _, _, rfl, rfl, ha, at_k (k := 0) rfl rfl, rfl, _, rfl, ifF g2 ?_⟩
        refine ⟨_, rfl, _, rfl, _, rfl, _, _, _, _, rfl, rfl, ha, at_k (k := 0) rfl rfl, _, rfl, _, _, _, _, rfl, rfl, ha, at_k (k := 1) rfl rfl, b, _, _, _, _, rfl, hlo, hhi, hv, fun H2 e2 => ?_⟩
        exact ⟨_, rfl, _, rfl, _, rfl, _, _, _, _, rfl, rfl, exT ha e2, at_k (k := 0) rfl rfl, _, rfl, _, _, _, _, rfl, rfl, exT ha e2, at_k (k := 1) rfl rfl, b, _, _, _, _, rfl, hlo, hhi, hv, fun H3 e3 => ⟨e2.trans e3, none, rfl⟩⟩
      · rintro σ' H' ⟨e2, y, rfl⟩
        have q := q.go e2
        unfold wd at q
        refine ⟨_, rfl, _, rfl, ifB (fun h => ?_) (fun h => ?_)⟩
        · rw [iT h] at q; exact q
        rw [iF h] at q
        refine ⟨_, rfl, _, rfl, ifB (fun h => ?_) (fun h => ?_)⟩
        · rw [iT h] at q
          refine ⟨_, rfl, rfl, _, rfl, ifB (fun h => ?_) (fun h => ?_)⟩
          · rw [iT h] at q; exact q
          · rw [iF h] at q; exact q
        · rw [iF h, iF rfl] at q
          exact q
end
end Pk
set_option Elab.async false
set_option linter.all false
set_option maxRecDepth 100000
set_option maxHeartbeats 4000000
set_option autoImplicit false
namespace Pk
open PySem PySem.Spec PyProof.Rows L2
open C8 (Cal Met Mak pe_c pe_mk pe_mt pe_mt0 pe_gc)
section
variable {P : Program} {w : World} {K : PySem.W.Frag} {mg : Str → Option Value} {base : Heap} {CG CP upA : Addr}
/-! ### tests of rows -/
def pairB (x : V) (sg : Str) (y : V) : Bool := if (!decide (x = .non)) = true then (if (!decide (y = .non)) = true then meetB x (.so sg y) else false) else false
def sp_pair_meets (K : PySem.W.Frag) : Sp := fun vs H Q _ => ∃ (b : Bool) (x : V) (sg : Str) (y : V), vs = [x, .str sg, y] ∧ CkV b x ∧ CkV b y ∧ SgOk sg ∧ GV (.bl (pairB x sg y)) H Q
theorem CkV.kd {b : Bool} {c : V} (h : CkV b c) (n : decide (c = .non) = false) : KdV b c := by
  rcases h with rfl | h
  · exact absurd n (by decide)
  · exact h
theorem nT {b : Bool} (h : (!b) = true) : b = false := by cases b <;> first | rfl | cases h
theorem ok_pair_meets (T : Gf K mg CG CP upA) (D : Dfn K mg "pair_meets" s_pair_meets) (c_meets : Cal P w K mg base 2 "meets" (sp_meets K) []) : Cal P w K mg base 3 "pair_meets" (sp_pair_meets K) [] := by
  refine cal_mk D sc_pair_meets (fun _ _ _ _ _ _ us hl => match us, hl with | [_, _, _], _ => rfl) (fun vs H Q E h => ?_) (fun f cdv A outer s H vs Q E hr h => ?_)
  · obtain ⟨_, _, _, _, rfl, _⟩ := h; rfl
  · obtain ⟨b, x, sg, y, rfl, hx, hy, hs, q⟩ := h
    refine ⟨_, pss_one (ps_ret (pe_and (pe_cmpR op_notN (pv 0) pe_non (nomark _)) (pe_and (pe_cmpR op_notN (pv 2) pe_non (nomark _)) (pe_one (pe_c c_meets hr (by decide) (by rfl) (pa_cons (pv 0) (pa_cons (pe_tup (pa_cons (pv 1) (pa_cons (pv 2) pa_nil))) pa_nil))))))), ?_⟩
    refine ⟨_, rfl, rfl, _, rfl, ifB (fun h => ?_) (fun h => (q.ifF h).go (Ex.r H))⟩
    have q := q.ifT h
    refine ⟨_, rfl, rfl, _, rfl, ifB (fun h2 => ?_) (fun h2 => (q.ifF h2).go (Ex.r H))⟩
    have q := q.ifT h2
    refine ⟨_, rfl, _, rfl, _, rfl, Nat.le_of_ble_eq_true rfl, fun p np => ?_⟩
    exact ⟨b, x, p, .so sg y, rfl, hx, tpOf upd_same, ⟨hs, hy.kd (nT h2)⟩, fun H2 e => q.go ((Ex.n np).trans e)⟩
inductive RT where
  | alw
  | cell (i : Nat) (t : CT)
  | cells (i : Nat) (sg : Str) (j : Nat)
  | neg (t : RT)
  | both (a b : RT)
  | eith (a b : RT)
def RT.dep : RT → Nat
  | .neg t => t.dep + 1
  | .both a b => max a.dep b.dep + 1
  | .eith a b => max a.dep b.dep + 1
  | _ => 0
def RTAt (K : PySem.W.Frag) (H : Hp) : RT → Addr → Prop
  | .alw, a => SqT K H a [.str "always"]
  | .cell i t, a => ∃ b, SqT K H a [.str "cell", .int (i : Int), .ref b] ∧ CTAt K H t b
  | .cells i sg j, a => SqT K H a [.str "cells", .int (i : Int), .str sg, .int (j : Int)]
  | .neg t, a => ∃ b, SqT K H a [.str "not", .ref b] ∧ RTAt K H t b
  | .both x y, a => ∃ b c, SqT K H a [.str "both", .ref b, .ref c] ∧ RTAt K H x b ∧ RTAt K H y c
  | .eith x y, a => ∃ b c, SqT K H a [.str "either", .ref b, .ref c] ∧ RTAt K H x b ∧ RTAt K H y c
theorem RTAt.ex {H H' : Hp} : ∀ {t : RT} {a : Addr}, RTAt K H t a → Ex H H' → RTAt K H' t a
  | .alw, _, h, e => exT h e
  | .cell _ _, _, ⟨b, h1, h2⟩, e => ⟨b, exT h1 e, h2.ex e⟩
  | .cells i sg j, _, h, e => exT (xs := [.str "cells", .int (i : Int), .str sg, .int (j : Int)]) h e
  | .neg _, _, ⟨b, h1, h2⟩, e => ⟨b, exT h1 e, h2.ex e⟩
  | .both _ _, _, ⟨b, c, h1, h2, h3⟩, e => ⟨b, c, exT h1 e, h2.ex e, h3.ex e⟩
  | .eith _ _, _, ⟨b, c, h1, h2, h3⟩, e => ⟨b, c, exT h1 e, h2.ex e, h3.ex e⟩
def AmSm (t : CT) : Prop := ∀ vs, t = .am vs → vs.length ≤ 1000
def RFit (ks : List Bool) : RT → Prop
  | .alw => True
  | .cell i t => ∃ k, ks[i]? = some k ∧ CTFit k t ∧ AmSm t
  | .cells i sg j => ∃ k, ks[i]? = some k ∧ ks[j]? = some k ∧ SgOk sg
  | .neg t => RFit ks t
  | .both a b => RFit ks a ∧ RFit ks b
  | .eith a b => RFit ks a ∧ RFit ks b
def RowFit (ks : List Bool) (row : List V) : Prop := ∀ (i : Nat) (k : Bool), ks[i]? = some k → ∃ c, row[i]? = some c ∧ CkV k c
def cel (row : List V) (i : Nat) : V := (row[i]?).getD .non
theorem cel_of {row : List V} {i : Nat} {c : V} (h : row[i]? = some c) : cel row i = c := by
  unfold cel
  rw [h]
  rfl
def rowB (row : List V) : RT → Bool
  | .alw => true
  | .cell i t => meetB (cel row i) t
  | .cells i sg j => pairB (cel row i) sg (cel row j)
  | .neg t => !rowB row t
  | .both a b => if rowB row a = true then rowB row b else false
  | .eith a b => if rowB row a = true then true else rowB row b
def sp_row_meets (K : PySem.W.Frag) (d : Nat) : Sp := fun vs H Q _ => ∃ (a a2 : Addr) (ks : List Bool) (row : List V) (t : RT), vs = [.ref a, .ref a2] ∧ SqT K H a row ∧ RowFit ks row ∧ RTAt K H t a2 ∧ RFit ks t ∧ t.dep < d ∧ GV (.bl (rowB row t)) H Q
theorem ok_row_meets0 (D : Dfn K mg "row_meets" s_row_meets) : Cal P w K mg base 4 "row_meets" (sp_row_meets K 0) [] := by
  refine cal_mk D sc_row_meets (fun _ _ _ _ _ _ us hl => match us, hl with | [_, _], _ => rfl) (fun vs H Q E h => ?_) (fun f cdv A outer s H vs Q E hr h => ?_)
  · obtain ⟨_, _, _, _, _, rfl, _⟩ := h; rfl
  · obtain ⟨_, _, _, _, _, rfl, _, _, _, _, h, _⟩ := h
    exact absurd h (Nat.not_lt_zero _)
theorem ok_row_meets (T : Gf K mg CG CP upA) (D : Dfn K mg "row_meets" s_row_meets) (c_meets : Cal P w K mg base 2 "meets" (sp_meets K) []) (c_pair_meets : Cal P w K mg base 3 "pair_meets" (sp_pair_meets K) []) (d : Nat) (c_row_meets : Cal P w K mg base (4 + d) "row_meets" (sp_row_meets K d) []) : Cal P w K mg base (4 + d + 1) "row_meets" (sp_row_meets K (d + 1)) [] := by
  refine cal_mk D sc_row_meets (fun _ _ _ _ _ _ us hl => match us, hl with | [_, _], _ => rfl) (fun vs H Q E h => ?_) (fun f cdv A outer s H vs Q E hr h => ?_)
  · obtain ⟨_, _, _, _, _, rfl, _⟩ := h; rfl
  · obtain ⟨a, a2, ks, row, t, rfl, hr1, hrf, ha, hf, hd, q⟩ := h
    refine ⟨_, pss_cons (ps_set (i := 2) sc_row_meets.nd rfl (Or.inl rfl) (pe_ix ix_tup (pv 1) (pe_int) (fun _ _ => rfl)))
      (pss_cons (ps_if (pt_cmpR op_eq (pv 2) (pe_str) (nomark _)) (pss_one (ps_ret (pe_bl))) (pss_nil))
      (pss_cons (ps_if (pt_cmpR op_eq (pv 2) (pe_str) (nomark _)) (pss_one (ps_ret (pe_c c_meets hr (by omega) (by rfl) (pa_cons (pe_ix ix_tup (pv 0) (pe_ix ix_tup (pv 1) (pe_int) (fun _ _ => rfl)) (fun _ _ => rfl)) (pa_cons (pe_ix ix_tup (pv 1) (pe_int) (fun _ _ => rfl)) pa_nil))))) (pss_nil))
      (pss_cons (ps_if (pt_cmpR op_eq (pv 2) (pe_str) (nomark _)) (pss_one (ps_ret (pe_c c_pair_meets hr (by omega) (by rfl) (pa_cons (pe_ix ix_tup (pv 0) (pe_ix ix_tup (pv 1) (pe_int) (fun _ _ => rfl)) (fun _ _ => rfl)) (pa_cons (pe_ix ix_tup (pv 1) (pe_int) (fun _ _ => rfl)) (pa_cons (pe_ix ix_tup (pv 0) (pe_ix ix_tup (pv 1) (pe_int) (fun _ _ => rfl)) (fun _ _ => rfl)) pa_nil)))))) (pss_nil))
      (pss_cons (ps_set (i := 3) sc_row_meets.nd rfl (Or.inl rfl) (pe_c c_row_meets hr (by omega) (by rfl) (pa_cons (pv 0) (pa_cons (pe_ix ix_tup (pv 1) (pe_int) (fun _ _ => rfl)) pa_nil))))
      (pss_cons (ps_if (pt_cmpR op_eq (pv 2) (pe_str) (nomark _)) (pss_one (ps_ret (pe_not (pv 3)))) (pss_nil))
      (pss_cons (ps_if (pt_cmpR op_eq (pv 3) (pe_cmpR op_eq (pv 2) (pe_str) (nomark _)) (nomark _)) (pss_one (ps_ret (pv 3))) (pss_nil))
      (pss_one (ps_ret (pe_c c_row_meets hr (by omega) (by rfl) (pa_cons (pv 0) (pa_cons (pe_ix ix_tup (pv 1) (pe_int) (fun _ _ => rfl)) pa_nil))))))))))), ?_⟩
    cases t with
    | alw =>
      refine ⟨_, rfl, _, _, _, _, rfl, rfl, ha, at_k (k := 0) rfl rfl, ?_⟩
      exact ⟨_, rfl, rfl, _, rfl, ifT (by decide +kernel) (q.go (Ex.r H))⟩
    | cell i t =>
      obtain ⟨b, h1, h2⟩ := ha
      obtain ⟨k, hk, hf, _⟩ := hf
      obtain ⟨c, hc, hck⟩ := hrf i k hk
      refine ⟨_, rfl, _, _, _, _, rfl, rfl, h1, at_k (k := 0) rfl rfl, ?_⟩
      refine ⟨_, rfl, rfl, _, rfl, ifF (by decide +kernel) ⟨_, rfl, rfl, _, rfl, ifT (by decide +kernel) ?_⟩⟩
      refine ⟨_, rfl, _, rfl, _, _, _, _, rfl, rfl, h1, at_k (k := 1) rfl rfl, _, _, _, _, rfl, rfl, hr1, at_k hc rfl, _, rfl, _, _, _, _, rfl, rfl, h1, at_k (k := 2) rfl rfl, k, c, b, t, rfl, hck, h2, hf, q.to ?_⟩
      show V.bl (meetB (cel row i) t) = _
      rw [cel_of hc]
    | cells i sg j =>
      obtain ⟨k, hi, hj, hs⟩ := hf
      obtain ⟨c, hc, hck⟩ := hrf i k hi
      obtain ⟨c2, hc2, hck2⟩ := hrf j k hj
      have h1 : SqT K H a2 [.str "cells", .int (i : Int), .str sg, .int (j : Int)] := ha
      refine ⟨_, rfl, _, _, _, _, rfl, rfl, h1, at_k (k := 0) rfl rfl, ?_⟩
      refine ⟨_, rfl, rfl, _, rfl, ifF (by decide +kernel) ⟨_, rfl, rfl, _, rfl, ifF (by decide +kernel) ⟨_, rfl, rfl, _, rfl, ifT (by decide +kernel) ?_⟩⟩⟩
      refine ⟨_, rfl, _, rfl, _, _, _, _, rfl, rfl, h1, at_k (k := 1) rfl rfl, _, _, _, _, rfl, rfl, hr1, at_k hc rfl, _, rfl, _, _, _, _, rfl, rfl, h1, at_k (k := 2) rfl rfl, _, rfl, _, rfl, _, _, _, _, rfl, rfl, h1, at_k (k := 3) rfl rfl, _, _, _, _, rfl, rfl, hr1, at_k hc2 rfl, k, c, sg, c2, rfl, hck, hck2, hs, q.to ?_⟩
      show V.bl (pairB (cel row i) sg (cel row j)) = _
      rw [cel_of hc, cel_of hc2]
    | neg t =>
      obtain ⟨b, h1, h2⟩ := ha
      refine ⟨_, rfl, _, _, _, _, rfl, rfl, h1, at_k (k := 0) rfl rfl, ?_⟩
      refine ⟨_, rfl, rfl, _, rfl, ifF (by decide +kernel) ⟨_, rfl, rfl, _, rfl, ifF (by decide +kernel) ⟨_, rfl, rfl, _, rfl, ifF (by decide +kernel) ?_⟩⟩⟩
      refine ⟨_, rfl, _, rfl, _, _, _, _, rfl, rfl, h1, at_k (k := 1) rfl rfl, a, b, ks, row, t, rfl, hr1, hrf, h2, hf, (show t.dep < d by have : t.dep + 1 < d + 1 := hd; omega), fun H2 e => ?_⟩
      refine ⟨_, rfl, rfl, _, rfl, ifT (by decide +kernel) ⟨_, rfl, _, rfl, q.go e⟩⟩
    | both x y =>
      obtain ⟨b, c, h1, h2, h3⟩ := ha
      have hdd : max x.dep y.dep + 1 < d + 1 := hd
      refine ⟨_, rfl, _, _, _, _, rfl, rfl, h1, at_k (k := 0) rfl rfl, ?_⟩
      refine ⟨_, rfl, rfl, _, rfl, ifF (by decide +kernel) ⟨_, rfl, rfl, _, rfl, ifF (by decide +kernel) ⟨_, rfl, rfl, _, rfl, ifF (by decide +kernel) ?_⟩⟩⟩
      refine ⟨_, rfl, _, rfl, _, _, _, _, rfl, rfl, h1, at_k (k := 1) rfl rfl, a, b, ks, row, x, rfl, hr1, hrf, h2, hf.1, by omega, fun H2 e => ?_⟩
      have ew : decide (V.str "both" = V.str "either") = false := by decide +kernel
      refine ⟨_, rfl, rfl, _, rfl, ifF (by decide +kernel) ⟨_, rfl, _, rfl, rfl, ?_⟩⟩
      rw [ew]
      refine ⟨rfl, _, rfl, ifB (fun h => ?_) (fun h => ?_)⟩
      · have hx : rowB row x = false := by
          have := of_decide_eq_true h
          injection this
        refine ⟨_, rfl, (q.to ?_).go e⟩
        show V.bl (if rowB row x = true then rowB row y else false) = _
        rw [iF hx, hx]
      · have hx : rowB row x = true := by
          cases hb : rowB row x with
          | true => rfl
          | false => rw [hb] at h; exact absurd h (by decide)
        refine ⟨_, rfl, _, rfl, _, _, _, _, rfl, rfl, exT h1 e, at_k (k := 2) rfl rfl, a, c, ks, row, y, rfl, exT hr1 e, hrf, h3.ex e, hf.2, by omega, fun H3 e3 => (q.to ?_).go (e.trans e3)⟩
        show V.bl (if rowB row x = true then rowB row y else false) = _
        rw [iT hx]
    | eith x y =>
      obtain ⟨b, c, h1, h2, h3⟩ := ha
      have hdd : max x.dep y.dep + 1 < d + 1 := hd
      refine ⟨_, rfl, _, _, _, _, rfl, rfl, h1, at_k (k := 0) rfl rfl, ?_⟩
      refine ⟨_, rfl, rfl, _, rfl, ifF (by decide +kernel) ⟨_, rfl, rfl, _, rfl, ifF (by decide +kernel) ⟨_, rfl, rfl, _, rfl, ifF (by decide +kernel) ?_⟩⟩⟩
      refine ⟨_, rfl, _, rfl, _, _, _, _, rfl, rfl, h1, at_k (k := 1) rfl rfl, a, b, ks, row, x, rfl, hr1, hrf, h2, hf.1, by omega, fun H2 e => ?_⟩
      have ew : decide (V.str "either" = V.str "either") = true := by decide +kernel
      refine ⟨_, rfl, rfl, _, rfl, ifF (by decide +kernel) ⟨_, rfl, _, rfl, rfl, ?_⟩⟩
      rw [ew]
      refine ⟨rfl, _, rfl, ifB (fun h => ?_) (fun h => ?_)⟩
      · have hx : rowB row x = true := by
          have := of_decide_eq_true h
          injection this
        refine ⟨_, rfl, (q.to ?_).go e⟩
        show V.bl (if rowB row x = true then true else rowB row y) = _
        rw [iT hx, hx]
      · have hx : rowB row x = false := by
          cases hb : rowB row x with
          | false => rfl
          | true => rw [hb] at h; exact absurd h (by decide)
        refine ⟨_, rfl, _, rfl, _, _, _, _, rfl, rfl, exT h1 e, at_k (k := 2) rfl rfl, a, c, ks, row, y, rfl, exT hr1 e, hrf, h3.ex e, hf.2, by omega, fun H3 e3 => (q.to ?_).go (e.trans e3)⟩
        show V.bl (if rowB row x = true then true else rowB row y) = _
        rw [iF hx]
theorem ok_row_meetsN (T : Gf K mg CG CP upA) (D : Dfn K mg "row_meets" s_row_meets) (c_meets : Cal P w K mg base 2 "meets" (sp_meets K) []) (c_pair_meets : Cal P w K mg base 3 "pair_meets" (sp_pair_meets K) []) : ∀ d : Nat, Cal P w K mg base (4 + d) "row_meets" (sp_row_meets K d) []
  | 0 => ok_row_meets0 D
  | d + 1 => ok_row_meets T D c_meets c_pair_meets d (ok_row_meetsN T D c_meets c_pair_meets d)
end
end Pk
set_option Elab.async false
set_option linter.all false
set_option maxRecDepth 100000
set_option maxHeartbeats 4000000
set_option autoImplicit false
namespace Pk
open PySem PySem.Spec PyProof.Rows L2
/-! ### cells of a kind are in order -/
theorem str_ext {a b : Str} (h : a.cps.toList = b.cps.toList) : a = b := by
  cases a
  cases b
  congr 1
  exact Array.toList_inj.mp h
theorem vlt_irr (x : V) : vlt x x = false := by
  cases x with
  | int i => exact decide_eq_false (by omega)
  | str z => exact decide_eq_false (List.lt_irrefl _)
  | _ => rfl
theorem vlt_tr {x y z : V} (h : vlt x y = true) (g : vlt y z = true) : vlt x z = true := by
  cases x <;> cases y <;> first | cases h | skip
  · cases z <;> first | cases g | skip
    have h := of_decide_eq_true h
    have g := of_decide_eq_true g
    exact decide_eq_true (by omega)
  · cases z <;> first | cases g | skip
    exact decide_eq_true (List.lt_trans (of_decide_eq_true h) (of_decide_eq_true g))
theorem vlt_eq {b : Bool} {x y : V} (hx : KdV b x) (hy : KdV b y) (h : vlt x y = false) (g : vlt y x = false) : x = y := by
  cases b with
  | true =>
    obtain ⟨i, rfl⟩ := hx
    obtain ⟨j, rfl⟩ := hy
    have h := of_decide_eq_false h
    have g := of_decide_eq_false g
    rw [show i = j by omega]
  | false =>
    obtain ⟨i, rfl⟩ := hx
    obtain ⟨j, rfl⟩ := hy
    have h := of_decide_eq_false h
    have g := of_decide_eq_false g
    have e : i.cps.toList = j.cps.toList := List.le_antisymm g h
    rw [str_ext e]
theorem vlt_as {x y : V} (h : vlt x y = true) : vlt y x = false := by
  cases g : vlt y x with
  | false => rfl
  | true =>
    have := vlt_tr h g
    rw [vlt_irr] at this
    cases this
/-- x <= y < z -/
theorem vlt_le {b : Bool} {x y z : V} (hx : KdV b x) (hy : KdV b y) (h : vlt y x = false) (g : vlt y z = true) : vlt x z = true := by
  cases e : vlt x y with
  | true => exact vlt_tr e g
  | false => rw [vlt_eq hx hy e h]; exact g
/-- x < y <= z -/
theorem vlt_lt {b : Bool} {x y z : V} (hy : KdV b y) (hz : KdV b z) (h : vlt x y = true) (g : vlt z y = false) : vlt x z = true := by
  cases e : vlt y z with
  | true => exact vlt_tr h e
  | false => rw [← vlt_eq hy hz e g]; exact h
/-- x <= y <= z -/
theorem vle_tr {b : Bool} {x y z : V} (hx : KdV b x) (hy : KdV b y) (h : vlt y x = false) (g : vlt z y = false) : vlt z x = false := by
  cases e : vlt z x with
  | false => rfl
  | true =>
    have := vlt_lt hx hy e h
    rw [g] at this
    cases this
/-- the first of the least, by any order of that kind -/
theorem best_at {b : Bool} {xs : List V} {f : V → V → Bool} (hk : ∀ x ∈ xs, KdV b x)
    (hir : ∀ x, f x x = false) (hlt : ∀ x y z, KdV b x → KdV b y → KdV b z → f x y = true → f z y = false → f x z = true) (has : ∀ x y, f x y = true → f y x = false) :
    ∀ k : Nat, k < xs.length → argBest (fun i j => f (xs.getD i .non) (xs.getD j .non)) k ≤ k ∧ ∀ j : Nat, j ≤ k → f (xs.getD j .non) (xs.getD (argBest (fun i j => f (xs.getD i .non) (xs.getD j .non)) k) .non) = false
  | 0, _ => ⟨Nat.le_refl _, fun j hj => by rw [Nat.le_zero.mp hj]; exact hir _⟩
  | k + 1, hk1 => by
    obtain ⟨i1, i2⟩ := best_at hk hir hlt has k (by omega)
    have mem : ∀ i, i < xs.length → KdV b (xs.getD i .non) := fun i hi => by
      rw [List.getD_eq_getElem?_getD, List.getElem?_eq_getElem hi]
      exact hk _ (List.getElem_mem hi)
    have e : argBest (fun i j => f (xs.getD i .non) (xs.getD j .non)) (k + 1) = if f (xs.getD (k + 1) .non) (xs.getD (argBest (fun i j => f (xs.getD i .non) (xs.getD j .non)) k) .non) = true then k + 1 else argBest (fun i j => f (xs.getD i .non) (xs.getD j .non)) k := rfl
    by_cases h : f (xs.getD (k + 1) .non) (xs.getD (argBest (fun i j => f (xs.getD i .non) (xs.getD j .non)) k) .non) = true
    · rw [e, if_pos h]
      refine ⟨Nat.le_refl _, fun j hj => ?_⟩
      rcases Nat.lt_or_ge j (k + 1) with hlt2 | hge
      · cases e : f (xs.getD j .non) (xs.getD (k + 1) .non) with
        | false => rfl
        | true =>
          have h3 := i2 j (by omega)
          have := hlt _ _ _ (mem j (by omega)) (mem (k + 1) hk1) (mem _ (Nat.lt_of_le_of_lt i1 (by omega))) e (has _ _ h)
          rw [h3] at this
          cases this
      · rw [show j = k + 1 by omega]
        exact hir _
    · rw [e, if_neg h]
      refine ⟨Nat.le_succ_of_le i1, fun j hj => ?_⟩
      rcases Nat.lt_or_ge j (k + 1) with hlt2 | hge
      · exact i2 j (by omega)
      · rw [show j = k + 1 by omega]
        exact Bool.not_eq_true _ ▸ h
theorem vals_at {xs : List V} {us : List Value} (r : Vals xs us) : ∀ {i : Nat} {u : Value}, us[i]? = some u → ∃ x, xs[i]? = some x ∧ RelV x u := by
  induction r with
  | nil => intro i u h; cases h
  | cons r _ ih =>
    intro i u h
    cases i with
    | zero =>
      obtain rfl := Option.some.inj h
      exact ⟨_, rfl, r⟩
    | succ i => exact ih (i := i) (u := u) h
section
variable {prog : Program} {w : World} {A : Around} {h : Heap} {xs : List V} {us : List Value} {b : Bool}
theorem cmp_lt (r : Vals xs us) (hk : ∀ x ∈ xs, KdV b x) : CmpIn prog w A .Lt h (fun i v => us.toArray[i]? = some v) (fun i j => vlt (xs.getD i .non) (xs.getD j .non)) := fun i j vi vj s' Q E _ hi hj hq => by
  obtain ⟨x, ex, rx⟩ := vals_at r (i := i) (u := vi) (by simpa using hi)
  obtain ⟨y, ey, ry⟩ := vals_at r (i := j) (u := vj) (by simpa using hj)
  have hx := hk x (List.mem_of_getElem? ex)
  have hy := hk y (List.mem_of_getElem? ey)
  have hq : Q (.bool (vlt (xs.getD i .non) (xs.getD j .non))) s' := hq
  rw [List.getD_eq_getElem?_getD, List.getD_eq_getElem?_getD, ex, ey] at hq
  show wpAny (model prog w) A (compareOp .Lt vi vj) Q E s'
  cases b with
  | true =>
    obtain ⟨_, rfl⟩ := hx
    obtain ⟨_, rfl⟩ := hy
    obtain ⟨_, rfl⟩ := rx
    obtain ⟨_, rfl⟩ := ry
    exact lt_int hq
  | false =>
    obtain ⟨_, rfl⟩ := hx
    obtain ⟨_, rfl⟩ := hy
    obtain ⟨_, rfl⟩ := rx
    obtain ⟨_, rfl⟩ := ry
    exact lt_str hq
theorem cmp_gt (r : Vals xs us) (hk : ∀ x ∈ xs, KdV b x) : CmpIn prog w A .Gt h (fun i v => us.toArray[i]? = some v) (fun i j => vlt (xs.getD j .non) (xs.getD i .non)) := fun i j vi vj s' Q E _ hi hj hq => by
  obtain ⟨x, ex, rx⟩ := vals_at r (i := i) (u := vi) (by simpa using hi)
  obtain ⟨y, ey, ry⟩ := vals_at r (i := j) (u := vj) (by simpa using hj)
  have hx := hk x (List.mem_of_getElem? ex)
  have hy := hk y (List.mem_of_getElem? ey)
  have hq : Q (.bool (vlt (xs.getD j .non) (xs.getD i .non))) s' := hq
  rw [List.getD_eq_getElem?_getD, List.getD_eq_getElem?_getD, ex, ey] at hq
  show wpAny (model prog w) A (compareOp .Gt vi vj) Q E s'
  cases b with
  | true =>
    obtain ⟨_, rfl⟩ := hx
    obtain ⟨_, rfl⟩ := hy
    obtain ⟨_, rfl⟩ := rx
    obtain ⟨_, rfl⟩ := ry
    exact gt_int hq
  | false =>
    obtain ⟨_, rfl⟩ := hx
    obtain ⟨_, rfl⟩ := hy
    obtain ⟨_, rfl⟩ := rx
    obtain ⟨_, rfl⟩ := ry
    exact PySem.P.gt_str hq
end
/-- min(cells, default=d), max(cells, default=d) -/
def rMinD (K : PySem.W.Frag) : List V → List V → Hp → VK → Prop := fun xs zs H Q => ∃ (a : Addr) (cs : List V) (d : V) (b : Bool), xs = [.ref a] ∧ zs = [d] ∧ SqL K H a cs ∧ (∀ c ∈ cs, KdV b c) ∧ (cs = [] → Q d H) ∧ (∀ m, m ∈ cs → (∀ y ∈ cs, vlt y m = false) → Q m H)
def rMaxD (K : PySem.W.Frag) : List V → List V → Hp → VK → Prop := fun xs zs H Q => ∃ (a : Addr) (cs : List V) (d : V) (b : Bool), xs = [.ref a] ∧ zs = [d] ∧ SqL K H a cs ∧ (∀ c ∈ cs, KdV b c) ∧ (cs = [] → Q d H) ∧ (∀ m, m ∈ cs → (∀ y ∈ cs, vlt m y = false) → Q m H)
section
variable {X : Cx}
theorem crk_min (hc : X.calm = true) : CallRK X (.builtin "min") [("default" : Str)] (rMinD X.K) := by
  intro pins s σ H xs zs us ws Q I r rz h
  obtain ⟨a, cs, d, b, rfl, rfl, hs, hk, h0, h1⟩ := h
  obtain ⟨its, rv, hl, hz⟩ := I.list hs
  rw [Vals.ref1 r]
  obtain ⟨dv, rfl, rd⟩ := vals1 rz
  have hlen := rv.length
  refine PySem.call_min_walkD (PySem.W.iter_listW (A := X.A.in1) (I.ok.hd hc) hl.isList fun s₂ e W st hfp hw hk2 => ?_)
  refine ⟨_, _, _, _, _, _, _, s.heap, _, rfl, W, st, hfp, hw, hk2, fun hz s' m => ?_, fun hp => ⟨cmp_lt rv hk, fun v s' hP m => ?_⟩⟩
  · obtain ⟨h', tk, rfl, hk'⟩ := PySem.W.moved_old e rfl m
    have : cs = [] := List.eq_nil_of_length_eq_zero (by rw [hlen]; simpa using hz)
    exact ⟨d, H, I.kept hk', rd, h0 this⟩
  · obtain ⟨h', tk, rfl, hk'⟩ := PySem.W.moved_old e rfl m
    have hsz : 0 < cs.length := by rw [hlen]; simpa using hp
    have hP2 := hP
    simp only [List.getElem?_toArray, List.size_toArray] at hP2
    rw [← hlen] at hP2
    obtain ⟨x, ex, rx⟩ := vals_at rv hP2
    have hb := best_at (xs := cs) (f := vlt) hk vlt_irr (fun x y z hx hy hz h g => vlt_lt hy hz h g) (fun x y h => vlt_as h) (cs.length - 1) (by omega)
    refine ⟨x, H, I.kept hk', rx, h1 x (List.mem_of_getElem? ex) fun y hy => ?_⟩
    obtain ⟨j, hj, ej⟩ := List.getElem_of_mem hy
    have := hb.2 j (by omega)
    rw [List.getD_eq_getElem?_getD, List.getD_eq_getElem?_getD, ex, List.getElem?_eq_getElem hj, ej] at this
    exact this
theorem crk_max (hc : X.calm = true) : CallRK X (.builtin "max") [("default" : Str)] (rMaxD X.K) := by
  intro pins s σ H xs zs us ws Q I r rz h
  obtain ⟨a, cs, d, b, rfl, rfl, hs, hk, h0, h1⟩ := h
  obtain ⟨its, rv, hl, hz⟩ := I.list hs
  rw [Vals.ref1 r]
  obtain ⟨dv, rfl, rd⟩ := vals1 rz
  have hlen := rv.length
  refine PySem.call_max_walkD (PySem.W.iter_listW (A := X.A.in1) (I.ok.hd hc) hl.isList fun s₂ e W st hfp hw hk2 => ?_)
  refine ⟨_, _, _, _, _, _, _, s.heap, _, rfl, W, st, hfp, hw, hk2, fun hz s' m => ?_, fun hp => ⟨cmp_gt rv hk, fun v s' hP m => ?_⟩⟩
  · obtain ⟨h', tk, rfl, hk'⟩ := PySem.W.moved_old e rfl m
    have : cs = [] := List.eq_nil_of_length_eq_zero (by rw [hlen]; simpa using hz)
    exact ⟨d, H, I.kept hk', rd, h0 this⟩
  · obtain ⟨h', tk, rfl, hk'⟩ := PySem.W.moved_old e rfl m
    have hsz : 0 < cs.length := by rw [hlen]; simpa using hp
    have hP2 := hP
    simp only [List.getElem?_toArray, List.size_toArray] at hP2
    rw [← hlen] at hP2
    obtain ⟨x, ex, rx⟩ := vals_at rv hP2
    have hb := best_at (xs := cs) (f := fun x y => vlt y x) hk vlt_irr (fun x y z hx hy hz h g => vlt_le hz hy g h) (fun x y h => vlt_as h) (cs.length - 1) (by omega)
    refine ⟨x, H, I.kept hk', rx, h1 x (List.mem_of_getElem? ex) fun y hy => ?_⟩
    obtain ⟨j, hj, ej⟩ := List.getElem_of_mem hy
    have := hb.2 j (by omega)
    rw [List.getD_eq_getElem?_getD, List.getD_eq_getElem?_getD, ex, List.getElem?_eq_getElem hj, ej] at this
    exact this
/-- min(rows, key=len): one of them -/
def tMinLen (K : PySem.W.Frag) (t : TA) : TE := fun σ H Q => t σ H fun vs H1 => ∃ (a : Addr) (xs : List V), vs = [.ref a] ∧ SqL K H1 a xs ∧ 0 < xs.length ∧ (∀ x ∈ xs, ∃ p ys, x = .ref p ∧ SqL K H1 p ys) ∧ ∀ m, m ∈ xs → Q m H1
def vLen (h : Heap) (v : Value) (n : Nat) : Prop := ∃ a arr, v = .ref a ∧ h.IsList a arr ∧ arr.size = n ∧ n ≤ sizeLine
theorem min_len_raw {prog : Program} {w : World} {A : Around} {E : Value → Shared → Prop} {s : Shared} {l : Addr} {us : List Value} {Q : Value → Shared → Prop} (hh : A.handled = none) (hl : s.heap.IsList l us.toArray) (hn : 0 < us.length)
    (hv : ∀ v ∈ us, ∃ n, vLen s.heap v n) (h : ∀ v h' tk, v ∈ us → (∀ b o, s.heap.get? b = some o → h'.get? b = some o) → Q v { s with heap := h', toks := tk }) :
    wpAny (model prog w) A (call (.builtin "min") [.ref l] [(Str.ofString "key", .builtin "len")]) Q E s := by
  have hex : ∀ i : Nat, ∃ n : Nat, ∀ v, us.toArray[i]? = some v → vLen s.heap v n := fun i => by
    cases e : us.toArray[i]? with
    | none => exact ⟨0, fun v hv => by cases hv⟩
    | some v =>
      obtain ⟨n, hn⟩ := hv v (List.mem_of_getElem? (i := i) (by simpa using e))
      exact ⟨n, fun v' hv' => by obtain rfl := Option.some.inj hv'; exact hn⟩
  refine PySem.call_min_walkKB (PySem.W.iter_listW (A := A.in1) hh hl fun s₂ e W st hfp hw hk2 => ?_)
  subst e
  have hS : (s.heap.push { cls := .type "list_iterator", data := .fields #[.ref l, .int 0 0] }).objs.size = s.heap.objs.size + 1 := Heap.size_push ..
  refine ⟨_, _, _, _, _, _, _, (fun s' => (∀ b o, s.heap.get? b = some o → s'.heap.get? b = some o) ∧ s' = { s with heap := s'.heap, toks := s'.toks }), (fun i k _ => ∃ t, k = .int ((Classical.choose (hex i) : Nat) : Int) t),
    (fun i j => decide (((Classical.choose (hex i) : Nat) : Int) < ((Classical.choose (hex j) : Nat) : Int))), rfl, W, st, hfp, by rw [List.size_toArray]; exact hn, ?_, ⟨hk2, rfl⟩, fun v s' hP hJ => ?_⟩
  · refine ⟨fun s1 s2 hJ m => ⟨fun b o eb => m.heap b o (fun hb => ?_) (hJ.1 b o eb), ?_⟩, fun _ _ _ _ h _ => h, ?_, ?_⟩
    · have h9 := Heap.lt_size eb
      rcases List.mem_cons.mp hb with h8 | h8
      · have h8 := h8.trans hS
        rw [h8] at h9
        exact Nat.lt_irrefl _ (Nat.lt_of_succ_lt h9)
      · have h8 := List.mem_singleton.mp h8
        rw [h8] at h9
        exact Nat.lt_irrefl _ h9
    · have h1 := m.gens
      have h2 := m.drawn
      have h3 := m.os
      have h4 := hJ.2
      obtain ⟨hp, g, d, tk, os⟩ := s2
      obtain ⟨hp', g', d', tk', os'⟩ := s1
      obtain ⟨hp0, g0, d0, tk0, os0⟩ := s
      injection h4 with _ e1 e2 _ e3
      subst e1 e2 e3
      have h1 : g = g' := h1
      have h2 : d = d' := h2
      have h3 : os = os' := h3
      subst h1 h2 h3
      rfl
    · intro i v s' o Q' E' hi hP hJ hst hSo hq
      obtain ⟨a, arr, rfl, ha, hsz, hle⟩ := Classical.choose_spec (hex i) v hP
      have hn63 := line63
      have ha' : s'.heap.IsList a arr := by
        obtain ⟨o, ho, rest⟩ := ha
        exact ⟨o, hJ.1 a o ho, rest⟩
      refine Calls.call_len_list ha' (by rw [hsz]; omega) ?_
      refine hq _ _ ⟨hJ.1, ?_⟩ hst hSo ⟨s'.toks + 1, by rw [hsz]⟩ fun _ _ h => h
      exact congrArg (fun z : Shared => { z with toks := s'.toks + 1 + 1 }) hJ.2
    · intro i j ki kj s' Q' E' hJ hi hj hq
      obtain ⟨t, rfl⟩ := hi
      obtain ⟨t', rfl⟩ := hj
      show wpAny _ _ (compareOp .Lt _ _) _ _ _
      exact lt_int hq
  · rw [hJ.2]
    exact h v _ _ (List.mem_of_getElem? (by simpa using hP)) hJ.1
variable {x x2 : Str} {p p2 kp pos : Pos} {e : Expr} {t : TA}
theorem pe_minLen (hc : X.calm = true) (hg : Gl X ("min" : Str)) (hm : X.mg ("min" : Str) = none) (hg2 : Gl X ("len" : Str)) (hm2 : X.mg ("len" : Str) = none) (hb : bootBuiltins ("min" : Str) = some (.builtin "min")) (hb2 : bootBuiltins ("len" : Str) = some (.builtin "len")) (ha : PA X [e] t)
    (he : backTo pos (starEach [e] X.env) = (false, eval e X.env) :: backTo pos (starEach [] X.env) := by rfl) (hpl : (backTo pos (starEach [e] X.env)).any (·.1) = false := by rfl) :
    PE X (.Call (.Name ("min" : Str) p) [e] [⟨some ("key" : Str), .Name ("len" : Str) p2, kp⟩] pos) (tMinLen X.K t) := by
  refine ⟨fun pins s σ H Q I h => ?_⟩
  refine wpAny_Call_Name_kw (ld_blt I hg hm hb ?_ (by decide) (by decide))
  refine PyProof.Rows.callWith_kw (thn (ha.run pos pins s σ H _ I h) fun us s1 ⟨vs, H1, I1, r1, q1⟩ => ?_) he hpl rfl rfl
  show wpAny _ _ (evalAll [(do let v ← eval (.Name ("len" : Str) p2) X.env; standAt pos; pure v)]) _ _ s1
  refine wpAny_evalAll_cons (wpAny_bind (ld_blt I1 hg2 hm2 hb2 (wpAny_bind (wpAny_standAt (wpAny_pure ?_))) (by decide) (by decide)))
  refine wpAny_evalAll_nil ?_
  obtain ⟨a, xs, rfl, hs, hne, hrows, q⟩ := q1
  rw [Vals.ref1 r1]
  obtain ⟨its, rv, hl, hz⟩ := I1.list hs
  have hlen := rv.length
  refine min_len_raw (I1.ok.hd hc) hl.isList (by omega) (fun v hv => ?_) fun v h' tk hv hk => ?_
  · obtain ⟨i, hi, ei⟩ := List.getElem_of_mem hv
    obtain ⟨x, ex, rx⟩ := vals_at rv (u := v) (i := i) (by rw [List.getElem?_eq_getElem hi, ei])
    obtain ⟨p, ys, rfl, hp⟩ := hrows x (List.mem_of_getElem? ex)
    cases rx
    obtain ⟨its2, rv2, hl2, hz2⟩ := I1.list hp
    have := rv2.length
    exact ⟨its2.toArray.size, p, its2.toArray, rfl, hl2.isList, rfl, by rw [List.size_toArray]; omega⟩
  · obtain ⟨i, hi, ei⟩ := List.getElem_of_mem hv
    obtain ⟨x, ex, rx⟩ := vals_at rv (u := v) (i := i) (by rw [List.getElem?_eq_getElem hi, ei])
    exact ⟨x, H1, I1.kept hk, rx, q x (List.mem_of_getElem? ex)⟩
end
end Pk
set_option Elab.async false
set_option linter.all false
set_option maxRecDepth 100000
set_option maxHeartbeats 4000000
set_option autoImplicit false
namespace Pk
open PySem PySem.Spec PyProof.Rows L2
open C8 (Cal Met Mak pe_c pe_mk pe_mt pe_mt0 pe_gc)
section
variable {P : Program} {w : World} {K : PySem.W.Frag} {mg : Str → Option Value} {base : Heap} {CG CP upA : Addr}
/-! ### note_of -/
def kn (cells : List V) : List V := cells.filter fun c => !decide (c = .non)
def NoteOf (cells : List V) (lo hi : V) : Prop := (kn cells = [] ∧ lo = .non ∧ hi = .non) ∨ ((lo ∈ kn cells ∧ ∀ y ∈ kn cells, vlt y lo = false) ∧ hi ∈ kn cells ∧ ∀ y ∈ kn cells, vlt hi y = false)
theorem kn_kd {b : Bool} {cells : List V} (h : ∀ c ∈ cells, CkV b c) : ∀ c ∈ kn cells, KdV b c := fun c hc => by
  obtain ⟨h1, h2⟩ := List.mem_filter.mp hc
  exact (h c h1).kd (nT h2)
def sp_note_of (K : PySem.W.Frag) : Sp := fun vs H Q _ => ∃ (b : Bool) (a : Addr) (cells : List V), vs = [.ref a] ∧ SqL K H a cells ∧ (∀ c ∈ cells, CkV b c) ∧ cells.length ≤ 1000 ∧
  ∀ lo hi, NoteOf cells lo hi → GT [.int (cells.length : Int), .int ((cells.length : Int) - ((kn cells).length : Int)), lo, hi] H Q
theorem ok_note_of (T : Gf K mg CG CP upA) (D : Dfn K mg "note_of" s_note_of)  : Cal P w K mg base 1 "note_of" (sp_note_of K) [] := by
  refine cal_mk D sc_note_of (fun _ _ _ _ _ _ us hl => match us, hl with | [_], _ => rfl) (fun vs H Q E h => ?_) (fun f cdv A outer s H vs Q E hr h => ?_)
  · obtain ⟨_, _, _, rfl, _⟩ := h; rfl
  · obtain ⟨b, a, cells, rfl, hS, hc, hl, q⟩ := h
    refine ⟨_, pss_cons (ps_setLc (i := 1) (own := [("cell", 2)]) (g := gName 2) (by rfl) sc_note_of.nd rfl rfl (sw_true rfl rfl rfl (by decide +kernel)) (pi_list (pv 0)) (blkOk_by (N := N_note_of) (sc := defScope s_note_of) (by decide +kernel)) (fun _ _ _ _ _ => pg_name (i := 2) sc_note_of.nd rfl (Or.inl rfl)) (fun _ _ _ _ _ => pts_one (pt_cmpR op_notN (pv 2) pe_non (nomark _))) (fun _ _ _ _ _ => pv 2))
      (pss_one (ps_ret (pe_tup (pa_cons (pe_callB call_len_seq (by rfl) T.len (by decide +kernel) (pa_cons (pv 0) pa_nil)) (pa_cons (pe_op op_sub (pe_callB call_len_seq (by rfl) T.len (by decide +kernel) (pa_cons (pv 0) pa_nil)) (pe_callB call_len_seq (by rfl) T.len (by decide +kernel) (pa_cons (pv 1) pa_nil))) (pa_cons (pe_callBK (crk_min rfl) (by rfl) T.min (by decide +kernel) (pa_cons (pv 1) pa_nil) (pk_cons (pe_non) pk_nil)) (pa_cons (pe_callBK (crk_max rfl) (by rfl) T.max (by decide +kernel) (pa_cons (pv 1) pa_nil) (pk_cons (pe_non) pk_nil)) pa_nil))))))), ?_⟩
    refine ⟨_, rfl, _, rfl, ⟨_, hS⟩, fun d nd => ?_⟩
    refine lc_it walk_list (fun i H' => Ex H H' ∧ H' d = some (.lst (kn (cells.take i)))) ⟨Ex.n nd, upd_same⟩ (fun i H' hi hI => exL hS hI.1) (fun i x H' H2 hi hI hy => ?_) (fun H' hI => ?_)
    · obtain ⟨e2, hd⟩ := hI
      obtain ⟨rfl, hx⟩ := hy
      have ek : kn (cells.take (i + 1)) = kn (cells.take i) ++ kn [x] := by
        unfold kn
        rw [List.take_add_one, hx, List.filter_append]
        rfl
      have hle : (kn (cells.take i)).length ≤ 1000 := Nat.le_trans (List.length_filter_le _ _) (by rw [List.length_take]; omega)
      refine ⟨rfl, ?_⟩
      refine ⟨_, rfl, rfl, _, rfl, ?_⟩
      refine ifB (fun hn => ?_) (fun hn => ?_)
      · refine ⟨_, rfl, _, hd, smlt (by omega), e2.mut nd, ?_⟩
        rw [upd_same, ek]
        have : kn [x] = [x] := by unfold kn; rw [List.filter_cons, if_pos hn]; rfl
        rw [this]
      · refine ⟨e2, ?_⟩
        rw [hd, ek]
        have : kn [x] = [] := by unfold kn; rw [List.filter_cons, if_neg (by rw [hn]; decide)]; rfl
        rw [this, List.append_nil]
    · obtain ⟨e2, hd⟩ := hI
      rw [List.take_length] at hd
      have hkn := kn_kd hc
      refine ⟨_, rfl, _, _, rfl, .inl (exL hS e2), _, rfl, _, _, rfl, .inl (exL hS e2), _, rfl, _, _, rfl, .inl (lsOf hd), _, _, rfl, rfl, ?_⟩
      refine ⟨_, rfl, _, _, _, b, rfl, rfl, lsOf hd, hkn, fun h0 => ?_, fun m hm hle => ?_⟩
      · refine ⟨_, rfl, _, _, _, b, rfl, rfl, lsOf hd, hkn, fun _ => ?_, fun m hm _ => ?_⟩
        · exact ⟨Nat.le_of_ble_eq_true rfl, fun p np => (q .non .non (.inl ⟨h0, rfl, rfl⟩)).go e2 np⟩
        · rw [h0] at hm; cases hm
      · refine ⟨_, rfl, _, _, _, b, rfl, rfl, lsOf hd, hkn, fun h0 => ?_, fun m2 hm2 hle2 => ?_⟩
        · rw [h0] at hm; cases hm
        · exact ⟨Nat.le_of_ble_eq_true rfl, fun p np => (q m m2 (.inr ⟨⟨hm, hle⟩, hm2, hle2⟩)).go e2 np⟩
end
end Pk
set_option Elab.async false
set_option linter.all false
set_option maxRecDepth 100000
set_option maxHeartbeats 4000000
set_option autoImplicit false
namespace Pk
open PySem PySem.Spec PyProof.Rows L2
open C8 (Cal Met Mak pe_c pe_mk pe_mt pe_mt0 pe_gc)
/-! ### sorted(cells, key=cell_key) -/
def kD : V → PyData
  | .int i => .tuple [.int 1, .int i, .str ""]
  | .str z => .tuple [.int 2, .int 0, .str z]
  | _ => .tuple [.int 0, .int 0, .str ""]
theorem kD_tup (c : V) : ∃ x r, kD c = .tuple (x :: r) := by cases c <;> exact ⟨_, _, rfl⟩
theorem kD_alike (c d : V) : PySem.W.alike (kD c) (kD d) = true := by
  cases c <;> cases d <;> simp [kD, PySem.W.alike, PySem.W.alikeAll]
theorem kD_depth (c : V) : (kD c).depth = 1 := by
  cases c <;> simp [kD, PyData.depth, PyData.depthAll]
/-- the cells in order -/
def sortC (cs : List V) : List V := cs.mergeSort (PySem.W.dataLe false kD)
theorem sortC_perm (cs : List V) : (sortC cs).Perm cs := List.mergeSort_perm ..
section
variable {X : Cx} {pins : List (Addr × Obj)} {σ : L2.St} {H : Hp} {s : Shared} {k : Nat} {f : Addr} {fd : FuncData} {ps : List Str}
theorem key_reads {Hi : Hp} {h : Heap} {p : Addr} {c : V} (ok : HOk X.prog X.w Hi h) (e : Hi p = some (.tup (kT c))) : Reads h (.ref p) (kD c) [] := by
  obtain ⟨_, its, r, o, ho, hc, n, hd⟩ := ok p _ e
  have go : ∀ (us : List Value), o.data = .seq us.toArray n → ∀ a b z, Vals [.int a, .int b, .str z] us → Reads h (.ref p) (.tuple [.int a, .int b, .str z]) [] := fun us hd a b z r => by
    cases r with
    | cons r1 r =>
      cases r with
      | cons r2 r =>
        cases r with
        | cons r3 r =>
          cases r
          obtain ⟨t1, rfl⟩ := r1
          obtain ⟨t2, rfl⟩ := r2
          obtain ⟨t3, rfl⟩ := r3
          exact Reads.tuple (as := []) ho hc hd (ReadsAll.cons (as := []) (.int _ _) (ReadsAll.cons (as := []) (.int _ _) (ReadsAll.cons (as := []) (.str _ _) .nil)))
  cases c <;> exact go _ hd _ _ _ r
theorem key_turn {cv : V} {u : Value} (F : FnOk X.prog X.w X.K X.mg X.base CX0 k f fd ps (sp_cell_key X.K)) (hb : Binds X.K fd ps []) (hr : Room k X.A.in1.in1) (I : Inv X pins σ H s) (r : RelV cv u) (hc : CellOk cv) :
    wpAny (model X.prog X.w) X.A.in1.in1 (call (.ref f) [u]) (EP X pins σ (fun v H2 => ∃ p, v = .ref p ∧ Ex H H2 ∧ H2 p = some (.tup (kT cv)))) (fun _ _ => False) s := by
  have hsp : sp_cell_key X.K [cv] H (fun v H2 => ∃ p, v = .ref p ∧ Ex H H2 ∧ H2 p = some (.tup (kT cv))) C8.E0 := ⟨cv, rfl, hc, fun p H2 _ e hp => ⟨p, rfl, e, hp⟩⟩
  have hl := F.len _ _ _ _ hsp
  refine wpAny_call (codeAny_mono (F.run X.A.in1.in1 X.stack s H ⟨[u], []⟩ [u] [cv] _ C8.E0 hr I.env0.in1.in1 (hb s [u] I.kIn hl) (.cons r .nil) hsp) fun r s' hq => ?_)
  cases r with
  | error e => exact hq.elim
  | ok fl =>
    cases fl with
    | ret u => exact I.after hq
    | next => exact False.elim hq
    | brk => exact False.elim hq
    | cont => exact False.elim hq
/-- the cells' keys, one behind the other -/
def KyJ (X : Cx) (pins : List (Addr × Obj)) (σ : L2.St) (H : Hp) (a kS : Addr) (e1 : Nat) (cs : List V) (i : Nat) (s' : Shared) : Prop :=
  ∃ Hi kA e, Inv X pins σ Hi s' ∧ Ex H Hi ∧ Hi kS = none ∧ Hi a = none ∧ s'.heap.get? kS = some (seqObj "list" kA e) ∧ s'.heap.get? a = some (seqObj "list" #[] e1) ∧
    PySem.W.EachIs (fun v c => ∃ p, v = Value.ref p ∧ Hi p = some (.tup (kT c))) kA.toList (cs.take i)
theorem mut_ne {it : Addr} (hn : H it = none) : ∀ {p : Addr} {o : HO}, H p = some o → p ≠ it := fun e z => by rw [z, hn] at e; cases e
/-- the heap with one object freed -/
theorem freed_none (h : Heap) (b : Addr) : (h.update b fun o => { o with data := .freed }).get? b = none := by
  unfold Heap.update Heap.get?
  rw [Array.getElem?_modify]
  cases e : h.objs[b]? with
  | none => simp
  | some o => simp
theorem key_sort {P : PySem.Fin → Shared → Prop} {E : Value → Shared → Prop} {us : List Value} {cs : List V} {n : Nat} {h0 : Heap} {a : Addr} (F : FnOk X.prog X.w X.K X.mg X.base CX0 k f fd ps (sp_cell_key X.K)) (hb : Binds X.K fd ps []) (hr : Room k X.A.in1.in1)
    (I : Inv X pins σ H s) (I0 : Inv X pins σ H { s with heap := h0 }) (ho : h0.get? a = some (seqObj "list" us.toArray n)) (ha : s.heap.objs.size ≤ a) (hlt : a < h0.objs.size) (hsz : s.heap.objs.size ≤ h0.objs.size) (rv : Vals cs us) (hc : ∀ c ∈ cs, CellOk c) (hz : cs.length ≤ sizeLine)
    (hP : ∀ (H2 : Hp) s2, H a = none → Ex H H2 → H2 a = some (.lst (sortC cs)) → Inv X pins σ H2 s2 → P (.done (.ret .none)) s2) :
    wpAny (model X.prog X.w) X.A.in1.in1 (ksk_tree a (.ref f) false) P E { s with heap := h0 } := by
  have hlen := rv.length
  have hn : H a = none := I.hok.fresh ha
  obtain ⟨e1, ho1⟩ : ∃ e1, (h0.update a (Obj.mapSeq fun _ => (#[] : Array Value))).get? a = some (seqObj "list" #[] e1) := ⟨_, get?_update_seq ho fun _ => #[]⟩
  have hkS : ((h0.update a (Obj.mapSeq fun _ => (#[] : Array Value))).push (seqObj "tuple" us.toArray 0)).objs.size = h0.objs.size + 1 := by rw [PyProof.Rows.size_push', Heap.size_update]
  unfold ksk_tree
  refine wpAny_bind (listItems_at ho rfl ?_)
  refine wpAny_bind (listUpdate_at ho rfl ?_ (by rw [List.size_toArray]; omega) (Nat.zero_le _))
  refine wpAny_bind (seqEpoch_at ho1 rfl ?_)
  refine wpAny_bind (wpAny_newTuple ?_ (by show us.length ≤ _; omega))
  refine wpAny_bind (wpAny_newList ?_ (Nat.zero_le _))
  refine wpAny_holding ?_
  rw [hkS]
  have fpA : FpOk X pins H a := I.fpOk ha hn
  have hnk : H (h0.objs.size + 1) = none := I.hok.fresh (Nat.le_succ_of_le hsz)
  have fpK : FpOk X pins H (h0.objs.size + 1) := I.fpOk (Nat.le_succ_of_le hsz) hnk
  have hka : h0.objs.size + 1 ≠ a := Nat.ne_of_gt (Nat.lt_succ_of_lt hlt)
  have I1 : Inv X pins σ H { s with heap := ((h0.update a (Obj.mapSeq fun _ => (#[] : Array Value))).push (seqObj "tuple" us.toArray 0)).push (seqObj "list" #[] 0) } :=
    I0.turned (t' := s.toks) (fun b o hb e => Heap.get?_push_of_some _ (Heap.get?_push_of_some _ ((Heap.get?_update_ne _ _ _ _ hb).trans e))) hn fpA.2.1 fpA.2.2.2.1 fpA.2.2.2.2.1 fpA.2.2.2.2.2
  have nk : (((h0.update a (Obj.mapSeq fun _ => (#[] : Array Value))).push (seqObj "tuple" us.toArray 0)).push (seqObj "list" #[] 0)).get? (h0.objs.size + 1) = some (seqObj "list" #[] 0) := by
    rw [← hkS]
    exact Heap.get?_push_size _ rfl
  have na : (((h0.update a (Obj.mapSeq fun _ => (#[] : Array Value))).push (seqObj "tuple" us.toArray 0)).push (seqObj "list" #[] 0)).get? a = some (seqObj "list" #[] e1) := Heap.get?_push_of_some _ (Heap.get?_push_of_some _ ho1)
  generalize h0.objs.size + 1 = kS at hka fpK hnk nk ⊢
  generalize ((h0.update a (Obj.mapSeq fun _ => (#[] : Array Value))).push (seqObj "tuple" us.toArray 0)).push (seqObj "list" #[] 0) = h1 at I1 nk na ⊢
  unfold ksk_rest
  refine wpAny_bind (wpAny_rule ?_)
  first
    | rw [List.forIn_toArray]
    | (rw [← Array.forIn_toList]; simp only [List.toList_toArray])
    | rw [← Array.forIn_toList]
  refine wpAny_bind (ksk_fold (KyJ X pins σ H a kS e1 cs) us 0 _ ⟨H, #[], 0, I1, Ex.r H, hnk, hn, nk, na, by rw [List.take_zero]; exact .nil⟩ (fun j x s' hx hJ => ?_) fun s' hJ => ?_)
  · obtain ⟨Hi, kA, e, Ij, ej, nkj, naj, gk, ga, hk⟩ := hJ
    rw [Nat.zero_add] at hk ⊢
    obtain ⟨cv, hcv, rcv⟩ : ∃ cv, cs[j]? = some cv ∧ RelV cv x := by
      have hj : j < cs.length := by rw [hlen]; exact (List.getElem?_eq_some_iff.mp hx).1
      obtain ⟨u2, hu2, rx2⟩ := rv.get (i := j) (x := cs[j]) (List.getElem?_eq_getElem hj)
      obtain rfl : u2 = x := Option.some.inj (hu2.symm.trans hx)
      exact ⟨_, List.getElem?_eq_getElem hj, rx2⟩
    have hcc := hc cv (List.mem_of_getElem? hcv)
    have hj : j < cs.length := (List.getElem?_eq_some_iff.mp hcv).1
    have hzk : kA.size ≤ j := by
      have h1 := hk.length
      rw [Array.length_toList, List.length_take] at h1
      omega
    have gA : ∀ b ∈ [kS, a], FpOk X pins Hi b := fun b hb => by
      rcases List.mem_cons.mp hb with rfl | hb
      · exact ⟨nkj, fpK.2⟩
      · rw [List.mem_singleton.mp hb]
        exact ⟨naj, fpA.2⟩
    have Ip := Ij.pinned (fp := [kS, a]) gA fun b hb => by
      rcases List.mem_cons.mp hb with rfl | hb
      · exact ⟨_, gk, fun v z => by cases z⟩
      · rw [List.mem_singleton.mp hb]
        exact ⟨_, ga, fun v z => by cases z⟩
    refine wpAny_bind (wpAny_attempt (wpAny_mono (key_turn F hb hr Ip rcv hcc) (fun v s'' he => ?_) fun _ _ hF => hF.elim))
    obtain ⟨y, H2, I2, ry, p, rfl, e2, hp⟩ := he
    obtain rfl : v = Value.ref p := ry
    have pk := I2.pin (kS, _) (List.mem_append_right _ (List.mem_append_right _ (mem_pinsAt (by simp) gk)))
    have pa := I2.pin (a, _) (List.mem_append_right _ (List.mem_append_right _ (mem_pinsAt (by simp) ga)))
    have gk2 : s''.heap.get? kS = some (seqObj "list" kA e) := pk.1
    have ga2 : s''.heap.get? a = some (seqObj "list" #[] e1) := pa.1
    have nk2 : H2 kS = none := pk.2.1
    have na2 : H2 a = none := pa.2.1
    have I3 := I2.unpinned
    obtain ⟨c2, hc2⟩ : ∃ c2, (s''.heap.update kS (Obj.mapSeq (·.push (.ref p)))).get? kS = some (seqObj "list" (kA.push (.ref p)) c2) := ⟨_, get?_update_seq gk2 (·.push (.ref p))⟩
    try dsimp only
    refine wpAny_bind (listUpdate_at gk2 rfl ?_ (by omega) (by rw [Array.size_push]; omega))
    have I4 : Inv X pins σ H2 { s'' with heap := s''.heap.update kS (Obj.mapSeq (·.push (.ref p))) } :=
      I3.turned (t' := s''.toks) (fun b o hb e => (Heap.get?_update_ne _ _ _ _ hb).trans e) nk2 fpK.2.1 fpK.2.2.2.1 fpK.2.2.2.2.1 fpK.2.2.2.2.2
    refine wpAny_pure ⟨rfl, H2, kA.push (.ref p), c2, I4, ej.trans e2, nk2, na2, hc2, (Heap.get?_update_ne _ _ _ _ hka.symm).trans ga2, ?_⟩
    have ek : cs.take (j + 1) = cs.take j ++ [cv] := by rw [List.take_add_one, hcv]; simp
    have ea : (kA.push (Value.ref p)).toList = kA.toList ++ [.ref p] := by simp
    rw [ea, ek]
    exact PySem.W.each_snoc (R := fun (v : Value) (c : V) => ∃ p, v = Value.ref p ∧ H2 p = some (.tup (kT c))) ⟨p, rfl, hp⟩ (hk.mono fun v c ⟨p, ev, eh⟩ => ⟨p, ev, e2 _ _ eh⟩)
  · obtain ⟨Hi, kA, e, Ij, ej, nkj, naj, gk, ga, hk⟩ := hJ
    rw [Nat.zero_add, List.take_of_length_le (by omega)] at hk
    have hsk : kA.size = us.length := by
      have h1 := hk.length
      rw [Array.length_toList] at h1
      omega
    have hk' : PySem.W.EachIs (fun v d => ∃ as, Reads s'.heap v d as) kA.toList (cs.map kD) := by
      have : ∀ {l : List Value} {m : List V}, PySem.W.EachIs (fun v c => ∃ p, v = Value.ref p ∧ Hi p = some (.tup (kT c))) l m → PySem.W.EachIs (fun v d => ∃ as, Reads s'.heap v d as) l (m.map kD) := by
        intro l m h
        induction h with
        | nil => exact .nil
        | cons h _ ih =>
          obtain ⟨p, rfl, eh⟩ := h
          exact .cons ⟨[], key_reads Ij.hok eh⟩ ih
      exact this hk
    have hal : PySem.W.AllAlike (cs.map kD) := PySem.W.AllAlike.of kD_alike
    try dsimp only
    refine wpAny_bind (listItems_at gk rfl ?_)
    have hun := hr.units
    refine PySem.W.keyH_end (κ := PySem.W.dataKind s'.heap (cs.map kD)) (h₁ := s'.heap.update kS fun o => { o with data := .freed }) (s := s') (fun b o hb e => ?_) (freed_none _ _) gk ga hka
      (PySem.W.SortsAt.data (s := s') hk' hal (PySem.W.Sortable.tuples kD_tup) (fun d hd => ?_)) hsk (by omega) fun h' tk c kp hD => ?_
    · by_cases hbk : b = kS
      · rw [hbk, freed_none] at e
        cases e
      · exact (Heap.get?_update_ne _ _ _ _ hbk).symm.trans e
    · obtain ⟨c, _, rfl⟩ := List.mem_map.mp hd
      rw [kD_depth]
      omega
    · have each : PySem.W.EachIs (fun v c => RelV c v) (PySem.W.sortVals (PySem.W.dataKind s'.heap (cs.map kD)) false kA.toList us) (sortC cs) :=
        PySem.W.keyedOut_each (R := fun v c => RelV c v) kD ⟨s'.heap, kA.toList, hal, rfl, hk'⟩ (by
          have : ∀ {m : List V} {l : List Value}, Vals m l → PySem.W.EachIs (fun v c => RelV c v) l m := by
            intro m l h
            induction h with
            | nil => exact .nil
            | cons h _ ih => exact .cons h ih
          exact this rv)
      have vals : Vals (sortC cs) (PySem.W.sortVals (PySem.W.dataKind s'.heap (cs.map kD)) false kA.toList us) := by
        have : ∀ {l : List Value} {m : List V}, PySem.W.EachIs (fun v c => RelV c v) l m → Vals m l := by
          intro l m h
          induction h with
          | nil => exact .nil
          | cons h _ ih => exact .cons h ih
        exact this each
      have keep : ∀ b o, b ≠ kS → b ≠ a → s'.heap.get? b = some o → h'.get? b = some o := fun b o hbk hba e => kp b o hba ((Heap.get?_update_ne _ _ _ _ hbk).trans e)
      have ok2 : HOk X.prog X.w (upd Hi a (.lst (sortC cs))) h' := fun b u e => by
        by_cases hba : b = a
        · subst hba
          rw [upd_same] at e
          cases e
          exact ⟨by rw [(sortC_perm cs).length_eq]; exact hz, _, c, vals, hD⟩
        · rw [upd_ne hba] at e
          refine (Ij.hok b u e).stay (fun c v hc q => keep c v ?_ ?_ q) (fun c q => by rw [upd_ne (ne_of_none q naj)]; exact q) fun c xs q => by rw [upd_ne (ne_of_none q naj)]; exact q
          · rcases hc with z | z
            · rw [z]; exact ne_of_none e nkj
            · exact ne_of_none z nkj
          · rcases hc with z | z
            · rw [z]; exact hba
            · exact ne_of_none z naj
      refine hP (upd Hi a (.lst (sortC cs))) _ hn (ej.trans (Ex.n naj)) upd_same ?_
      refine Ij.step (g' := s'.gens) (d' := s'.drawn) (t' := tk) (ch := [kS, a]) (fun b hb => ?_) (fun b o _ _ hc e _ => keep b o (fun z => hc (by simp [z])) (fun z => hc (by simp [z])) e) (fun b o _ _ hc e _ => ⟨o.slots, keep b o (fun z => hc (by simp [z])) (fun z => hc (by simp [z])) e⟩)
        (fun b o hc _ n => by rw [upd_ne (fun z => hc (by simp [z]))]; exact n) (fun b o hc e => ⟨o, keep b o (fun z => hc (by simp [z])) (fun z => hc (by simp [z])) e⟩) (fun b xs e => by rw [upd_ne (ne_of_none e naj)]; exact e) (fun b o u e => by rw [upd_ne (ne_of_none e naj)]; exact e)
        (fun b ps e => ⟨#[], by rw [upd_ne (ne_of_none e naj), e]; simp⟩) (fun m hm => ?_) ok2 Ij.bare
      · rcases List.mem_cons.mp hb with rfl | hb
        · exact ⟨fpK.2.2.2.1, fpK.2.1, fpK.2.2.2.2.1, fpK.2.2.2.2.2⟩
        · rw [List.mem_singleton.mp hb]
          exact ⟨fpA.2.2.2.1, fpA.2.1, fpA.2.2.2.2.1, fpA.2.2.2.2.2⟩
      · obtain ⟨o, es, ep, ho, r⟩ := hm
        exact ⟨o, es, ep, keep _ o (Ne.symm fpK.2.1) (Ne.symm fpA.2.1) ho, r⟩
end
/-- sorted(cells, key=cell_key) -/
def tSortCk (K : PySem.W.Frag) (t : TA) : TE := fun σ H Q => t σ H fun vs H1 => ∃ (a : Addr) (cs : List V), vs = [.ref a] ∧ SqL K H1 a cs ∧ (∀ c ∈ cs, CellOk c) ∧ GL (sortC cs) H1 Q
section
variable {X : Cx} {k j : Nat} {p p2 kp pos : Pos} {e : Expr} {t : TA}
theorem pe_sortCk (c : Cal X.prog X.w X.K X.mg X.base k "cell_key" (sp_cell_key X.K) []) (hr : Room j X.A) (hk : k + 2 ≤ j) (hg : Gl X ("sorted" : Str)) (hm : X.mg ("sorted" : Str) = none) (hb : bootBuiltins ("sorted" : Str) = some (.builtin "sorted")) (hg2 : Gl X ("cell_key" : Str)) (ha : PA X [e] t)
    (he : backTo pos (starEach [e] X.env) = (false, eval e X.env) :: backTo pos (starEach [] X.env) := by rfl) (hpl : (backTo pos (starEach [e] X.env)).any (·.1) = false := by rfl) :
    PE X (.Call (.Name ("sorted" : Str) p) [e] [⟨some ("key" : Str), .Name ("cell_key" : Str) p2, kp⟩] pos) (tSortCk X.K t) := by
  obtain ⟨f, fd, ps, ds, F, hmf, kpf, b, d⟩ := c.ex
  cases d
  refine ⟨fun pins s σ H Q I h => ?_⟩
  refine wpAny_Call_Name_kw (ld_blt I hg hm hb ?_ (by decide) (by decide))
  refine PyProof.Rows.callWith_kw (thn (ha.run pos pins s σ H _ I h) fun us s1 ⟨vs, H1, I1, r1, q1⟩ => ?_) he hpl rfl rfl
  show wpAny _ _ (evalAll [(do let v ← eval (.Name ("cell_key" : Str) p2) X.env; standAt pos; pure v)]) _ _ s1
  refine wpAny_evalAll_cons (wpAny_bind (ld_glob I1 hg2 hmf (wpAny_bind (wpAny_standAt (wpAny_pure ?_))) (by decide)))
  refine wpAny_evalAll_nil ?_
  obtain ⟨a, cs, rfl, hs, hc, q⟩ := q1
  rw [Vals.ref1 r1]
  obtain ⟨its, rv, hl, hz⟩ := I1.list hs
  have hlen := rv.length
  have hr2 : Room k X.A.in1.in1 := (hr.mono hk).in1.in1
  show wpAny _ _ (call (.builtin "sorted") [.ref a] [(Str.ofString "key", .ref f)]) _ _ s1
  refine PySem.W.sorted_of_sort hl.isList (by omega) (ksk_s1 _ _) (fun _ => ksk_l1 _ _) fun E' => ?_
  rw [ksk_t1]
  refine key_sort (us := its) (cs := cs) F b hr2 I1 (I1.kept (t' := s1.toks) fun b o e => PySem.W.copyHeap_old e) (PySem.W.copyHeap_at s1.heap its) (Nat.le_succ _) (Heap.lt_size (PySem.W.copyHeap_at s1.heap its)) ?_ rv hc hz fun H2 s2 hn e2 h2 I2 => ⟨rfl, .ref _, H2, I2, rfl, q _ H2 hn e2 h2⟩
  exact Nat.le_of_lt (Nat.lt_of_succ_lt (Heap.lt_size (PySem.W.copyHeap_at s1.heap its)))
end
end Pk
set_option Elab.async false
set_option linter.all false
set_option maxRecDepth 100000
set_option maxHeartbeats 4000000
set_option autoImplicit false
namespace Pk
open PySem PySem.Spec PyProof.Rows L2
/-! ### pressing, in plain lists -/
def abB (cs : List V) : List Int := cs.flatMap cb
theorem abB_len {cs : List V} (h : ∀ c ∈ cs, CellOk c) : (abB cs).length ≤ 23 * cs.length := by
  induction cs with
  | nil => exact Nat.le_refl _
  | cons c r ih =>
    have h1 := cb_len (h c (List.mem_cons_self ..))
    have h2 := ih fun x hx => h x (List.mem_cons_of_mem _ hx)
    show (cb c ++ abB r).length ≤ 23 * (r.length + 1)
    rw [List.length_append]
    omega
theorem abB_snoc (cs : List V) (c : V) : abB (cs ++ [c]) = abB cs ++ cb c := by
  unfold abB
  rw [List.flatMap_append]
  simp
/-! runs -/
def rstep (rs : List (V × Nat)) (c : V) : List (V × Nat) :=
  match rs.getLast? with
  | some r => if decide (r.1 = c) = true then rs.dropLast ++ [(c, r.2 + 1)] else rs ++ [(c, 1)]
  | none => rs ++ [(c, 1)]
def runsOf (cs : List V) : List (V × Nat) := cs.foldl rstep []
def xpd (rs : List (V × Nat)) : List V := rs.flatMap fun r => List.replicate r.2 r.1
theorem runsOf_snoc (cs : List V) (c : V) : runsOf (cs ++ [c]) = rstep (runsOf cs) c := by
  unfold runsOf
  rw [List.foldl_append]
  rfl
theorem rstep_last {rs : List (V × Nat)} {r : V × Nat} (h : rs.getLast? = some r) : rs = rs.dropLast ++ [r] := by
  obtain ⟨l, e⟩ := List.getLast?_eq_some_iff.mp h
  rw [e, List.dropLast_concat]
theorem xpd_rstep (rs : List (V × Nat)) (c : V) : xpd (rstep rs c) = xpd rs ++ [c] := by
  unfold rstep
  cases h : rs.getLast? with
  | none =>
    show xpd (rs ++ [(c, 1)]) = _
    unfold xpd
    rw [List.flatMap_append]
    simp
  | some r =>
    show xpd (if _ then _ else _) = _
    by_cases hc : decide (r.1 = c) = true
    · rw [if_pos hc]
      have e := rstep_last h
      have hc := of_decide_eq_true hc
      unfold xpd
      conv => rhs; rw [e]
      rw [List.flatMap_append, List.flatMap_append, List.append_assoc]
      congr 1
      simp only [List.flatMap_cons, List.flatMap_nil, List.append_nil]
      rw [hc, List.replicate_succ']
    · rw [if_neg hc]
      unfold xpd
      rw [List.flatMap_append]
      simp
theorem xpd_runsOf (cs : List V) : xpd (runsOf cs) = cs := by
  have go : ∀ n, n ≤ cs.length → xpd (runsOf (cs.take n)) = cs.take n := by
    intro n
    induction n with
    | zero => intro _; rfl
    | succ n ih =>
      intro h
      rw [List.take_add_one, List.getElem?_eq_getElem h]
      show xpd (runsOf (cs.take n ++ [cs[n]])) = cs.take n ++ [cs[n]]
      rw [runsOf_snoc, xpd_rstep, ih (by omega)]
  have := go cs.length (Nat.le_refl _)
  rwa [List.take_length] at this
/-- runs of cells as they are: none is empty -/
def RunsIn (rs : List (V × Nat)) (cs : List V) : Prop := ∀ r ∈ rs, r.1 ∈ cs ∧ 1 ≤ r.2 ∧ r.2 ≤ cs.length
theorem len_rstep (rs : List (V × Nat)) (c : V) : (rstep rs c).length ≤ rs.length + 1 := by
  unfold rstep
  cases h : rs.getLast? with
  | none =>
    show (rs ++ [(c, 1)]).length ≤ _
    rw [List.length_append]
    exact Nat.le_refl _
  | some r =>
    show (if _ then _ else _ : List (V × Nat)).length ≤ _
    split
    · rw [List.length_append, List.length_dropLast]
      show rs.length - 1 + 1 ≤ _
      omega
    · rw [List.length_append]
      exact Nat.le_refl _
theorem in_rstep {rs : List (V × Nat)} {cs : List V} {c : V} (h : RunsIn rs cs) : RunsIn (rstep rs c) (cs ++ [c]) := by
  have up : ∀ r ∈ rs, r.1 ∈ cs ++ [c] ∧ 1 ≤ r.2 ∧ r.2 ≤ (cs ++ [c]).length := fun r hr => by
    obtain ⟨h1, h2, h3⟩ := h r hr
    exact ⟨List.mem_append_left _ h1, h2, by rw [List.length_append]; omega⟩
  have one : (c, 1).1 ∈ cs ++ [c] ∧ 1 ≤ (c, 1).2 ∧ (c, 1).2 ≤ (cs ++ [c]).length := ⟨List.mem_append_right _ (by simp), Nat.le_refl _, by rw [List.length_append]; exact Nat.le_add_left ..⟩
  unfold rstep
  cases e : rs.getLast? with
  | none =>
    intro r hr
    rcases List.mem_append.mp hr with hr | hr
    · exact up r hr
    · rw [List.mem_singleton.mp hr]
      exact one
  | some q =>
    show RunsIn (if _ then _ else _) _
    split
    · intro r hr
      rcases List.mem_append.mp hr with hr | hr
      · exact up r (List.dropLast_subset _ hr)
      · rw [List.mem_singleton.mp hr]
        obtain ⟨h1, h2, h3⟩ := h q (List.mem_of_getLast? e)
        refine ⟨List.mem_append_right _ (by simp), Nat.le_add_left .., ?_⟩
        rw [List.length_append]
        show q.2 + 1 ≤ cs.length + 1
        omega
    · intro r hr
      rcases List.mem_append.mp hr with hr | hr
      · exact up r hr
      · rw [List.mem_singleton.mp hr]
        exact one
theorem runs_facts (cs : List V) : ∀ n, n ≤ cs.length → (runsOf (cs.take n)).length ≤ n ∧ RunsIn (runsOf (cs.take n)) (cs.take n)
  | 0, _ => ⟨Nat.le_refl _, fun r hr => by cases hr⟩
  | n + 1, h => by
    obtain ⟨h1, h2⟩ := runs_facts cs n (by omega)
    rw [List.take_add_one, List.getElem?_eq_getElem h]
    show (runsOf (cs.take n ++ [cs[n]])).length ≤ _ ∧ RunsIn (runsOf (cs.take n ++ [cs[n]])) (cs.take n ++ [cs[n]])
    rw [runsOf_snoc]
    exact ⟨Nat.le_trans (len_rstep _ _) (by omega), in_rstep h2⟩
theorem runs_len (cs : List V) : (runsOf cs).length ≤ cs.length := by
  have := (runs_facts cs cs.length (Nat.le_refl _)).1
  rwa [List.take_length] at this
theorem runs_in (cs : List V) : RunsIn (runsOf cs) cs := by
  have := (runs_facts cs cs.length (Nat.le_refl _)).2
  rwa [List.take_length] at this
theorem runs_pos {cs : List V} (h : 0 < cs.length) : 0 < (runsOf cs).length := by
  rcases Nat.eq_zero_or_pos (runsOf cs).length with e | e
  · have := xpd_runsOf cs
    rw [List.eq_nil_of_length_eq_zero e] at this
    rw [← this] at h
    cases h
  · exact e
def rnB (r : V × Nat) : List Int := cb r.1 ++ nb (r.2 : Int)
def runB (cs : List V) : List Int := nb ((runsOf cs).length : Int) ++ (runsOf cs).flatMap rnB
theorem rnB_len {rs : List (V × Nat)} (h : ∀ r ∈ rs, CellOk r.1 ∧ r.2 ≤ 1000) : (rs.flatMap rnB).length ≤ 25 * rs.length := by
  induction rs with
  | nil => exact Nat.le_refl _
  | cons r t ih =>
    obtain ⟨h1, h2⟩ := h r (List.mem_cons_self ..)
    have h3 := cb_len h1
    have h4 := nb_nat_len h2
    have h5 := ih fun x hx => h x (List.mem_cons_of_mem _ hx)
    rw [List.flatMap_cons, List.length_append]
    unfold rnB at h5 ⊢
    rw [List.length_append, List.length_cons]
    omega
/-! books -/
/-- the unlike ones as they are met -/
def metOf (cs : List V) : List V := cs.foldl (fun m c => if decide (c ∈ m) = true then m else m ++ [c]) []
def bookOf (cs : List V) : List V := sortC (metOf cs)
theorem metOf_snoc (cs : List V) (c : V) : metOf (cs ++ [c]) = if decide (c ∈ metOf cs) = true then metOf cs else metOf cs ++ [c] := by
  unfold metOf
  rw [List.foldl_append]
  rfl
theorem met_facts (cs : List V) : ∀ n, n ≤ cs.length → (metOf (cs.take n)).Nodup ∧ (∀ c, c ∈ metOf (cs.take n) ↔ c ∈ cs.take n) ∧ (metOf (cs.take n)).length ≤ n
  | 0, _ => ⟨List.nodup_nil, fun c => Iff.rfl, Nat.le_refl _⟩
  | n + 1, h => by
    obtain ⟨h1, h2, h3⟩ := met_facts cs n (by omega)
    rw [List.take_add_one, List.getElem?_eq_getElem h]
    show (metOf (cs.take n ++ [cs[n]])).Nodup ∧ (∀ c, c ∈ metOf (cs.take n ++ [cs[n]]) ↔ c ∈ cs.take n ++ [cs[n]]) ∧ (metOf (cs.take n ++ [cs[n]])).length ≤ n + 1
    rw [metOf_snoc]
    by_cases hc : decide (cs[n] ∈ metOf (cs.take n)) = true
    · rw [if_pos hc]
      have hc := of_decide_eq_true hc
      refine ⟨h1, fun c => ?_, by omega⟩
      rw [h2, List.mem_append, List.mem_singleton]
      refine ⟨.inl, fun z => z.elim id fun e => ?_⟩
      rw [e]
      exact (h2 _).mp hc
    · rw [if_neg hc]
      have hc : ¬ cs[n] ∈ metOf (cs.take n) := fun z => hc (decide_eq_true z)
      refine ⟨List.nodup_append.mpr ⟨h1, by simp, fun a ha b hb e => ?_⟩, fun c => ?_, ?_⟩
      · rw [List.mem_singleton.mp hb] at e
        exact hc (e ▸ ha)
      · rw [List.mem_append, List.mem_append, h2]
      · rw [List.length_append]
        show _ + 1 ≤ _
        omega
theorem met_all (cs : List V) : (metOf cs).Nodup ∧ (∀ c, c ∈ metOf cs ↔ c ∈ cs) ∧ (metOf cs).length ≤ cs.length := by
  have := met_facts cs cs.length (Nat.le_refl _)
  rwa [List.take_length] at this
theorem book_all (cs : List V) : (bookOf cs).Nodup ∧ (∀ c, c ∈ bookOf cs ↔ c ∈ cs) ∧ (bookOf cs).length ≤ cs.length := by
  obtain ⟨h1, h2, h3⟩ := met_all cs
  have p := sortC_perm (metOf cs)
  exact ⟨p.nodup_iff.mpr h1, fun c => (p.mem_iff).trans (h2 c), by rw [show (bookOf cs).length = (metOf cs).length from p.length_eq]; exact h3⟩
theorem book_pos {cs : List V} (h : 0 < cs.length) : 0 < (bookOf cs).length := by
  obtain ⟨_, h2, _⟩ := book_all cs
  have : cs[0] ∈ bookOf cs := (h2 _).mpr (List.getElem_mem h)
  exact List.length_pos_of_mem this
def plB (cs : List V) : List Int := cs.map fun c => (((bookOf cs).idxOf c : Nat) : Int)
def bookB (cs : List V) : List Int := nb ((bookOf cs).length : Int) ++ abB (bookOf cs) ++ pk (plB cs) (bf ((bookOf cs).length - 1))
theorem pl_inw (cs : List V) : InW (bf ((bookOf cs).length - 1)) (plB cs) := fun n hn => by
  obtain ⟨c, hc, rfl⟩ := List.mem_map.mp hn
  have h1 := List.idxOf_lt_length_of_mem ((book_all cs).2.1 c |>.mpr hc)
  have h2 := bf_lt ((bookOf cs).length - 1)
  refine ⟨Int.natCast_nonneg _, ?_⟩
  have h3 : (bookOf cs).idxOf c < 2 ^ bf ((bookOf cs).length - 1) := by omega
  exact_mod_cast h3
theorem pl_len (cs : List V) : (plB cs).length = cs.length := List.length_map ..
/-! numbers -/
def greatD (ns : List Int) : Int := ns.foldl max 0
theorem greatD_ge : ∀ (ns : List Int) (a : Int), a ≤ ns.foldl max a ∧ ∀ n ∈ ns, n ≤ ns.foldl max a
  | [], a => ⟨Int.le_refl _, fun n hn => by cases hn⟩
  | m :: r, a => by
    obtain ⟨h1, h2⟩ := greatD_ge r (max a m)
    refine ⟨Int.le_trans (Int.le_max_left ..) h1, fun n hn => ?_⟩
    rcases List.mem_cons.mp hn with rfl | hn
    · exact Int.le_trans (Int.le_max_right ..) h1
    · exact h2 n hn
theorem greatD_mem : ∀ (ns : List Int) (a : Int), ns.foldl max a = a ∨ ns.foldl max a ∈ ns
  | [], a => .inl rfl
  | m :: r, a => by
    rcases greatD_mem r (max a m) with h | h
    · show r.foldl max (max a m) = a ∨ r.foldl max (max a m) ∈ m :: r
      rw [h]
      rcases Int.le_total a m with z | z
      · rw [Int.max_eq_right z]; exact .inr (List.mem_cons_self ..)
      · rw [Int.max_eq_left z]; exact .inl rfl
    · exact .inr (List.mem_cons_of_mem _ h)
def wdB (ns : List Int) : Nat := bf (greatD ns).toNat
def smB (ns : List Int) : List Int := (wdB ns : Int) :: pk ns (wdB ns)
theorem sm_inw {ns : List Int} (h : ∀ n ∈ ns, 0 ≤ n) : InW (wdB ns) ns := fun n hn => by
  refine ⟨h n hn, ?_⟩
  have h1 := (greatD_ge ns 0).2 n hn
  have h2 := bf_lt (greatD ns).toNat
  have h3 : n.toNat < 2 ^ bf (greatD ns).toNat := by
    have : n ≤ greatD ns := h1
    omega
  have h4 : ((n.toNat : Nat) : Int) < ((2 ^ bf (greatD ns).toNat : Nat) : Int) := by exact_mod_cast h3
  have h5 := h n hn
  rw [Int.toNat_of_nonneg h5] at h4
  exact_mod_cast h4
theorem wd_le {ns : List Int} (h : ∀ n ∈ ns, n < 4611686018427387904) : wdB ns ≤ 62 := by
  refine bf_le 62 _ ?_
  have h1 : greatD ns < 4611686018427387904 := by
    rcases greatD_mem ns 0 with e | e
    · show ns.foldl max 0 < _
      rw [e]
      decide
    · exact h _ e
  show (greatD ns).toNat < 4611686018427387904
  omega
/-- the least of numbers -/
def leastD (ns : List Int) : Int := match ns with | [] => 0 | n :: r => r.foldl min n
theorem least_le : ∀ (r : List Int) (a : Int), r.foldl min a ≤ a ∧ ∀ n ∈ r, r.foldl min a ≤ n
  | [], a => ⟨Int.le_refl _, fun n hn => by cases hn⟩
  | m :: r, a => by
    obtain ⟨h1, h2⟩ := least_le r (min a m)
    refine ⟨Int.le_trans h1 (Int.min_le_left ..), fun n hn => ?_⟩
    rcases List.mem_cons.mp hn with rfl | hn
    · exact Int.le_trans h1 (Int.min_le_right ..)
    · exact h2 n hn
theorem least_mem : ∀ (r : List Int) (a : Int), r.foldl min a ∈ a :: r
  | [], a => List.mem_cons_self ..
  | m :: r, a => by
    have h := least_mem r (min a m)
    show r.foldl min (min a m) ∈ a :: m :: r
    rcases List.mem_cons.mp h with e | e
    · rw [e]
      rcases Int.le_total a m with z | z
      · rw [Int.min_eq_left z]; exact List.mem_cons_self ..
      · rw [Int.min_eq_right z]; exact List.mem_cons_of_mem _ (List.mem_cons_self ..)
    · exact List.mem_cons_of_mem _ (List.mem_cons_of_mem _ e)
theorem leastD_le {ns : List Int} : ∀ n ∈ ns, leastD ns ≤ n := fun n hn => by
  cases ns with
  | nil => cases hn
  | cons a r =>
    rcases List.mem_cons.mp hn with rfl | hn
    · exact (least_le r _).1
    · exact (least_le r a).2 n hn
theorem leastD_mem {ns : List Int} (h : 0 < ns.length) : leastD ns ∈ ns := by
  cases ns with
  | nil => cases h
  | cons a r => exact least_mem r a
theorem leastD_of {ns : List Int} {m : Int} (h : m ∈ ns) (g : ∀ n ∈ ns, m ≤ n) : m = leastD ns := Int.le_antisymm (g _ (leastD_mem (List.length_pos_of_mem h))) (leastD_le m h)
def bsB (ns : List Int) : List Int := nb (leastD ns) ++ smB (ns.map (· - leastD ns))
def stepsOf (ns : List Int) : List Int := (ns.zip (ns.drop 1)).map fun p => p.2 - p.1
def stB (ns : List Int) : List Int := nb (ns.headD 0) ++ nb (leastD (stepsOf ns)) ++ smB ((stepsOf ns).map (· - leastD (stepsOf ns)))
theorem steps_len (ns : List Int) : (stepsOf ns).length = ns.length - 1 := by
  unfold stepsOf
  rw [List.length_map, List.length_zip, List.length_drop]
  omega
/-- the cells as numbers -/
def nums (cs : List V) : List Int := cs.map fun c => match c with | .int i => i | _ => 0
theorem nums_v {cs : List V} (h : ∀ c ∈ cs, isI c = true) : cs = (nums cs).map V.int := by
  unfold nums
  rw [List.map_map]
  conv => lhs; rw [← List.map_id cs]
  refine List.map_congr_left fun c hc => ?_
  have := h c hc
  cases c <;> first | rfl | cases this
/-- the row by a way, where there is one -/
def pressBy (way : Nat) (cs : List V) : Option (List Int) :=
  if way = 0 then some ((way : Int) :: nb (cs.length : Int) ++ abB cs)
  else if way = 1 then some ((way : Int) :: nb (cs.length : Int) ++ runB cs)
  else if way = 2 then some ((way : Int) :: nb (cs.length : Int) ++ bookB cs)
  else if (!(cs.map isI).all id) = true then none
  else if way = 3 then some ((way : Int) :: nb (cs.length : Int) ++ bsB (nums cs))
  else some ((way : Int) :: nb (cs.length : Int) ++ stB (nums cs))
end Pk
set_option Elab.async false
set_option linter.all false
set_option maxRecDepth 100000
set_option maxHeartbeats 4000000
set_option autoImplicit false
namespace Pk
open PySem PySem.Spec PyProof.Rows L2
open C8 (Cal Met Mak pe_c pe_mk pe_mt pe_mt0 pe_gc)
section
variable {P : Program} {w : World} {K : PySem.W.Frag} {mg : Str → Option Value} {base : Heap} {CG CP upA : Addr}
/-! ### runs_of, book_of, all_bytes -/
/-- runs as pairs -/
def RunsAt (H : Hp) (rs : List (V × Nat)) (xs : List V) : Prop := xs.length = rs.length ∧ ∀ (i : Nat) (r : V × Nat), rs[i]? = some r → ∃ p, xs[i]? = some (.ref p) ∧ H p = some (.tup [r.1, .int (r.2 : Int)])
theorem RunsAt.keep {H H' : Hp} {rs : List (V × Nat)} {xs : List V} (h : RunsAt H rs xs) (e : ∀ p ys, H p = some (.tup ys) → H' p = some (.tup ys)) : RunsAt H' rs xs := ⟨h.1, fun i r hr => by
  obtain ⟨p, h1, h2⟩ := h.2 i r hr
  exact ⟨p, h1, e _ _ h2⟩⟩
theorem RunsAt.ex {H H' : Hp} {rs : List (V × Nat)} {xs : List V} (h : RunsAt H rs xs) (e : Ex H H') : RunsAt H' rs xs := h.keep fun p ys => e p _
theorem tupK {H : Hp} {p q : Addr} {xs ys : List V} {o : HO} (g : H p = some (.lst ys)) (h : H q = some (.tup xs)) : (upd H p o) q = some (.tup xs) := by
  rw [upd_ne (fun e => by rw [e, g] at h; cases h)]
  exact h
theorem RunsAt.snoc {H : Hp} {rs : List (V × Nat)} {xs : List V} {r : V × Nat} {p : Addr} (h : RunsAt H rs xs) (hp : H p = some (.tup [r.1, .int (r.2 : Int)])) : RunsAt H (rs ++ [r]) (xs ++ [.ref p]) := by
  refine ⟨by rw [List.length_append, List.length_append, h.1]; rfl, fun i q hq => ?_⟩
  rcases Nat.lt_or_ge i rs.length with hi | hi
  · rw [List.getElem?_append_left hi] at hq
    rw [List.getElem?_append_left (by rw [h.1]; exact hi)]
    exact h.2 i q hq
  · rw [List.getElem?_append_right hi] at hq
    have hi0 : i - rs.length = 0 := by
      rcases Nat.eq_zero_or_pos (i - rs.length) with e | e
      · exact e
      · rw [List.getElem?_eq_none (by exact e)] at hq; cases hq
    rw [hi0] at hq
    obtain rfl : r = q := Option.some.inj hq
    rw [List.getElem?_append_right (by rw [h.1]; exact hi), h.1, hi0]
    exact ⟨p, rfl, hp⟩
/-- the last run and the others -/
theorem RunsAt.last {H : Hp} {rs : List (V × Nat)} {xs : List V} {r : V × Nat} (h : RunsAt H (rs ++ [r]) xs) : ∃ ys p, xs = ys ++ [.ref p] ∧ RunsAt H rs ys ∧ H p = some (.tup [r.1, .int (r.2 : Int)]) := by
  have hl := h.1
  rw [List.length_append] at hl
  obtain ⟨p, h1, h2⟩ := h.2 rs.length r (by rw [List.getElem?_append_right (Nat.le_refl _), Nat.sub_self]; rfl)
  have hne : xs ≠ [] := fun e => by rw [e] at hl; cases hl
  have hd := List.dropLast_concat_getLast hne
  have hld : xs.dropLast.length = rs.length := by rw [List.length_dropLast, hl]; rfl
  refine ⟨xs.dropLast, p, ?_, ⟨hld, fun i q hq => ?_⟩, h2⟩
  · conv => lhs; rw [← hd]
    congr 2
    rw [← hd, List.getElem?_append_right (by omega), hld, Nat.sub_self] at h1
    exact Option.some.inj h1
  · have hi := lt_of_at hq
    obtain ⟨p2, g1, g2⟩ := h.2 i q (by rw [List.getElem?_append_left hi]; exact hq)
    refine ⟨p2, ?_, g2⟩
    rw [← hd, List.getElem?_append_left (by omega)] at g1
    exact g1
theorem CkV.sc {b : Bool} {x y : V} (h : CkV b x) (g : CkV b y) : scal x y = true := by
  rcases h with rfl | h
  · rcases g with rfl | g
    · rfl
    · cases b <;> obtain ⟨_, rfl⟩ := g <;> rfl
  · rcases g with rfl | g
    · cases b <;> obtain ⟨_, rfl⟩ := h <;> rfl
    · exact h.scal g
def sp_runs_of (K : PySem.W.Frag) : Sp := fun vs H Q _ => ∃ (b : Bool) (a : Addr) (cells : List V), vs = [.ref a] ∧ SqL K H a cells ∧ (∀ c ∈ cells, CkV b c) ∧ cells.length ≤ 1000 ∧
  ∀ p xs H2, H p = none → Ex H H2 → H2 p = some (.lst xs) → RunsAt H2 (runsOf cells) xs → Q (.ref p) H2
theorem ok_runs_of (T : Gf K mg CG CP upA) (D : Dfn K mg "runs_of" s_runs_of)  : Cal P w K mg base 1 "runs_of" (sp_runs_of K) [] := by
  refine cal_mk D sc_runs_of (fun _ _ _ _ _ _ us hl => match us, hl with | [_], _ => rfl) (fun vs H Q E h => ?_) (fun f cdv A outer s H vs Q E hr h => ?_)
  · obtain ⟨_, _, _, rfl, _⟩ := h; rfl
  · obtain ⟨b, a, cells, rfl, hS, hc, hl, q⟩ := h
    refine ⟨_, pss_cons (ps_set (i := 1) sc_runs_of.nd rfl (Or.inl rfl) (pe_lst (pa_nil)))
      (pss_cons (ps_for PassesOwn.never rfl (pi_list (pv 0)) (pg_name (i := 2) sc_runs_of.nd rfl (Or.inl rfl))
        (pss_one (ps_if (PW.pt (pw_and (pt_cmpR op_gt (pe_callB call_len_seq (by rfl) T.len (by decide +kernel) (pa_cons (pv 1) pa_nil)) (pe_int) (nomark _)) (pw_and1 (pt_cmpR op_eq (pe_ix ix_tup (pe_ix ix_list (pv 1) (pe_un un_neg (pe_int)) (fun _ _ => rfl)) (pe_int) (fun _ _ => rfl)) (pv 2) (nomark _))))) (pss_one (ps_asg (pe_tup (pa_cons (pv 2) (pa_cons (pe_op op_add (pe_ix ix_tup (pe_ix ix_list (pv 1) (pe_un un_neg (pe_int)) (fun _ _ => rfl)) (pe_int) (fun _ _ => rfl)) (pe_int)) pa_nil))) (pg_sub (pv 1) (pe_un un_neg (pe_int)) set_list))) (pss_one (ps_expr (pe_bm PySem.F.plainAttrs_list PySem.F.slot_list_append PySem.F.type_list_append mt_append (pv 1) (pa_cons (pe_tup (pa_cons (pv 2) (pa_cons (pe_int) pa_nil))) pa_nil)))))))
      (pss_one (ps_ret (pv 1)))), ?_⟩
    refine ⟨Nat.zero_le _, fun p np => ?_⟩
    have e1 := Ex.n (o := .lst []) np
    refine ⟨_, rfl, _, rfl, ⟨_, exL hS e1⟩, for_it walk_list (fun i σ' H' => Ex H H' ∧ ∃ xs y2, H' p = some (.lst xs) ∧ RunsAt H' (runsOf (cells.take i)) xs ∧ σ' = [some (.ref a), some (.ref p), y2]) ⟨e1, [], none, upd_same, ⟨rfl, fun i r hr => by cases hr⟩, rfl⟩
      (fun i σ' H' _ hI => exL hS hI.1) (fun i x σ' H' H2 hi hI hy => ?_) (fun σ' H' hI => ?_)⟩
    · obtain ⟨e2, xs, y2, hp, hR, rfl⟩ := hI
      obtain ⟨rfl, hx⟩ := hy
      have hcx := hc x (List.mem_of_getElem? hx)
      have hRl := hR.1
      have hf := runs_facts cells i (by omega)
      have e3 : cells.take (i + 1) = cells.take i ++ [x] := by rw [List.take_add_one, hx]; rfl
      refine ⟨_, rfl, _, _, rfl, .inl (lsOf hp), _, _, rfl, rfl, _, rfl, ?_⟩
      cases hg : (runsOf (cells.take i)).getLast? with
      | none =>
        have hn : runsOf (cells.take i) = [] := List.getLast?_eq_none_iff.mp hg
        have hxs : xs = [] := List.eq_nil_of_length_eq_zero (by rw [hRl, hn]; rfl)
        subst hxs
        refine ifF rfl (ifF rfl ?_)
        refine ⟨_, rfl, .inl ⟨rfl, _, .inl (.inl hp)⟩, _, rfl, Nat.le_of_ble_eq_true rfl, fun q2 nq => ?_⟩
        have hpq : p ≠ q2 := ne_of_none hp nq
        have hp3 : (upd H2 q2 (.tup [x, .int 1])) p = some (.lst []) := by rw [upd_ne hpq]; exact hp
        refine ⟨_, _, _, rfl, rfl, hp3, smlt (by show 0 < _; decide), (e2.trans (Ex.n nq)).mut np, [.ref q2], some x, upd_same, ?_, rfl⟩
        rw [e3, runsOf_snoc]
        have er : rstep (runsOf (cells.take i)) x = [] ++ [(x, 1)] := by rw [hn]; rfl
        rw [er]
        exact RunsAt.snoc (xs := []) ⟨rfl, fun i r hr => by cases hr⟩ (tupK hp3 upd_same)
      | some r =>
        have hrs := rstep_last hg
        rw [hrs] at hR
        obtain ⟨ys, pr, rfl, hR2, hpr⟩ := hR.last
        have hrm := hf.2 r (List.mem_of_getLast? hg)
        have hcr := hc r.1 (List.mem_of_mem_take hrm.1)
        have hlx : ys.length ≤ 1000 := by rw [List.length_append] at hRl; omega
        refine ifT (dT (by rw [List.length_append]; show (0 : Int) < ((ys.length + 1 : Nat) : Int); omega)) ?_
        refine ⟨_, rfl, _, rfl, _, _, _, _, rfl, rfl, lsOf hp, atI_last _ _, _, _, _, _, rfl, rfl, tpOf hpr, at_k (k := 0) rfl rfl, _, rfl, hcr.sc hcx, _, rfl, ifB (fun hd => ?_) (fun hd => ?_)⟩
        · have hd' := of_decide_eq_true hd
          refine ⟨_, rfl, _, rfl, _, rfl, _, _, _, _, rfl, rfl, lsOf hp, atI_last _ _, _, _, _, _, rfl, rfl, tpOf hpr, at_k (k := 1) rfl rfl, _, _, rfl, rfl, Nat.le_of_ble_eq_true rfl, fun q2 nq => ?_⟩
          have hpq : p ≠ q2 := ne_of_none hp nq
          have hp3 : (upd H2 q2 (.tup [x, .int ((r.2 : Int) + 1)])) p = some (.lst (ys ++ [.ref pr])) := by rw [upd_ne hpq]; exact hp
          refine ⟨_, rfl, _, rfl, _, _, _, ys.length, rfl, rfl, hp3, ?_, (e2.trans (Ex.n nq)).mut np, ys ++ [.ref q2], some x, ?_, ?_, rfl⟩
          · unfold ixN
            rw [if_neg (by decide), List.length_append]
            show (if _ then _ else _) = _
            rw [if_pos (by show -((ys.length + 1 : Nat) : Int) ≤ -1; omega)]
            congr 1
            show (((ys.length + 1 : Nat) : Int) + -1).toNat = _
            omega
          · rw [upd_same]
            congr 2
            rw [List.set_append_right _ _ (Nat.le_refl _), Nat.sub_self]
            rfl
          · rw [e3, runsOf_snoc]
            have er : rstep (runsOf (cells.take i)) x = (runsOf (cells.take i)).dropLast ++ [(x, r.2 + 1)] := by
              unfold rstep
              rw [hg]
              exact iT hd
            rw [er]
            refine RunsAt.snoc (hR2.keep fun q3 zs h3 => tupK hp3 (Ex.n nq q3 _ h3)) (tupK hp3 ?_)
            rw [upd_same]
            rfl
        · refine ⟨_, rfl, .inl ⟨rfl, _, .inl (.inl hp)⟩, _, rfl, Nat.le_of_ble_eq_true rfl, fun q2 nq => ?_⟩
          have hpq : p ≠ q2 := ne_of_none hp nq
          have hp3 : (upd H2 q2 (.tup [x, .int 1])) p = some (.lst (ys ++ [.ref pr])) := by rw [upd_ne hpq]; exact hp
          refine ⟨_, _, _, rfl, rfl, hp3, smlt (by rw [List.length_append]; show ys.length + 1 < _; omega), (e2.trans (Ex.n nq)).mut np, (ys ++ [.ref pr]) ++ [.ref q2], some x, upd_same, ?_, rfl⟩
          rw [e3, runsOf_snoc]
          have er : rstep (runsOf (cells.take i)) x = runsOf (cells.take i) ++ [(x, 1)] := by
            unfold rstep
            rw [hg]
            exact iF hd
          rw [er, hrs]
          exact RunsAt.snoc (hR.keep fun q3 zs h3 => tupK hp3 (Ex.n nq q3 _ h3)) (tupK hp3 upd_same)
    · obtain ⟨e2, xs, y2, hp, hR, rfl⟩ := hI
      rw [List.take_length] at hR
      exact ⟨_, rfl, q p xs H' np e2 hp hR⟩
/-! cells as keys of a dict -/
def nk : V → NKey
  | .int i => some (.inl i)
  | .str z => some (.inr z)
  | _ => none
theorem nV_nk {c : V} (h : CellOk c) : nV (nk c) = c := by
  rcases h.cases with rfl | ⟨i, rfl, _⟩ | ⟨z, rfl, _⟩ <;> rfl
theorem nk_inj {c d : V} (h : CellOk c) (g : CellOk d) (e : nk c = nk d) : c = d := by rw [← nV_nk h, ← nV_nk g, e]
def mtK (l : List V) : List (NKey × V) := l.map fun c => (nk c, .bl true)
theorem put_mt {l : List V} {c : V} (hl : ∀ x ∈ l, CellOk x) (hc : CellOk c) : putK (mtK l) (nk c) (.bl true) = mtK (if decide (c ∈ l) = true then l else l ++ [c]) := by
  unfold putK
  by_cases h : c ∈ l
  · rw [if_pos (by
      rw [List.any_eq_true]
      exact ⟨(nk c, .bl true), List.mem_map.mpr ⟨c, h, rfl⟩, by simp⟩), if_pos (decide_eq_true h)]
    unfold mtK
    rw [List.map_map]
    refine List.map_congr_left fun x _ => ?_
    show (if nk x = nk c then (nk x, V.bl true) else (nk x, V.bl true)) = _
    split <;> rfl
  · rw [if_neg (fun z => by
      rw [List.any_eq_true] at z
      obtain ⟨q, hq, hd⟩ := z
      obtain ⟨x, hx, rfl⟩ := List.mem_map.mp hq
      have e := nk_inj (hl x hx) hc (of_decide_eq_true hd)
      exact h (e ▸ hx)), if_neg (fun z => h (of_decide_eq_true z))]
    unfold mtK
    rw [List.map_append]
    rfl
def sp_book_of (K : PySem.W.Frag) : Sp := fun vs H Q _ => ∃ (a : Addr) (cells : List V), vs = [.ref a] ∧ SqL K H a cells ∧ (∀ c ∈ cells, CellOk c) ∧ cells.length ≤ 1000 ∧ GL (bookOf cells) H Q
theorem ok_book_of (T : Gf K mg CG CP upA) (D : Dfn K mg "book_of" s_book_of) (c_cell_key : Cal P w K mg base 2 "cell_key" (sp_cell_key K) []) : Cal P w K mg base 5 "book_of" (sp_book_of K) [] := by
  refine cal_mk D sc_book_of (fun _ _ _ _ _ _ us hl => match us, hl with | [_], _ => rfl) (fun vs H Q E h => ?_) (fun f cdv A outer s H vs Q E hr h => ?_)
  · obtain ⟨_, _, rfl, _⟩ := h; rfl
  · obtain ⟨a, cells, rfl, hS, hc, hl, q⟩ := h
    refine ⟨_, pss_cons (ps_set (i := 1) sc_book_of.nd rfl (Or.inl rfl) (pe_dnewN))
      (pss_cons (ps_for PassesOwn.never rfl (pi_list (pv 0)) (pg_name (i := 2) sc_book_of.nd rfl (Or.inl rfl))
        (pss_one (ps_nput (pv 1) (pv 2) (pe_bl) rfl)))
      (pss_one (ps_ret (pe_sortCk c_cell_key hr (by decide) (by rfl) T.sorted (by decide +kernel) (by rfl) (pa_cons (pe_callTy (call_listN rfl) (by rfl) T.list (by decide +kernel) (pa_cons (pv 1) pa_nil)) pa_nil))))), ?_⟩
    refine fun d nd => ?_
    have e1 : Ex H (upd H d (DN P w d [])) := Ex.n nd
    refine ⟨_, rfl, _, rfl, ⟨_, exL hS e1⟩, for_it walk_list (fun i σ' H' => Ex H H' ∧ H' d = some (DN P w d (mtK (metOf (cells.take i)))) ∧ ∃ y2, σ' = [some (.ref a), some (.ref d), y2]) ⟨e1, upd_same, none, rfl⟩
      (fun i σ' H' _ hI => exL hS hI.1) (fun i x σ' H' H2 hi hI hy => ?_) (fun σ' H' hI => ?_)⟩
    · obtain ⟨e2, hd, y2, rfl⟩ := hI
      obtain ⟨rfl, hx⟩ := hy
      have hcx := hc x (List.mem_of_getElem? hx)
      have hf := met_facts cells i (by omega)
      refine ⟨_, rfl, _, rfl, _, _, nk x, rfl, (nV_nk hcx).symm, hd, smlt (by unfold mtK; rw [List.length_map]; omega), e2.mut nd, ?_, some x, rfl⟩
      rw [upd_same, put_mt (fun y hy => hc y (List.mem_of_mem_take ((hf.2.1 y).mp hy))) hcx, ← metOf_snoc, List.take_add_one, hx]
      rfl
    · obtain ⟨e2, hd, y2, rfl⟩ := hI
      rw [List.take_length] at hd
      have hf := met_all cells
      have hm : ∀ c ∈ metOf cells, CellOk c := fun c h => hc c ((hf.2.1 c).mp h)
      have em : (mtK (metOf cells)).map (fun kv => nV kv.1) = metOf cells := by
        unfold mtK
        rw [List.map_map]
        conv => rhs; rw [← List.map_id (metOf cells)]
        exact List.map_congr_left fun c h => nV_nk (hm c h)
      refine ⟨_, rfl, _, _, rfl, hd, fun p np => ?_⟩
      rw [em]
      exact ⟨_, _, rfl, lsOf upd_same, hm, fun p2 H2 np2 e3 h2 => q p2 H2 (Evl.fresh_back (e2.trans (Ex.n np)) np2) ((e2.trans (Ex.n np)).trans e3) h2⟩
def sp_all_bytes (K : PySem.W.Frag) : Sp := fun vs H Q _ => ∃ (a : Addr) (cells : List V), vs = [.ref a] ∧ SqL K H a cells ∧ (∀ c ∈ cells, CellOk c) ∧ cells.length ≤ 1000 ∧ GL ((abB cells).map V.int) H Q
theorem ok_all_bytes (T : Gf K mg CG CP upA) (D : Dfn K mg "all_bytes" s_all_bytes) (c_cell_bytes : Cal P w K mg base 3 "cell_bytes" (sp_cell_bytes K) []) : Cal P w K mg base 4 "all_bytes" (sp_all_bytes K) [] := by
  refine cal_mk D sc_all_bytes (fun _ _ _ _ _ _ us hl => match us, hl with | [_], _ => rfl) (fun vs H Q E h => ?_) (fun f cdv A outer s H vs Q E hr h => ?_)
  · obtain ⟨_, _, rfl, _⟩ := h; rfl
  · obtain ⟨a, cells, rfl, hS, hc, hl, q⟩ := h
    refine ⟨_, pss_cons (ps_set (i := 1) sc_all_bytes.nd rfl (Or.inl rfl) (pe_lst (pa_nil)))
      (pss_cons (ps_for PassesOwn.never rfl (pi_list (pv 0)) (pg_name (i := 2) sc_all_bytes.nd rfl (Or.inl rfl))
        (pss_one (ps_expr (pe_bm PySem.F.plainAttrs_list PySem.F.slot_list_extend PySem.F.type_list_extend mt_extend (pv 1) (pa_cons (pe_c c_cell_bytes hr (by decide) (by rfl) (pa_cons (pv 2) pa_nil)) pa_nil)))))
      (pss_one (ps_ret (pv 1)))), ?_⟩
    refine ⟨Nat.zero_le _, fun p np => ?_⟩
    have e1 := Ex.n (o := .lst []) np
    refine ⟨_, rfl, _, rfl, ⟨_, exL hS e1⟩, for_it walk_list (fun i σ' H' => Ex H H' ∧ H' p = some (.lst ((abB (cells.take i)).map V.int)) ∧ ∃ y2, σ' = [some (.ref a), some (.ref p), y2]) ⟨e1, upd_same, none, rfl⟩
      (fun i σ' H' _ hI => exL hS hI.1) (fun i x σ' H' H2 hi hI hy => ?_) (fun σ' H' hI => ?_)⟩
    · obtain ⟨e2, hd, y2, rfl⟩ := hI
      obtain ⟨rfl, hx⟩ := hy
      have hcx := hc x (List.mem_of_getElem? hx)
      refine ⟨_, rfl, .inl ⟨rfl, _, .inl (.inl hd)⟩, _, rfl, x, rfl, hcx, fun p2 H3 np2 e3 hp2 => ?_⟩
      have hle := abB_len (cs := cells.take i) fun y hy => hc y (List.mem_of_mem_take hy)
      have hle2 := cb_len hcx
      rw [List.length_take] at hle
      refine ⟨_, _, _, _, rfl, rfl, e3 _ _ hd, hp2, sml (by rw [List.length_map, List.length_map]; omega), (e2.trans e3).mut np, ?_, some x, rfl⟩
      rw [upd_same, ← List.map_append (f := V.int), ← abB_snoc, List.take_add_one, hx]
      rfl
    · obtain ⟨e2, hd, y2, rfl⟩ := hI
      rw [List.take_length] at hd
      exact ⟨_, rfl, q p H' np e2 hd⟩
end
end Pk
set_option Elab.async false
set_option linter.all false
set_option maxRecDepth 100000
set_option maxHeartbeats 4000000
set_option autoImplicit false
namespace Pk
open PySem PySem.Spec PyProof.Rows L2
open C8 (Cal Met Mak pe_c pe_mk pe_mt pe_mt0 pe_gc)
section
variable {P : Program} {w : World} {K : PySem.W.Frag} {mg : Str → Option Value} {base : Heap} {CG CP upA : Addr}
/-! ### run_bytes, book_bytes, small_bytes, base_bytes, step_bytes -/
theorem rnB_snoc (rs : List (V × Nat)) (r : V × Nat) : (rs ++ [r]).flatMap rnB = rs.flatMap rnB ++ rnB r := by
  rw [List.flatMap_append]
  simp
def sp_run_bytes (K : PySem.W.Frag) : Sp := fun vs H Q _ => ∃ (b : Bool) (a : Addr) (cells : List V), vs = [.ref a] ∧ SqL K H a cells ∧ (∀ c ∈ cells, CkV b c) ∧ (∀ c ∈ cells, CellOk c) ∧ cells.length ≤ 1000 ∧ GL ((runB cells).map V.int) H Q
theorem ok_run_bytes (T : Gf K mg CG CP upA) (D : Dfn K mg "run_bytes" s_run_bytes) (c_runs_of : Cal P w K mg base 1 "runs_of" (sp_runs_of K) []) (c_number_bytes : Cal P w K mg base 1 "number_bytes" (sp_number_bytes K) []) (c_cell_bytes : Cal P w K mg base 3 "cell_bytes" (sp_cell_bytes K) []) : Cal P w K mg base 4 "run_bytes" (sp_run_bytes K) [] := by
  refine cal_mk D sc_run_bytes (fun _ _ _ _ _ _ us hl => match us, hl with | [_], _ => rfl) (fun vs H Q E h => ?_) (fun f cdv A outer s H vs Q E hr h => ?_)
  · obtain ⟨_, _, _, rfl, _⟩ := h; rfl
  · obtain ⟨b, a, cells, rfl, hS, hk, hc, hl, q⟩ := h
    refine ⟨_, pss_cons (ps_set (i := 1) sc_run_bytes.nd rfl (Or.inl rfl) (pe_c c_runs_of hr (by decide) (by rfl) (pa_cons (pv 0) pa_nil)))
      (pss_cons (ps_set (i := 2) sc_run_bytes.nd rfl (Or.inl rfl) (pe_c c_number_bytes hr (by decide) (by rfl) (pa_cons (pe_callB call_len_seq (by rfl) T.len (by decide +kernel) (pa_cons (pv 1) pa_nil)) pa_nil)))
      (pss_cons (ps_for PassesOwn.never rfl (pi_list (pv 1)) (pg_tup (by rfl) (pgs_cons (pg_name (i := 3) sc_run_bytes.nd rfl (Or.inl rfl)) (pgs_cons (pg_name (i := 4) sc_run_bytes.nd rfl (Or.inl rfl)) pgs_nil)))
        (pss_one (ps_expr (pe_bm PySem.F.plainAttrs_list PySem.F.slot_list_extend PySem.F.type_list_extend mt_extend (pv 2) (pa_cons (pe_op op_cat (pe_c c_cell_bytes hr (by decide) (by rfl) (pa_cons (pv 3) pa_nil)) (pe_c c_number_bytes hr (by decide) (by rfl) (pa_cons (pv 4) pa_nil))) pa_nil)))))
      (pss_one (ps_ret (pv 2))))), ?_⟩
    have hrl := runs_len cells
    have hri := runs_in cells
    refine ⟨_, rfl, b, a, cells, rfl, hS, hk, hl, fun p xs H1 np e1 hp hR => ?_⟩
    refine ⟨_, rfl, _, _, rfl, .inl (lsOf hp), _, rfl, Sm.nat (by rw [hR.1]; omega), fun p2 H2 np2 e2 hp2 => ?_⟩
    rw [hR.1] at hp2
    have hnl := nb_nat_len (n := (runsOf cells).length) (by omega)
    refine ⟨_, rfl, _, rfl, ⟨_, lsOf (e2 _ _ hp)⟩, for_it walk_list (fun i σ' H' => Ex H1 H' ∧ H' p2 = some (.lst ((nb ((runsOf cells).length : Int) ++ ((runsOf cells).take i).flatMap rnB).map V.int)) ∧ ∃ y3 y4, σ' = [some (.ref a), some (.ref p), some (.ref p2), y3, y4]) ⟨e2, ?_, none, none, rfl⟩
      (fun i σ' H' _ hI => lsOf (hI.1 _ _ hp)) (fun i x σ' H' H3 hi hI hy => ?_) (fun σ' H' hI => ?_)⟩
    · rw [hp2, List.take_zero]
      simp
    · obtain ⟨e3, hd, y3, y4, rfl⟩ := hI
      obtain ⟨rfl, hx⟩ := hy
      have hir : i < (runsOf cells).length := by rw [← hR.1]; exact hi
      have hri2 : (runsOf cells)[i]? = some (runsOf cells)[i] := List.getElem?_eq_getElem hir
      obtain ⟨pr, h1, h2⟩ := hR.2 i _ hri2
      have ex : x = .ref pr := Option.some.inj (hx.symm.trans h1)
      subst ex
      obtain ⟨m1, m2, m3⟩ := hri _ (List.mem_of_getElem? hri2)
      have hcr := hc _ m1
      refine ⟨_, _, rfl, tpOf (e3 _ _ h2), rfl, _, _, rfl, _, _, rfl, rfl, ?_⟩
      refine ⟨_, rfl, .inl ⟨rfl, _, .inl (.inl hd)⟩, _, rfl, _, rfl, hcr, fun p4 H4 np4 e4 hp4 => ?_⟩
      refine ⟨_, rfl, _, rfl, Sm.nat (by omega), fun p5 H5 np5 e5 hp5 => ?_⟩
      have hb1 := cb_len hcr
      have hb2 := nb_nat_len (n := (runsOf cells)[i].2) (by omega)
      refine ⟨_, _, _, _, rfl, rfl, e5 _ _ hp4, hp5, sml (by rw [List.length_map, List.length_map]; omega), fun p6 np6 => ?_⟩
      have hle := rnB_len (rs := (runsOf cells).take i) fun r hr => by
        obtain ⟨m1, _, m3⟩ := hri r (List.mem_of_mem_take hr)
        exact ⟨hc _ m1, by omega⟩
      rw [List.length_take] at hle
      have hd5 := e5 _ _ (e4 _ _ hd)
      refine ⟨_, _, _, _, rfl, rfl, Ex.n np6 _ _ hd5, upd_same, sml (by simp only [List.length_append, List.length_map]; omega), ?_, ?_, _, _, rfl⟩
      · exact (((e3.trans e4).trans e5).trans (Ex.n np6)).mut np2
      · rw [upd_same, List.take_add_one, hri2]
        show some (HO.lst _) = some (HO.lst (List.map V.int (nb _ ++ ((runsOf cells).take i ++ [(runsOf cells)[i]]).flatMap rnB)))
        rw [rnB_snoc]
        unfold rnB
        simp only [List.map_append, List.append_assoc]
    · obtain ⟨e3, hd, y3, y4, rfl⟩ := hI
      rw [hR.1, List.take_length] at hd
      exact ⟨_, rfl, q p2 H' (Evl.fresh_back e1 np2) (e1.trans e3) hd⟩
/-! the places of a book -/
def plK : Nat → List V → List (NKey × V)
  | _, [] => []
  | n, c :: r => (nk c, .int (n : Int)) :: plK (n + 1) r
theorem plK_snoc (c : V) : ∀ (l : List V) (n : Nat), plK n (l ++ [c]) = plK n l ++ [(nk c, .int ((n + l.length : Nat) : Int))]
  | [], n => rfl
  | d :: r, n => by
    show _ :: plK (n + 1) (r ++ [c]) = _ :: (plK (n + 1) r ++ _)
    rw [plK_snoc c r (n + 1), List.length_cons, show n + 1 + r.length = n + (r.length + 1) by omega]
theorem plK_len : ∀ (l : List V) (n : Nat), (plK n l).length = l.length
  | [], _ => rfl
  | _ :: r, n => congrArg (· + 1) (plK_len r (n + 1))
theorem plK_none {c : V} (hc : CellOk c) : ∀ {l : List V} {n : Nat}, (∀ x ∈ l, CellOk x) → c ∉ l → valV (plK n l) (nk c) = none
  | [], _, _, _ => rfl
  | d :: r, n, hl, h => by
    have hd : nk d ≠ nk c := fun e => h (by rw [nk_inj (hl d (List.mem_cons_self ..)) hc e]; exact List.mem_cons_self ..)
    have ih := plK_none hc (l := r) (n := n + 1) (fun x hx => hl x (List.mem_cons_of_mem _ hx)) (fun z => h (List.mem_cons_of_mem _ z))
    show valV ((nk d, V.int (n : Int)) :: plK (n + 1) r) (nk c) = none
    unfold valV at ih ⊢
    rw [List.find?_cons, decide_eq_false (show ¬ (nk d, V.int (n : Int)).1 = nk c from hd)]
    exact ih
theorem plK_some {c : V} (hc : CellOk c) : ∀ {l : List V} {n : Nat}, (∀ x ∈ l, CellOk x) → c ∈ l → valV (plK n l) (nk c) = some (.int ((n + l.idxOf c : Nat) : Int))
  | d :: r, n, hl, h => by
    show valV ((nk d, V.int (n : Int)) :: plK (n + 1) r) (nk c) = _
    by_cases e : d = c
    · subst e
      rw [valV_pos rfl, List.idxOf_cons_self]
      rfl
    · have hd : nk d ≠ nk c := fun z => e (nk_inj (hl d (List.mem_cons_self ..)) hc z)
      have ih := plK_some hc (l := r) (n := n + 1) (fun x hx => hl x (List.mem_cons_of_mem _ hx)) ((List.mem_cons.mp h).resolve_left (Ne.symm e))
      unfold valV at ih ⊢
      rw [List.find?_cons, decide_eq_false (show ¬ (nk d, V.int (n : Int)).1 = nk c from hd)]
      refine ih.trans ?_
      have hbe : (d == c) = false := beq_eq_false_iff_ne.mpr e
      rw [List.idxOf_cons, hbe]
      show some (V.int ((n + 1 + r.idxOf c : Nat) : Int)) = some (V.int ((n + (r.idxOf c + 1) : Nat) : Int))
      rw [show n + 1 + r.idxOf c = n + (r.idxOf c + 1) by omega]
def sp_book_bytes (K : PySem.W.Frag) : Sp := fun vs H Q _ => ∃ (a : Addr) (cells : List V), vs = [.ref a] ∧ SqL K H a cells ∧ (∀ c ∈ cells, CellOk c) ∧ 1 ≤ cells.length ∧ cells.length ≤ 64 ∧ GL ((bookB cells).map V.int) H Q
theorem ok_book_bytes (T : Gf K mg CG CP upA) (D : Dfn K mg "book_bytes" s_book_bytes) (c_book_of : Cal P w K mg base 5 "book_of" (sp_book_of K) []) (c_packed : Cal P w K mg base 2 "packed" (sp_packed K) []) (c_bits_for : Cal P w K mg base 1 "bits_for" (sp_bits_for K) []) (c_number_bytes : Cal P w K mg base 1 "number_bytes" (sp_number_bytes K) []) (c_all_bytes : Cal P w K mg base 4 "all_bytes" (sp_all_bytes K) []) : Cal P w K mg base 6 "book_bytes" (sp_book_bytes K) [] := by
  refine cal_mk D sc_book_bytes (fun _ _ _ _ _ _ us hl => match us, hl with | [_], _ => rfl) (fun vs H Q E h => ?_) (fun f cdv A outer s H vs Q E hr h => ?_)
  · obtain ⟨_, _, rfl, _⟩ := h; rfl
  · obtain ⟨a, cells, rfl, hS, hc, h1, hl, q⟩ := h
    refine ⟨_, pss_cons (ps_set (i := 1) sc_book_bytes.nd rfl (Or.inl rfl) (pe_c c_book_of hr (by decide) (by rfl) (pa_cons (pv 0) pa_nil)))
      (pss_cons (ps_set (i := 2) sc_book_bytes.nd rfl (Or.inr rfl) (pe_dnewN))
      (pss_cons (ps_for PassesOwn.never rfl (pi_enum (by rfl) T.enumerate (pa_cons (pv 1) pa_nil)) (pg_tup (by rfl) (pgs_cons (pg_name (i := 3) sc_book_bytes.nd rfl (Or.inl rfl)) (pgs_cons (pg_name (i := 4) sc_book_bytes.nd rfl (Or.inl rfl)) pgs_nil)))
        (pss_one (ps_nput (pv 2) (pv 4) (pv 3) rfl)))
      (pss_cons (ps_set (i := 5) sc_book_bytes.nd rfl (Or.inl rfl) (pe_c c_packed hr (by decide) (by rfl) (pa_cons (pe_lc (own := [("cell", 4)]) (g := gName 4) (tt := tYes) (te := (tNGet P w _ _)) (by rfl) sc_book_bytes.nd (pi_list (pv 0)) (blkOk_by (N := N_book_bytes) (sc := defScope s_book_bytes) (by decide +kernel)) (fun _ _ _ _ _ => pg_name (i := 4) sc_book_bytes.nd rfl (Or.inl rfl)) (fun _ _ _ _ _ => pts_nil) (fun _ _ _ _ _ => pe_nget (pv 2) (pv 4) (fun _ _ => rfl))) (pa_cons (pe_c c_bits_for hr (by decide) (by rfl) (pa_cons (pe_op op_sub (pe_callB call_len_seq (by rfl) T.len (by decide +kernel) (pa_cons (pv 1) pa_nil)) (pe_int)) pa_nil)) pa_nil))))
      (pss_one (ps_ret (pe_op op_cat (pe_op op_cat (pe_c c_number_bytes hr (by decide) (by rfl) (pa_cons (pe_callB call_len_seq (by rfl) T.len (by decide +kernel) (pa_cons (pv 1) pa_nil)) pa_nil)) (pe_c c_all_bytes hr (by decide) (by rfl) (pa_cons (pv 1) pa_nil))) (pv 5))))))), ?_⟩
    obtain ⟨hnd, hmem, hbl⟩ := book_all cells
    have hb1 := book_pos h1
    have hcb : ∀ c ∈ bookOf cells, CellOk c := fun c h => hc c ((hmem c).mp h)
    refine ⟨_, rfl, a, cells, rfl, hS, hc, by omega, fun p H1 np e1 hp => ?_⟩
    refine fun d nd => ?_
    have e2 : Ex H1 (upd H1 d (DN P w d [])) := Ex.n nd
    refine ⟨_, rfl, _, _, rfl, lsOf (e2 _ _ hp), for_it walk_enum (fun i σ' H' => Ex H1 H' ∧ H' d = some (DN P w d (plK 0 ((bookOf cells).take i))) ∧ ∃ y3 y4, σ' = [some (.ref a), some (.ref p), some (.ref d), y3, y4, none]) ⟨e2, upd_same, none, none, rfl⟩
      (fun i σ' H' _ hI => lsOf (hI.1 _ _ hp)) (fun i x σ' H' H3 hi hI hy => ?_) (fun σ' H' hI => ?_)⟩
    · obtain ⟨e3, hd, y3, y4, rfl⟩ := hI
      obtain ⟨T', x1, c, rfl, nT, rfl, ex1, hx⟩ := hy
      obtain rfl := Option.some.inj ex1
      have hx : (bookOf cells)[i]? = some c := hx
      have hcc := hcb c (List.mem_of_getElem? hx)
      have hil : i < (bookOf cells).length := hi
      have hlt : ((bookOf cells).take i).length = i := by rw [List.length_take]; omega
      have hno : c ∉ (bookOf cells).take i := fun z => by
        obtain ⟨j, hj, ej⟩ := List.getElem_of_mem z
        rw [hlt] at hj
        rw [List.getElem_take] at ej
        have := (List.getElem_inj hnd (h₀ := by omega) (h₁ := hil)).mp (ej.trans (Option.some.inj ((List.getElem?_eq_getElem hil).symm.trans hx)).symm)
        omega
      refine ⟨_, _, rfl, tpOf upd_same, rfl, _, _, rfl, _, _, rfl, rfl, ?_⟩
      refine ⟨_, rfl, _, rfl, _, rfl, _, _, nk c, rfl, (nV_nk hcc).symm, Ex.n nT _ _ hd, smlt (by rw [plK_len]; omega), (e3.trans (Ex.n nT)).mut nd, ?_, _, _, rfl⟩
      rw [upd_same, putK_new _ (plK_none hcc (fun y hy => hcb y (List.mem_of_mem_take hy)) hno), List.take_add_one, hx]
      show some (DN P w d _) = some (DN P w d (plK 0 ((bookOf cells).take i ++ [c])))
      rw [plK_snoc, hlt, Nat.zero_add]
    · obtain ⟨e3, hd, y3, y4, rfl⟩ := hI
      rw [List.take_length] at hd
      have e13 := e1.trans e3
      refine ⟨_, rfl, _, rfl, ⟨_, exL hS e13⟩, fun d2 nd2 => ?_⟩
      refine lc_it walk_list (fun i H'' => Ex H' H'' ∧ H'' d2 = some (.lst (((plB cells).take i).map V.int))) ⟨Ex.n nd2, upd_same⟩ (fun i H'' hi hI => exL hS (e13.trans hI.1)) (fun i x H'' H2 hi hI hy => ?_) (fun H'' hI => ?_)
      · obtain ⟨e4, hd4⟩ := hI
        obtain ⟨rfl, hx⟩ := hy
        have hcx := hc x (List.mem_of_getElem? hx)
        have hxb : x ∈ bookOf cells := (hmem x).mpr (List.mem_of_getElem? hx)
        refine ⟨rfl, ?_⟩
        refine ⟨_, rfl, _, rfl, _, _, nk x, _, rfl, (nV_nk hcx).symm, e4 _ _ hd, plK_some hcx hcb hxb, ?_⟩
        refine ⟨_, hd4, smlt (by rw [List.length_map, List.length_take]; omega), e4.mut nd2, ?_⟩
        rw [upd_same, List.take_add_one, Nat.zero_add]
        unfold plB
        rw [List.getElem?_map, hx, List.map_append (f := V.int)]
        rfl
      · obtain ⟨e4, hd4⟩ := hI
        have hpl := pl_len cells
        rw [← hpl, List.take_length] at hd4
        have hp4 := e4 _ _ (e3 _ _ hp)
        refine ⟨_, rfl, _, _, rfl, .inl (lsOf hp4), _, _, rfl, rfl, _, (bookOf cells).length - 1, rfl, by omega, _, _, plB cells, _, rfl, rfl, lsOf hd4, by omega, ?_, fun p5 H5 np5 e5 hp5 => ?_⟩
        · exact bf_le _ _ (by
            have : (2 : Nat) ^ 62 = 4611686018427387904 := by decide
            omega)
        · refine ⟨_, rfl, _, _, rfl, .inl (lsOf (e5 _ _ hp4)), _, rfl, Sm.nat (by omega), fun p6 H6 np6 e6 hp6 => ?_⟩
          refine ⟨_, rfl, _, _, rfl, lsOf (e6 _ _ (e5 _ _ hp4)), hcb, by omega, fun p7 H7 np7 e7 hp7 => ?_⟩
          have hl6 := nb_nat_len (n := (bookOf cells).length) (by omega)
          have hl7 := abB_len hcb
          have hl5 : (pk (plB cells) (bf ((bookOf cells).length - 1))).length ≤ 1000 := by
            rw [pk_len]
            unfold bc
            have : bf ((bookOf cells).length - 1) ≤ 62 := bf_le _ _ (by
              have : (2 : Nat) ^ 62 = 4611686018427387904 := by decide
              omega)
            have := Nat.mul_le_mul (show (plB cells).length ≤ 64 by omega) this
            omega
          refine ⟨_, _, _, _, rfl, rfl, e7 _ _ hp6, hp7, sml (by simp only [List.length_map]; omega), fun p8 np8 => ?_⟩
          refine ⟨_, rfl, _, _, _, _, rfl, rfl, upd_same, Ex.n np8 _ _ (e7 _ _ (e6 _ _ hp5)), sml (by simp only [List.length_map, List.length_append]; omega), fun p9 np9 => ?_⟩
          exact (q.to (by unfold bookB; rw [List.map_append, List.map_append])).go (((((e13.trans e4).trans e5).trans e6).trans e7).trans (Ex.n np8)) np9
theorem ints_kd {ns : List Int} : ∀ c ∈ ns.map V.int, KdV true c := fun c hc => by
  obtain ⟨n, _, rfl⟩ := List.mem_map.mp hc
  exact ⟨n, rfl⟩
theorem great_of {ns : List Int} {m : Int} (hm : m ∈ ns) (h0 : ∀ n ∈ ns, 0 ≤ n) (hle : ∀ y ∈ ns.map V.int, vlt (.int m) y = false) : m = greatD ns := by
  have g := fun n (hn : n ∈ ns) => of_decide_eq_false (hle _ (List.mem_map.mpr ⟨n, hn, rfl⟩))
  refine Int.le_antisymm ((greatD_ge ns 0).2 m hm) ?_
  rcases greatD_mem ns 0 with e | e
  · show ns.foldl max 0 ≤ m
    rw [e]
    exact h0 m hm
  · have := g _ e
    show ns.foldl max 0 ≤ m
    omega
def sp_small_bytes (K : PySem.W.Frag) : Sp := fun vs H Q _ => ∃ (a : Addr) (ns : List Int), vs = [.ref a] ∧ SqL K H a (ns.map V.int) ∧ ns.length ≤ 64 ∧ (∀ n ∈ ns, 0 ≤ n ∧ n < 4611686018427387904) ∧ GL ((smB ns).map V.int) H Q
theorem ok_small_bytes (T : Gf K mg CG CP upA) (D : Dfn K mg "small_bytes" s_small_bytes) (c_bits_for : Cal P w K mg base 1 "bits_for" (sp_bits_for K) []) (c_packed : Cal P w K mg base 2 "packed" (sp_packed K) []) : Cal P w K mg base 3 "small_bytes" (sp_small_bytes K) [] := by
  refine cal_mk D sc_small_bytes (fun _ _ _ _ _ _ us hl => match us, hl with | [_], _ => rfl) (fun vs H Q E h => ?_) (fun f cdv A outer s H vs Q E hr h => ?_)
  · obtain ⟨_, _, rfl, _⟩ := h; rfl
  · obtain ⟨a, ns, rfl, hS, hl, hb, q⟩ := h
    refine ⟨_, pss_cons (ps_set (i := 1) sc_small_bytes.nd rfl (Or.inl rfl) (pe_c c_bits_for hr (by decide) (by rfl) (pa_cons (pe_callBK (crk_max rfl) (by rfl) T.max (by decide +kernel) (pa_cons (pv 0) pa_nil) (pk_cons (pe_int) pk_nil)) pa_nil)))
      (pss_one (ps_ret (pe_op op_cat (pe_lst (pa_cons (pv 1) pa_nil)) (pe_c c_packed hr (by decide) (by rfl) (pa_cons (pv 0) (pa_cons (pv 1) pa_nil)))))), ?_⟩
    have hw := wd_le (ns := ns) fun n hn => (hb n hn).2
    have rest : ∀ m : Int, m = greatD ns → ∃ (i : Int) (n : Nat), [V.int m] = [.int i] ∧ i = (n : Int) ∧ bf n = wdB ns := fun m e => ⟨m, (greatD ns).toNat, rfl, by
      rw [e]
      have := (greatD_ge ns 0).1
      show ns.foldl max 0 = ((ns.foldl max 0).toNat : Int)
      omega, rfl⟩
    have hgo : ∀ m : Int, m = greatD ns → (sp_bits_for K) [.int m] H (fun v H2 => v = .int (wdB ns : Int) ∧ H2 = H) C8.E0 := fun m e => by
      obtain ⟨i, n, e1, e2, e3⟩ := rest m e
      refine ⟨i, n, e1, e2, ?_, rfl⟩
      rw [e3]
    have fin : ∀ m : Int, m = greatD ns → ∃ (i : Int) (n : Nat), [V.int m] = [V.int i] ∧ i = (n : Int) ∧ bf n = wdB ns := rest
    refine ⟨_, rfl, _, _, _, true, rfl, rfl, hS, ints_kd, fun h0 => ?_, fun m hm hle => ?_⟩
    · have hn : ns = [] := List.map_eq_nil_iff.mp h0
      obtain ⟨i, n, e1, e2, e3⟩ := rest 0 (by rw [hn]; rfl)
      refine ⟨i, n, e1, e2, ?_⟩
      rw [e3]
      refine ⟨_, rfl, Nat.le_of_ble_eq_true rfl, fun p np => ?_⟩
      refine ⟨_, rfl, _, rfl, a, _, ns, wdB ns, rfl, rfl, exL hS (Ex.n np), hl, hw, fun p2 H2 np2 e4 hp2 => ?_⟩
      refine ⟨_, _, _, _, rfl, rfl, e4 _ _ upd_same, hp2, sml ?_, fun p3 np3 => q.go ((Ex.n np).trans e4) np3⟩
      rw [List.length_map, pk_len]
      unfold bc
      have := Nat.mul_le_mul hl hw
      show 1 + _ ≤ _
      omega
    · obtain ⟨m', hm', rfl⟩ := List.mem_map.mp hm
      obtain ⟨i, n, e1, e2, e3⟩ := rest m' (great_of hm' (fun n hn => (hb n hn).1) hle)
      refine ⟨i, n, e1, e2, ?_⟩
      rw [e3]
      refine ⟨_, rfl, Nat.le_of_ble_eq_true rfl, fun p np => ?_⟩
      refine ⟨_, rfl, _, rfl, a, _, ns, wdB ns, rfl, rfl, exL hS (Ex.n np), hl, hw, fun p2 H2 np2 e4 hp2 => ?_⟩
      refine ⟨_, _, _, _, rfl, rfl, e4 _ _ upd_same, hp2, sml ?_, fun p3 np3 => q.go ((Ex.n np).trans e4) np3⟩
      rw [List.length_map, pk_len]
      unfold bc
      have := Nat.mul_le_mul hl hw
      show 1 + _ ≤ _
      omega
def sp_base_bytes (K : PySem.W.Frag) : Sp := fun vs H Q _ => ∃ (a : Addr) (ns : List Int), vs = [.ref a] ∧ SqL K H a (ns.map V.int) ∧ 1 ≤ ns.length ∧ ns.length ≤ 64 ∧ (∀ n ∈ ns, NumOk n) ∧ GL ((bsB ns).map V.int) H Q
theorem smB_len {ns : List Int} (h : ns.length ≤ 64) (hb : ∀ n ∈ ns, 0 ≤ n ∧ n < 4611686018427387904) : (smB ns).length ≤ 500 := by
  have hw := wd_le (ns := ns) fun n hn => (hb n hn).2
  unfold smB
  rw [List.length_cons, pk_len]
  unfold bc
  have := Nat.mul_le_mul h hw
  omega
theorem base_bd {ns : List Int} (h1 : 1 ≤ ns.length) (hn : ∀ n ∈ ns, NumOk n) : ∀ n ∈ ns.map (· - leastD ns), 0 ≤ n ∧ n < 4611686018427387904 := fun n hn2 => by
  obtain ⟨m, hm, rfl⟩ := List.mem_map.mp hn2
  have h3 := leastD_le m hm
  have h4 := hn m hm
  have h5 := hn _ (leastD_mem h1)
  unfold NumOk at h4 h5
  show 0 ≤ m - leastD ns ∧ m - leastD ns < _
  omega
theorem ok_base_bytes (T : Gf K mg CG CP upA) (D : Dfn K mg "base_bytes" s_base_bytes) (c_number_bytes : Cal P w K mg base 1 "number_bytes" (sp_number_bytes K) []) (c_small_bytes : Cal P w K mg base 3 "small_bytes" (sp_small_bytes K) []) : Cal P w K mg base 4 "base_bytes" (sp_base_bytes K) [] := by
  refine cal_mk D sc_base_bytes (fun _ _ _ _ _ _ us hl => match us, hl with | [_], _ => rfl) (fun vs H Q E h => ?_) (fun f cdv A outer s H vs Q E hr h => ?_)
  · obtain ⟨_, _, rfl, _⟩ := h; rfl
  · obtain ⟨a, ns, rfl, hS, h1, hl, hn, q⟩ := h
    refine ⟨_, pss_cons (ps_set (i := 1) sc_base_bytes.nd rfl (Or.inr rfl) (pe_callB (cr_min rfl) (by rfl) T.min (by decide +kernel) (pa_cons (pv 0) pa_nil)))
      (pss_one (ps_ret (pe_op op_cat (pe_c c_number_bytes hr (by decide) (by rfl) (pa_cons (pv 1) pa_nil)) (pe_c c_small_bytes hr (by decide) (by rfl) (pa_cons (pe_lc (own := [("cell", 2)]) (g := gName 2) (tt := tYes) (by rfl) sc_base_bytes.nd (pi_list (pv 0)) (blkOk_by (N := N_base_bytes) (sc := defScope s_base_bytes) (by decide +kernel)) (fun _ _ _ _ _ => pg_name (i := 2) sc_base_bytes.nd rfl (Or.inl rfl)) (fun _ _ _ _ _ => pts_nil) (fun _ _ _ _ _ => pe_op op_sub (pv 2) (pv 1))) pa_nil))))), ?_⟩
    have hbd := base_bd h1 hn
    refine ⟨_, rfl, _, ns, rfl, hS, h1, fun m hm hle => ?_⟩
    have em := leastD_of hm hle
    subst em
    refine ⟨_, rfl, _, rfl, (hn _ hm).sm, fun p H1 np e1 hp => ?_⟩
    refine ⟨_, rfl, _, rfl, ⟨_, exL hS e1⟩, fun d nd => ?_⟩
    refine lc_it walk_list (fun i H' => Ex H1 H' ∧ H' d = some (.lst (((ns.map (· - leastD ns)).take i).map V.int))) ⟨Ex.n nd, upd_same⟩ (fun i H' hi hI => exL hS (e1.trans hI.1)) (fun i x H' H2 hi hI hy => ?_) (fun H' hI => ?_)
    · obtain ⟨e2, hd⟩ := hI
      obtain ⟨rfl, hx⟩ := hy
      obtain ⟨n, hx2, rfl⟩ := getM hx
      refine ⟨rfl, ?_⟩
      refine ⟨_, rfl, _, rfl, _, _, rfl, rfl, ?_⟩
      have := lt_of_at hx2
      refine ⟨_, hd, smlt (by rw [List.length_map, List.length_take]; omega), e2.mut nd, ?_⟩
      rw [upd_same, List.take_add_one, List.getElem?_map, hx2, List.map_append (f := V.int)]
      rfl
    · obtain ⟨e2, hd⟩ := hI
      rw [List.length_map, List.take_of_length_le (by rw [List.length_map]; exact Nat.le_refl _)] at hd
      refine ⟨_, _, rfl, lsOf hd, by rw [List.length_map]; omega, hbd, fun p2 H2 np2 e3 hp2 => ?_⟩
      have hl2 := smB_len (by rw [List.length_map]; exact hl) hbd
      have hl3 := nb_len (hn _ hm).sm
      refine ⟨_, _, _, _, rfl, rfl, e3 _ _ (e2 _ _ hp), hp2, sml (by rw [List.length_map, List.length_map]; omega), fun p3 np3 => ?_⟩
      rw [← List.map_append (f := V.int)]
      exact q.go ((e1.trans e2).trans e3) np3
def sp_step_bytes (K : PySem.W.Frag) : Sp := fun vs H Q _ => ∃ (a : Addr) (ns : List Int), vs = [.ref a] ∧ SqL K H a (ns.map V.int) ∧ 1 ≤ ns.length ∧ ns.length ≤ 64 ∧ (∀ n ∈ ns, NumOk n) ∧ GL ((stB ns).map V.int) H Q
theorem steps_at {ns : List Int} {i : Nat} {x y : Int} (h : ns[i]? = some x) (g : (ns.drop 1)[i]? = some y) : (stepsOf ns)[i]? = some (y - x) := by
  unfold stepsOf
  rw [List.getElem?_map, (List.getElem?_zip_eq_some (z := (x, y))).mpr ⟨h, g⟩]
  rfl
theorem steps_bd {ns : List Int} (hn : ∀ n ∈ ns, NumOk n) : ∀ n ∈ stepsOf ns, -2000000000000000000 < n ∧ n < 2000000000000000000 := fun n h => by
  obtain ⟨p, hp, rfl⟩ := List.mem_map.mp h
  have h1 := hn _ (List.of_mem_zip hp).1
  have h2 := hn _ (List.mem_of_mem_drop (List.of_mem_zip hp).2)
  unfold NumOk at h1 h2
  omega
theorem leastD_bd {ns : List Int} (hn : ∀ n ∈ ns, -2000000000000000000 < n ∧ n < 2000000000000000000) : -2000000000000000000 < leastD ns ∧ leastD ns < 2000000000000000000 := by
  rcases Nat.eq_zero_or_pos ns.length with e | e
  · rw [List.eq_nil_of_length_eq_zero e]
    exact ⟨by decide, by decide⟩
  · exact hn _ (leastD_mem e)
theorem step_bd {ns : List Int} (hn : ∀ n ∈ ns, -2000000000000000000 < n ∧ n < 2000000000000000000) : ∀ n ∈ ns.map (· - leastD ns), 0 ≤ n ∧ n < 4611686018427387904 := fun n hn2 => by
  obtain ⟨m, hm, rfl⟩ := List.mem_map.mp hn2
  have h3 := leastD_le m hm
  have h4 := hn m hm
  have h5 := leastD_bd hn
  show 0 ≤ m - leastD ns ∧ m - leastD ns < _
  omega
theorem least_of {ns : List Int} {m : Int} (hm : m ∈ ns) (hle : ∀ y ∈ ns.map V.int, vlt y (.int m) = false) : m = leastD ns :=
  leastD_of hm fun n hn => by
    have := of_decide_eq_false (hle _ (List.mem_map.mpr ⟨n, hn, rfl⟩))
    omega
theorem ok_step_bytes (T : Gf K mg CG CP upA) (D : Dfn K mg "step_bytes" s_step_bytes) (c_small_bytes : Cal P w K mg base 3 "small_bytes" (sp_small_bytes K) []) (c_number_bytes : Cal P w K mg base 1 "number_bytes" (sp_number_bytes K) []) : Cal P w K mg base 4 "step_bytes" (sp_step_bytes K) [] := by
  refine cal_mk D sc_step_bytes (fun _ _ _ _ _ _ us hl => match us, hl with | [_], _ => rfl) (fun vs H Q E h => ?_) (fun f cdv A outer s H vs Q E hr h => ?_)
  · obtain ⟨_, _, rfl, _⟩ := h; rfl
  · obtain ⟨a, ns, rfl, hS, h1, hl, hn, q⟩ := h
    refine ⟨_, pss_cons (ps_setLc (i := 1) (own := [("one", 3), ("other", 4)]) (g := gTup K 2 _) (tt := tYes) (by rfl) sc_step_bytes.nd rfl rfl (sw_true rfl rfl rfl (by decide +kernel)) (pi_zip (by rfl) T.zip (pa_cons (pv 0) (pa_cons (pe_slice sl_list (pv 0) (po_some (pe_int)) (po_none)) pa_nil))) (blkOk_by (N := N_step_bytes) (sc := defScope s_step_bytes) (by decide +kernel)) (fun _ _ _ _ _ => pg_tup (by rfl) (pgs_cons (pg_name (i := 3) sc_step_bytes.nd rfl (Or.inl rfl)) (pgs_cons (pg_name (i := 4) sc_step_bytes.nd rfl (Or.inl rfl)) pgs_nil))) (fun _ _ _ _ _ => pts_nil) (fun _ _ _ _ _ => pe_op op_sub (pv 4) (pv 3)))
      (pss_cons (ps_set (i := 2) sc_step_bytes.nd rfl (Or.inr rfl) (pe_callBK (crk_min rfl) (by rfl) T.min (by decide +kernel) (pa_cons (pv 1) pa_nil) (pk_cons (pe_int) pk_nil)))
      (pss_one (ps_ret (pe_op op_cat (pe_op op_cat (pe_c c_number_bytes hr (by decide) (by rfl) (pa_cons (pe_ix ix_list (pv 0) (pe_int) (fun _ _ => rfl)) pa_nil)) (pe_c c_number_bytes hr (by decide) (by rfl) (pa_cons (pv 2) pa_nil))) (pe_c c_small_bytes hr (by decide) (by rfl) (pa_cons (pe_lc (own := [("step", 5)]) (g := gName 5) (tt := tYes) (by rfl) sc_step_bytes.nd (pi_list (pv 1)) (blkOk_by (N := N_step_bytes) (sc := defScope s_step_bytes) (by decide +kernel)) (fun _ _ _ _ _ => pg_name (i := 5) sc_step_bytes.nd rfl (Or.inl rfl)) (fun _ _ _ _ _ => pts_nil) (fun _ _ _ _ _ => pe_op op_sub (pv 5) (pv 2))) pa_nil)))))), ?_⟩
    have hsb := steps_bd hn
    have hbd := step_bd hsb
    have hlb := leastD_bd hsb
    have hsl := steps_len ns
    refine ⟨_, rfl, _, rfl, _, rfl, _, _, rfl, hS, fun c nc => ?_⟩
    have ec : Ex H (upd H c (.lst (cutV (ns.map V.int) (some 1) none))) := Ex.n nc
    have hcut : cutV (ns.map V.int) (some 1) none = (ns.drop 1).map V.int := by
      unfold cutV
      rw [show (1 : Int) = ((1 : Nat) : Int) from rfl, HT.sIx_nat, List.length_map, Nat.min_eq_left h1, ← List.map_drop]
      rw [List.take_of_length_le]
      rw [List.length_map, List.length_drop]
      exact Nat.le_refl _
    rw [hcut] at ec ⊢
    refine ⟨_, _, _, _, rfl, exL hS ec, lsOf upd_same, fun d nd => ?_⟩
    have hzl : min (ns.map V.int).length ((ns.drop 1).map V.int).length = ns.length - 1 := by
      rw [List.length_map, List.length_map, List.length_drop]
      omega
    refine lc_it (walk_zip (n := ns.length - 1) hzl.symm) (fun i H' => Ex (upd H c (.lst ((ns.drop 1).map V.int))) H' ∧ H' d = some (.lst (((stepsOf ns).take i).map V.int))) ⟨Ex.n nd, upd_same⟩ (fun i H' hi hI => ⟨exL hS (ec.trans hI.1), lsOf (hI.1 _ _ upd_same)⟩) (fun i x H' H2 hi hI hy => ?_) (fun H' hI => ?_)
    · obtain ⟨e2, hd⟩ := hI
      obtain ⟨T', x1, y1, rfl, nT, rfl, hx, hy⟩ := hy
      obtain ⟨n1, hn1, rfl⟩ := getM hx
      obtain ⟨n2, hn2, rfl⟩ := getM hy
      refine ⟨_, _, rfl, tpOf upd_same, rfl, _, _, rfl, _, _, rfl, rfl, rfl, ?_⟩
      refine ⟨_, rfl, _, rfl, _, _, rfl, rfl, ?_⟩
      refine ⟨_, Ex.n nT _ _ hd, smlt (by rw [List.length_map, List.length_take]; omega), (e2.trans (Ex.n nT)).mut nd, ?_⟩
      rw [upd_same, List.take_add_one, steps_at hn1 hn2, List.map_append (f := V.int)]
      rfl
    · obtain ⟨e2, hd⟩ := hI
      rw [List.take_of_length_le (by omega)] at hd
      have e02 := ec.trans e2
      refine ⟨_, rfl, _, _, _, true, rfl, rfl, lsOf hd, ints_kd, fun h0 => ?_, fun m hm hle => ?_⟩
      · have em : leastD (stepsOf ns) = 0 := by rw [List.map_eq_nil_iff.mp h0]; rfl
        rw [← em]
        obtain ⟨n0, hn0⟩ : ∃ n0, ns[0]? = some n0 := ⟨_, List.getElem?_eq_getElem h1⟩
        have hh : ns.headD 0 = n0 := by
          cases ns with
          | nil => cases hn0
          | cons z r => exact Option.some.inj hn0
        have hok0 := hn n0 (List.mem_of_getElem? hn0)
        refine ⟨_, rfl, _, _, _, _, rfl, rfl, exL hS e02, at_k (k := 0) (by rw [List.getElem?_map, hn0]; rfl) (by rw [em]; rfl), n0, rfl, hok0.sm, fun p1 H1 np1 e3 hp1 => ?_⟩
        have hsm : Sm (leastD (stepsOf ns)) := by
          unfold Sm
          omega
        refine ⟨_, rfl, _, rfl, hsm, fun p2 H2 np2 e4 hp2 => ?_⟩
        have hl1 := nb_len hok0.sm
        have hl2 := nb_len hsm
        refine ⟨_, _, _, _, rfl, rfl, e4 _ _ hp1, hp2, sml (by rw [List.length_map, List.length_map]; omega), fun p3 np3 => ?_⟩
        have e05 := ((e02.trans e3).trans e4).trans (Ex.n (o := .lst ((nb n0).map V.int ++ (nb (leastD (stepsOf ns))).map V.int)) np3)
        have hd3 := Ex.n (o := .lst ((nb n0).map V.int ++ (nb (leastD (stepsOf ns))).map V.int)) np3 _ _ (e4 _ _ (e3 _ _ hd))
        refine ⟨_, rfl, _, rfl, ⟨_, lsOf hd3⟩, fun d2 nd2 => ?_⟩
        refine lc_it walk_list (fun i H'' => Ex (upd H2 p3 (.lst ((nb n0).map V.int ++ (nb (leastD (stepsOf ns))).map V.int))) H'' ∧ H'' d2 = some (.lst ((((stepsOf ns).map (· - leastD (stepsOf ns))).take i).map V.int))) ⟨Ex.n nd2, upd_same⟩ (fun i H'' hi hI => lsOf (hI.1 _ _ hd3)) (fun i x H'' H3 hi hI hy => ?_) (fun H'' hI => ?_)
        · obtain ⟨e6, hd6⟩ := hI
          obtain ⟨rfl, hx⟩ := hy
          obtain ⟨n, hx2, rfl⟩ := getM hx
          have := lt_of_at hx2
          refine ⟨rfl, ?_⟩
          refine ⟨_, rfl, _, rfl, _, _, rfl, rfl, ?_⟩
          refine ⟨_, hd6, smlt (by rw [List.length_map, List.length_take, List.length_map]; omega), e6.mut nd2, ?_⟩
          rw [upd_same, List.take_add_one, List.getElem?_map, hx2, List.map_append (f := V.int)]
          rfl
        · obtain ⟨e6, hd6⟩ := hI
          rw [List.length_map, List.take_of_length_le (by rw [List.length_map]; exact Nat.le_refl _)] at hd6
          refine ⟨_, _, rfl, lsOf hd6, by rw [List.length_map]; omega, hbd, fun p4 H4 np4 e7 hp4 => ?_⟩
          have hl3 := smB_len (ns := (stepsOf ns).map (· - leastD (stepsOf ns))) (by rw [List.length_map]; omega) hbd
          refine ⟨_, _, _, _, rfl, rfl, e7 _ _ (e6 _ _ upd_same), hp4, sml (by simp only [List.length_map, List.length_append] at hl3 ⊢; omega), fun p5 np5 => ?_⟩
          exact (q.to (by unfold stB; rw [hh, List.map_append, List.map_append])).go ((e05.trans e6).trans e7) np5
      · obtain ⟨m', hm', rfl⟩ := List.mem_map.mp hm
        have em := least_of hm' hle
        subst em
        obtain ⟨n0, hn0⟩ : ∃ n0, ns[0]? = some n0 := ⟨_, List.getElem?_eq_getElem h1⟩
        have hh : ns.headD 0 = n0 := by
          cases ns with
          | nil => cases hn0
          | cons z r => exact Option.some.inj hn0
        have hok0 := hn n0 (List.mem_of_getElem? hn0)
        refine ⟨_, rfl, _, _, _, _, rfl, rfl, exL hS e02, at_k (k := 0) (by rw [List.getElem?_map, hn0]; rfl) rfl, n0, rfl, hok0.sm, fun p1 H1 np1 e3 hp1 => ?_⟩
        have hsm : Sm (leastD (stepsOf ns)) := by
          unfold Sm
          omega
        refine ⟨_, rfl, _, rfl, hsm, fun p2 H2 np2 e4 hp2 => ?_⟩
        have hl1 := nb_len hok0.sm
        have hl2 := nb_len hsm
        refine ⟨_, _, _, _, rfl, rfl, e4 _ _ hp1, hp2, sml (by rw [List.length_map, List.length_map]; omega), fun p3 np3 => ?_⟩
        have e05 := ((e02.trans e3).trans e4).trans (Ex.n (o := .lst ((nb n0).map V.int ++ (nb (leastD (stepsOf ns))).map V.int)) np3)
        have hd3 := Ex.n (o := .lst ((nb n0).map V.int ++ (nb (leastD (stepsOf ns))).map V.int)) np3 _ _ (e4 _ _ (e3 _ _ hd))
        refine ⟨_, rfl, _, rfl, ⟨_, lsOf hd3⟩, fun d2 nd2 => ?_⟩
        refine lc_it walk_list (fun i H'' => Ex (upd H2 p3 (.lst ((nb n0).map V.int ++ (nb (leastD (stepsOf ns))).map V.int))) H'' ∧ H'' d2 = some (.lst ((((stepsOf ns).map (· - leastD (stepsOf ns))).take i).map V.int))) ⟨Ex.n nd2, upd_same⟩ (fun i H'' hi hI => lsOf (hI.1 _ _ hd3)) (fun i x H'' H3 hi hI hy => ?_) (fun H'' hI => ?_)
        · obtain ⟨e6, hd6⟩ := hI
          obtain ⟨rfl, hx⟩ := hy
          obtain ⟨n, hx2, rfl⟩ := getM hx
          have := lt_of_at hx2
          refine ⟨rfl, ?_⟩
          refine ⟨_, rfl, _, rfl, _, _, rfl, rfl, ?_⟩
          refine ⟨_, hd6, smlt (by rw [List.length_map, List.length_take, List.length_map]; omega), e6.mut nd2, ?_⟩
          rw [upd_same, List.take_add_one, List.getElem?_map, hx2, List.map_append (f := V.int)]
          rfl
        · obtain ⟨e6, hd6⟩ := hI
          rw [List.length_map, List.take_of_length_le (by rw [List.length_map]; exact Nat.le_refl _)] at hd6
          refine ⟨_, _, rfl, lsOf hd6, by rw [List.length_map]; omega, hbd, fun p4 H4 np4 e7 hp4 => ?_⟩
          have hl3 := smB_len (ns := (stepsOf ns).map (· - leastD (stepsOf ns))) (by rw [List.length_map]; omega) hbd
          refine ⟨_, _, _, _, rfl, rfl, e7 _ _ (e6 _ _ upd_same), hp4, sml (by simp only [List.length_map, List.length_append] at hl3 ⊢; omega), fun p5 np5 => ?_⟩
          exact (q.to (by unfold stB; rw [hh, List.map_append, List.map_append])).go ((e05.trans e6).trans e7) np5
end
end Pk
set_option Elab.async false
set_option linter.all false
set_option maxRecDepth 100000
set_option maxHeartbeats 4000000
set_option autoImplicit false
namespace Pk
open PySem PySem.Spec PyProof.Rows L2
open C8 (Cal Met Mak pe_c pe_mk pe_mt pe_mt0 pe_gc)
section
variable {P : Program} {w : World} {K : PySem.W.Frag} {mg : Str → Option Value} {base : Heap} {CG CP upA : Addr}
/-! ### press_by, pressed -/
def CK : Bool → V → Prop
  | true, c => NumC c
  | false, c => TxtC c
theorem CK.ok {b : Bool} {c : V} (h : CK b c) : CellOk c := by
  cases b
  · exact .inr h
  · exact .inl h
theorem CK.v {b : Bool} {c : V} (h : CK b c) : CkV b c := by
  cases b
  · cases h with
    | non => exact .inl rfl
    | str h => exact .inr ⟨_, rfl⟩
  · cases h with
    | non => exact .inl rfl
    | int h => exact .inr ⟨_, rfl⟩
def PR : Option (List Int) → Hp → VK → Prop
  | none, H, Q => GV .non H Q
  | some row, H, Q => GL (row.map V.int) H Q
theorem PR.to {x y : Option (List Int)} {H : Hp} {Q : VK} (k : PR x H Q) (h : x = y) : PR y H Q := h ▸ k
theorem runB_len {b : Bool} {cells : List V} (hc : ∀ c ∈ cells, CellOk c) (hl : cells.length ≤ 64) : (runB cells).length ≤ 1700 := by
  have h1 := runs_len cells
  have h2 := nb_nat_len (n := (runsOf cells).length) (by omega)
  have h3 := rnB_len (rs := runsOf cells) fun r hr => by
    obtain ⟨m1, _, m3⟩ := runs_in cells r hr
    exact ⟨hc _ m1, by omega⟩
  unfold runB
  rw [List.length_append]
  omega
theorem pk_le {ns : List Int} {w : Nat} (h : ns.length ≤ 64) (hw : w ≤ 62) : (pk ns w).length ≤ 497 := by
  rw [pk_len]
  unfold bc
  have := Nat.mul_le_mul h hw
  omega
theorem bf_small {n : Nat} (h : n ≤ 64) : bf n ≤ 62 := bf_le _ _ (by
  have : (2 : Nat) ^ 62 = 4611686018427387904 := by decide
  omega)
theorem bookB_len {cells : List V} (hc : ∀ c ∈ cells, CellOk c) (hl : cells.length ≤ 64) : (bookB cells).length ≤ 2000 := by
  obtain ⟨hnd, hmem, hbl⟩ := book_all cells
  have h2 := nb_nat_len (n := (bookOf cells).length) (by omega)
  have h3 := abB_len fun c h => hc c ((hmem c).mp h)
  have h4 := pk_le (ns := plB cells) (w := bf ((bookOf cells).length - 1)) (by rw [pl_len]; exact hl) (bf_small (by omega))
  unfold bookB
  rw [List.length_append, List.length_append]
  omega
theorem bsB_len {ns : List Int} (h1 : 1 ≤ ns.length) (hl : ns.length ≤ 64) (hn : ∀ n ∈ ns, NumOk n) : (bsB ns).length ≤ 600 := by
  have h2 := nb_len (hn _ (leastD_mem h1)).sm
  have h3 := smB_len (ns := ns.map (· - leastD ns)) (by rw [List.length_map]; exact hl) (base_bd h1 hn)
  unfold bsB
  rw [List.length_append]
  omega
theorem headD_mem {ns : List Int} (h : 1 ≤ ns.length) : ns.headD 0 ∈ ns := by
  cases ns with
  | nil => cases h
  | cons a r => exact List.mem_cons_self ..
theorem stB_len {ns : List Int} (h1 : 1 ≤ ns.length) (hl : ns.length ≤ 64) (hn : ∀ n ∈ ns, NumOk n) : (stB ns).length ≤ 600 := by
  have h2 := nb_len (hn _ (headD_mem h1)).sm
  have hsb := steps_bd hn
  have hlb := leastD_bd hsb
  have h3 := nb_len (n := leastD (stepsOf ns)) (by unfold Sm; omega)
  have h4 := smB_len (ns := (stepsOf ns).map (· - leastD (stepsOf ns))) (by rw [List.length_map, steps_len]; omega) (step_bd hsb)
  unfold stB
  rw [List.length_append, List.length_append]
  omega
theorem nums_ok {cells : List V} (hc : ∀ c ∈ cells, CellOk c) (h : ∀ c ∈ cells, isI c = true) : ∀ n ∈ nums cells, NumOk n := fun n hn => by
  obtain ⟨c, hm, rfl⟩ := List.mem_map.mp hn
  rcases (hc c hm).cases with rfl | ⟨i, rfl, hi⟩ | ⟨z, rfl, hz⟩
  · exact absurd (h _ hm) (by decide)
  · exact hi
  · exact absurd (h _ hm) (by show ¬ (false = true); decide)
theorem nums_len (cells : List V) : (nums cells).length = cells.length := List.length_map ..
def sp_press_by (K : PySem.W.Frag) : Sp := fun vs H Q _ => ∃ (b : Bool) (i : Int) (way : Nat) (a : Addr) (cells : List V), vs = [.int i, .ref a] ∧ i = (way : Int) ∧ way ≤ 4 ∧ SqL K H a cells ∧ (∀ c ∈ cells, CK b c) ∧ 1 ≤ cells.length ∧ cells.length ≤ 64 ∧ PR (pressBy way cells) H Q
theorem way_ne {way n : Nat} (h : decide (V.int (way : Int) = V.int (n : Int)) = false) : way ≠ n := fun e => vF h (by rw [e])
theorem way_eq {way n : Nat} (h : decide (V.int (way : Int) = V.int (n : Int)) = true) : way = n := Int.natCast_inj.mp (vT h)
theorem ok_press_by (T : Gf K mg CG CP upA) (D : Dfn K mg "press_by" s_press_by) (c_number_bytes : Cal P w K mg base 1 "number_bytes" (sp_number_bytes K) []) (c_step_bytes : Cal P w K mg base 4 "step_bytes" (sp_step_bytes K) []) (c_all_bytes : Cal P w K mg base 4 "all_bytes" (sp_all_bytes K) []) (c_run_bytes : Cal P w K mg base 4 "run_bytes" (sp_run_bytes K) []) (c_book_bytes : Cal P w K mg base 6 "book_bytes" (sp_book_bytes K) []) (c_base_bytes : Cal P w K mg base 4 "base_bytes" (sp_base_bytes K) []) (c_is_number : Cal P w K mg base 1 "is_number" (sp_is_number K) []) : Cal P w K mg base 7 "press_by" (sp_press_by K) [] := by
  refine cal_mk D sc_press_by (fun _ _ _ _ _ _ us hl => match us, hl with | [_, _], _ => rfl) (fun vs H Q E h => ?_) (fun f cdv A outer s H vs Q E hr h => ?_)
  · obtain ⟨_, _, _, _, _, rfl, _⟩ := h; rfl
  · obtain ⟨b, i, way, a, cells, rfl, rfl, hw, hS, hck, h1, hl, q⟩ := h
    refine ⟨_, pss_cons (ps_set (i := 2) sc_press_by.nd rfl (Or.inl rfl) (pe_op op_cat (pe_lst (pa_cons (pv 0) pa_nil)) (pe_c c_number_bytes hr (by decide) (by rfl) (pa_cons (pe_callB call_len_seq (by rfl) T.len (by decide +kernel) (pa_cons (pv 1) pa_nil)) pa_nil))))
      (pss_cons (ps_if (pt_cmpR op_eq (pv 0) (pe_int) (nomark _)) (pss_one (ps_ret (pe_op op_cat (pv 2) (pe_c c_all_bytes hr (by decide) (by rfl) (pa_cons (pv 1) pa_nil))))) (pss_nil))
      (pss_cons (ps_if (pt_cmpR op_eq (pv 0) (pe_int) (nomark _)) (pss_one (ps_ret (pe_op op_cat (pv 2) (pe_c c_run_bytes hr (by decide) (by rfl) (pa_cons (pv 1) pa_nil))))) (pss_nil))
      (pss_cons (ps_if (pt_cmpR op_eq (pv 0) (pe_int) (nomark _)) (pss_one (ps_ret (pe_op op_cat (pv 2) (pe_c c_book_bytes hr (by decide) (by rfl) (pa_cons (pv 1) pa_nil))))) (pss_nil))
      (pss_cons (ps_if (pt_not (pt_val (pe_callB (cr_all rfl) (by rfl) T.all (by decide +kernel) (pa_cons (pe_lc (own := [("cell", 3)]) (g := gName 3) (tt := tYes) (by rfl) sc_press_by.nd (pi_list (pv 1)) (blkOk_by (N := N_press_by) (sc := defScope s_press_by) (by decide +kernel)) (fun _ _ _ _ _ => pg_name (i := 3) sc_press_by.nd rfl (Or.inl rfl)) (fun _ _ _ _ _ => pts_nil) (fun _ _ _ _ _ => pe_c c_is_number hr (by decide) (by rfl) (pa_cons (pv 3) pa_nil))) pa_nil)))) (pss_one (ps_ret (pe_non))) (pss_nil))
      (pss_cons (ps_if (pt_cmpR op_eq (pv 0) (pe_int) (nomark _)) (pss_one (ps_ret (pe_op op_cat (pv 2) (pe_c c_base_bytes hr (by decide) (by rfl) (pa_cons (pv 1) pa_nil))))) (pss_nil))
      (pss_one (ps_ret (pe_op op_cat (pv 2) (pe_c c_step_bytes hr (by decide) (by rfl) (pa_cons (pv 1) pa_nil)))))))))), ?_⟩
    have hc : ∀ c ∈ cells, CellOk c := fun c h => (hck c h).ok
    have hv : ∀ c ∈ cells, CkV b c := fun c h => (hck c h).v
    have hll := nb_nat_len (n := cells.length) (by omega)
    refine ⟨_, rfl, Nat.le_of_ble_eq_true rfl, fun p np => ?_⟩
    have e1 := Ex.n (o := .lst [.int (way : Int)]) np
    refine ⟨_, rfl, _, _, rfl, .inl (exL hS e1), _, rfl, Sm.nat (by omega), fun p2 H2 np2 e2 hp2 => ?_⟩
    refine ⟨_, _, _, _, rfl, rfl, e2 _ _ upd_same, hp2, sml (by rw [List.length_map]; show 1 + _ ≤ _; omega), fun p3 np3 => ?_⟩
    have e3 := (e1.trans e2).trans (Ex.n (o := .lst ([.int (way : Int)] ++ (nb (cells.length : Int)).map V.int)) np3)
    have hS3 := exL hS e3
    have hp3 : (upd H2 p3 (.lst ([.int (way : Int)] ++ (nb (cells.length : Int)).map V.int))) p3 = some (.lst (((way : Int) :: nb (cells.length : Int)).map V.int)) := upd_same
    generalize upd H2 p3 (.lst ([.int (way : Int)] ++ (nb (cells.length : Int)).map V.int)) = H3 at e3 hS3 hp3
    have fin : ∀ (body : List Int) (H4 : Hp) (p4 : Addr), body.length ≤ 5000 → Ex H3 H4 → H4 p4 = some (.lst (body.map V.int)) → pressBy way cells = some ((way : Int) :: nb (cells.length : Int) ++ body) → rCat (.ref p3) (.ref p4) H4 Q := fun body H4 p4 hb e4 hp4 ep => by
      refine ⟨_, _, _, _, rfl, rfl, e4 _ _ hp3, hp4, sml (by rw [List.length_map, List.length_map, List.length_cons]; omega), fun p5 np5 => ?_⟩
      have q2 : GL (((way : Int) :: nb (cells.length : Int) ++ body).map V.int) H Q := by
        rw [ep] at q
        exact q
      exact (q2.to (List.map_append ..)).go (e3.trans e4) np5
    refine ⟨_, rfl, rfl, _, rfl, ifB (fun h => ?_) (fun h => ?_)⟩
    · have h := way_eq (n := 0) h
      subst h
      refine ⟨_, rfl, _, rfl, a, cells, rfl, hS3, hc, by omega, fun p4 H4 np4 e4 hp4 => fin _ H4 p4 ?_ e4 hp4 rfl⟩
      have := abB_len hc
      omega
    have n0 := way_ne (n := 0) h
    refine ⟨_, rfl, rfl, _, rfl, ifB (fun h => ?_) (fun h => ?_)⟩
    · have h := way_eq (n := 1) h
      subst h
      refine ⟨_, rfl, _, rfl, b, a, cells, rfl, hS3, hv, hc, by omega, fun p4 H4 np4 e4 hp4 => fin _ H4 p4 ?_ e4 hp4 rfl⟩
      have := runB_len (b := b) hc hl
      omega
    have n1 := way_ne (n := 1) h
    refine ⟨_, rfl, rfl, _, rfl, ifB (fun h => ?_) (fun h => ?_)⟩
    · have h := way_eq (n := 2) h
      subst h
      refine ⟨_, rfl, _, rfl, a, cells, rfl, hS3, hc, h1, hl, fun p4 H4 np4 e4 hp4 => fin _ H4 p4 ?_ e4 hp4 rfl⟩
      have := bookB_len hc hl
      omega
    have n2 := way_ne (n := 2) h
    refine ⟨_, rfl, _, rfl, ⟨_, hS3⟩, fun d nd => ?_⟩
    refine lc_it walk_list (fun i H' => Ex H3 H' ∧ H' d = some (.lst (((cells.map isI).take i).map V.bl))) ⟨Ex.n nd, upd_same⟩ (fun i H' hi hI => exL hS3 hI.1) (fun i x H' H2 hi hI hy => ?_) (fun H' hI => ?_)
    · obtain ⟨e4, hd⟩ := hI
      obtain ⟨rfl, hx⟩ := hy
      refine ⟨rfl, ?_⟩
      refine ⟨_, rfl, x, rfl, hc x (List.mem_of_getElem? hx), ?_⟩
      refine ⟨_, hd, smlt (by rw [List.length_map, List.length_take]; omega), e4.mut nd, ?_⟩
      rw [upd_same, List.take_add_one, List.getElem?_map, hx, List.map_append (f := V.bl)]
      rfl
    · obtain ⟨e4, hd⟩ := hI
      rw [List.take_of_length_le (by rw [List.length_map]; exact Nat.le_refl _)] at hd
      refine ⟨_, _, rfl, lsOf hd, _, rfl, ifB (fun hall => ?_) (fun hall => ?_)⟩
      · have q2 : GV .non H Q := by
          have : pressBy way cells = none := by
            unfold pressBy
            rw [if_neg n0, if_neg n1, if_neg n2, if_pos hall]
          rw [this] at q
          exact q
        exact q2.go (e3.trans e4)
      have hI : ∀ c ∈ cells, isI c = true := fun c hcm => by
        have : (cells.map isI).all id = true := by
          cases hh : (cells.map isI).all id with
          | true => rfl
          | false => rw [hh] at hall; cases hall
        exact List.all_eq_true.mp this _ (List.mem_map.mpr ⟨c, hcm, rfl⟩)
      have hS4 : SqL K H' a ((nums cells).map V.int) := by
        rw [← nums_v hI]
        exact exL hS3 e4
      have hnk := nums_ok hc hI
      have hnl := nums_len cells
      refine ⟨_, rfl, rfl, _, rfl, ifB (fun h3 => ?_) (fun h3 => ?_)⟩
      · have h3 := way_eq (n := 3) h3
        subst h3
        refine ⟨_, rfl, _, rfl, a, nums cells, rfl, hS4, by omega, by omega, hnk, fun p4 H4 np4 e5 hp4 => fin _ H4 p4 ?_ (e4.trans e5) hp4 ?_⟩
        · have := bsB_len (by omega) (by omega) hnk
          omega
        · unfold pressBy
          rw [if_neg n0, if_neg n1, if_neg n2, if_neg (by rw [hall]; exact Bool.false_ne_true), if_pos rfl]
      · have n3 := way_ne (n := 3) h3
        refine ⟨_, rfl, _, rfl, a, nums cells, rfl, hS4, by omega, by omega, hnk, fun p4 H4 np4 e5 hp4 => fin _ H4 p4 ?_ (e4.trans e5) hp4 ?_⟩
        · have := stB_len (by omega) (by omega) hnk
          omega
        · unfold pressBy
          rw [if_neg n0, if_neg n1, if_neg n2, if_neg (by rw [hall]; exact Bool.false_ne_true), if_neg n3]
/-- a row of some cells by some way -/
def IsRow (cells : List V) (row : List Int) : Prop := ∃ way, way ≤ 4 ∧ pressBy way cells = some row
def sp_pressed (K : PySem.W.Frag) : Sp := fun vs H Q _ => ∃ (b : Bool) (a : Addr) (cells : List V), vs = [.ref a] ∧ SqL K H a cells ∧ (∀ c ∈ cells, CK b c) ∧ 1 ≤ cells.length ∧ cells.length ≤ 64 ∧
  ∀ p row H2, H p = none → Ex H H2 → IsRow cells row → H2 p = some (.lst (row.map V.int)) → Q (.ref p) H2
/-- what a way gives -/
def WayAt (H0 H : Hp) (cells : List V) (x : V) : Prop := x = .non ∨ ∃ p row, x = .ref p ∧ IsRow cells row ∧ H p = some (.lst (row.map V.int)) ∧ H0 p = none
theorem WayAt.ex {H0 H H' : Hp} {cells : List V} {x : V} (h : WayAt H0 H cells x) (e : Ex H H') : WayAt H0 H' cells x := by
  rcases h with h | ⟨p, row, h1, h2, h3, h4⟩
  · exact .inl h
  · exact .inr ⟨p, row, h1, h2, e _ _ h3, h4⟩
theorem ok_pressed (T : Gf K mg CG CP upA) (D : Dfn K mg "pressed" s_pressed) (c_press_by : Cal P w K mg base 7 "press_by" (sp_press_by K) []) : Cal P w K mg base 8 "pressed" (sp_pressed K) [] := by
  refine cal_mk D sc_pressed (fun _ _ _ _ _ _ us hl => match us, hl with | [_], _ => rfl) (fun vs H Q E h => ?_) (fun f cdv A outer s H vs Q E hr h => ?_)
  · obtain ⟨_, _, _, rfl, _⟩ := h; rfl
  · obtain ⟨b, a, cells, rfl, hS, hck, h1, hl, q⟩ := h
    refine ⟨_, pss_cons (ps_setLc (i := 1) (own := [("way", 2)]) (g := gName 2) (tt := tYes) (by rfl) sc_pressed.nd rfl rfl (sw_true rfl rfl rfl (by decide +kernel)) (pi_range1 (by rfl) T.range (pa_cons (pe_gc (by rfl) T.ways) pa_nil)) (blkOk_by (N := N_pressed) (sc := defScope s_pressed) (by decide +kernel)) (fun _ _ _ _ _ => pg_name (i := 2) sc_pressed.nd rfl (Or.inl rfl)) (fun _ _ _ _ _ => pts_nil) (fun _ _ _ _ _ => pe_c c_press_by hr (by decide) (by rfl) (pa_cons (pv 2) (pa_cons (pv 0) pa_nil))))
      (pss_cons (ps_setLc (i := 1) (own := [("row", 3)]) (g := gName 3) (by rfl) sc_pressed.nd rfl rfl (sw_true rfl rfl rfl (by decide +kernel)) (pi_list (pv 1)) (blkOk_by (N := N_pressed) (sc := defScope s_pressed) (by decide +kernel)) (fun _ _ _ _ _ => pg_name (i := 3) sc_pressed.nd rfl (Or.inl rfl)) (fun _ _ _ _ _ => pts_one (pt_cmpR op_notN (pv 3) pe_non (nomark _))) (fun _ _ _ _ _ => pv 3))
      (pss_one (ps_ret (pe_minLen rfl (by rfl) T.min (by rfl) T.len (by decide +kernel) (by decide +kernel) (pa_cons (pv 1) pa_nil))))), ?_⟩
    refine ⟨_, rfl, by decide, by decide, fun d nd => ?_⟩
    refine lc_it (walk_range (lo := 0) (n := 5)) (fun i H' => Ex H H' ∧ ∃ xs, H' d = some (.lst xs) ∧ xs.length = i ∧ (∀ x ∈ xs, WayAt H H' cells x ∧ x ≠ .ref d) ∧ (1 ≤ i → ∃ x ∈ xs, x ≠ .non)) ⟨Ex.n nd, [], upd_same, rfl, fun x hx => (by cases hx), fun h => absurd h (by decide)⟩ (fun _ _ _ _ => trivial) (fun i x H' H2 hi hI hy => ?_) (fun H' hI => ?_)
    · obtain ⟨e2, xs, hd, hxl, hxs, hne⟩ := hI
      obtain ⟨rfl, rfl⟩ := hy
      refine ⟨rfl, ?_⟩
      refine ⟨_, rfl, _, rfl, b, _, i, a, cells, rfl, by omega, by omega, exL hS e2, hck, h1, hl, ?_⟩
      have add : ∀ (y : V) (H3 : Hp), Ex H2 H3 → WayAt H H3 cells y → y ≠ .ref d → (i = 0 → y ≠ .non) → ∃ acc, H3 d = some (.lst acc) ∧ acc.length < sizeLine ∧ Ex H (upd H3 d (.lst (acc ++ [y]))) ∧ ∃ xs, (upd H3 d (.lst (acc ++ [y]))) d = some (.lst xs) ∧ xs.length = i + 1 ∧ (∀ x ∈ xs, WayAt H (upd H3 d (.lst (acc ++ [y]))) cells x ∧ x ≠ .ref d) ∧ (1 ≤ i + 1 → ∃ x ∈ xs, x ≠ .non) := fun y H3 e3 hy hyd hy0 => by
        have keep : ∀ x, WayAt H H3 cells x → x ≠ .ref d → WayAt H (upd H3 d (.lst (xs ++ [y]))) cells x := fun x hx hxd => by
          rcases hx with hx | ⟨p, row, g1, g2, g3, g4⟩
          · exact .inl hx
          · exact .inr ⟨p, row, g1, g2, by rw [upd_ne (fun e => hxd (by rw [g1, e]))]; exact g3, g4⟩
        refine ⟨xs, e3 _ _ hd, smlt (by omega), (e2.trans e3).mut nd, xs ++ [y], upd_same, by rw [List.length_append, hxl]; rfl, fun x hx => ?_, fun _ => ?_⟩
        · rcases List.mem_append.mp hx with hx | hx
          · obtain ⟨g1, g2⟩ := hxs x hx
            exact ⟨keep x (g1.ex e3) g2, g2⟩
          · rw [List.mem_singleton.mp hx]
            exact ⟨keep y hy hyd, hyd⟩
        · rcases Nat.eq_zero_or_pos i with e | e
          · exact ⟨y, List.mem_append_right _ (by simp), hy0 e⟩
          · obtain ⟨x, g1, g2⟩ := hne e
            exact ⟨x, List.mem_append_left _ g1, g2⟩
      cases hp : pressBy i cells with
      | none => exact fun H3 e3 => add .non H3 e3 (.inl rfl) (fun e => by cases e) (fun e => by rw [e] at hp; cases hp)
      | some row => exact fun p H3 np e3 hp3 => add (.ref p) H3 e3 (.inr ⟨p, row, rfl, ⟨i, by omega, hp⟩, hp3, Evl.fresh_back e2 np⟩) (fun e => ne_of_none hd np (by injection e with e; exact e.symm)) (fun _ e => by cases e)
    · obtain ⟨e2, xs, hd, hxl, hxs, hne⟩ := hI
      refine ⟨_, rfl, _, rfl, ⟨_, lsOf hd⟩, fun d2 nd2 => ?_⟩
      refine lc_it walk_list (fun i H'' => Ex H' H'' ∧ H'' d2 = some (.lst ((xs.take i).filter fun x => !decide (x = .non)))) ⟨Ex.n nd2, upd_same⟩ (fun i H'' hi hI => lsOf (hI.1 _ _ hd)) (fun i x H'' H2 hi hI hy => ?_) (fun H'' hI => ?_)
      · obtain ⟨e3, hd3⟩ := hI
        obtain ⟨rfl, hx⟩ := hy
        have hle : ((xs.take i).filter fun x => !decide (x = .non)).length ≤ 5 := Nat.le_trans (List.length_filter_le _ _) (by rw [List.length_take]; omega)
        have ek : (xs.take (i + 1)).filter (fun x => !decide (x = .non)) = ((xs.take i).filter fun x => !decide (x = .non)) ++ [x].filter fun x => !decide (x = .non) := by
          rw [List.take_add_one, hx, List.filter_append]
          rfl
        refine ⟨rfl, ?_⟩
        refine ⟨_, rfl, rfl, _, rfl, ifB (fun hn => ?_) (fun hn => ?_)⟩
        · refine ⟨_, rfl, _, hd3, smlt (by omega), e3.mut nd2, ?_⟩
          rw [upd_same, ek, List.filter_cons, if_pos hn]
          rfl
        · refine ⟨e3, ?_⟩
          rw [hd3, ek, List.filter_cons, if_neg (by rw [hn]; decide)]
          simp
      · obtain ⟨e3, hd3⟩ := hI
        rw [List.take_length] at hd3
        refine ⟨_, rfl, _, _, rfl, lsOf hd3, ?_, fun x hx => ?_, fun m hm => ?_⟩
        · obtain ⟨x, g1, g2⟩ := hne (by decide)
          exact List.length_pos_of_mem (List.mem_filter.mpr ⟨g1, by rw [decide_eq_false g2]; rfl⟩)
        · obtain ⟨g1, g2⟩ := List.mem_filter.mp hx
          rcases (hxs x g1).1 with g | ⟨p, row, g3, g4, g5, g6⟩
          · exact absurd g (of_decide_eq_false (nT g2))
          · exact ⟨p, _, g3, lsOf (e3 _ _ g5)⟩
        · obtain ⟨g1, g2⟩ := List.mem_filter.mp hm
          rcases (hxs m g1).1 with g | ⟨p, row, g3, g4, g5, g6⟩
          · exact absurd g (of_decide_eq_false (nT g2))
          · rw [g3]
            exact q p row H'' g6 (e2.trans e3) g4 (e3 _ _ g5)
end
end Pk
set_option Elab.async false
set_option linter.all false
set_option maxRecDepth 100000
set_option maxHeartbeats 4000000
set_option autoImplicit false
namespace Pk
open PySem PySem.Spec PyProof.Rows L2
open C8 (Cal Met Mak pe_c pe_mk pe_mt pe_mt0 pe_gc)
section
variable {P : Program} {w : World} {K : PySem.W.Frag} {mg : Str → Option Value} {base : Heap} {CG CP upA : Addr}
/-! ### take_byte, take_count, take_cells, take_runs, take_book, take_small -/
def sp_take_byte (K : PySem.W.Frag) : Sp := fun vs H Q _ => ∃ (a : Addr) (i : Int) (row : List Int) (k : Nat) (x : Int), vs = [.ref a, .int i] ∧ i = (k : Int) ∧ SqL K H a (row.map V.int) ∧ row[k]? = some x ∧ GT [.int x, .int ((k : Int) + 1)] H Q
theorem ok_take_byte (T : Gf K mg CG CP upA) (D : Dfn K mg "take_byte" s_take_byte)  : Cal P w K mg base 1 "take_byte" (sp_take_byte K) [] := by
  refine cal_mk D sc_take_byte (fun _ _ _ _ _ _ us hl => match us, hl with | [_, _], _ => rfl) (fun vs H Q E h => ?_) (fun f cdv A outer s H vs Q E hr h => ?_)
  · obtain ⟨_, _, _, _, _, rfl, _⟩ := h; rfl
  · obtain ⟨a, i, row, k, x, rfl, rfl, hS, hx, q⟩ := h
    refine ⟨_, pss_cons (ps_if (pt_cmpR op_ge (pv 1) (pe_callB call_len_seq (by rfl) T.len (by decide +kernel) (pa_cons (pv 0) pa_nil)) (nomark _)) (pss_never) (pss_nil))
      (pss_one (ps_ret (pe_tup (pa_cons (pe_ix ix_list (pv 0) (pv 1) (fun _ _ => rfl)) (pa_cons (pe_op op_add (pv 1) (pe_int)) pa_nil))))), ?_⟩
    have := lt_of_at hx
    refine ⟨_, rfl, _, rfl, _, _, rfl, .inl hS, _, _, rfl, rfl, _, rfl, ifF (dF (by rw [List.length_map]; omega)) ?_⟩
    exact ⟨_, rfl, _, rfl, _, _, _, _, rfl, rfl, hS, at_int hx rfl, _, rfl, _, _, rfl, rfl, Nat.le_of_ble_eq_true rfl, fun p np => q.go (Ex.r H) np⟩
def sp_take_count (K : PySem.W.Frag) : Sp := fun vs H Q _ => ∃ (a : Addr) (i j : Int) (row : List Int) (k n most : Nat), vs = [.ref a, .int i, .int j] ∧ i = (k : Int) ∧ j = (most : Int) ∧ SqL K H a (row.map V.int) ∧ At row k (nb (n : Int)) ∧ 1 ≤ n ∧ n ≤ most ∧ most ≤ 100000 ∧ GT [.int (n : Int), .int ((k : Int) + ((nb (n : Int)).length : Int))] H Q
theorem ok_take_count (T : Gf K mg CG CP upA) (D : Dfn K mg "take_count" s_take_count) (c_take_number : Cal P w K mg base 2 "take_number" (sp_take_number K) []) : Cal P w K mg base 3 "take_count" (sp_take_count K) [] := by
  refine cal_mk D sc_take_count (fun _ _ _ _ _ _ us hl => match us, hl with | [_, _, _], _ => rfl) (fun vs H Q E h => ?_) (fun f cdv A outer s H vs Q E hr h => ?_)
  · obtain ⟨_, _, _, _, _, _, _, rfl, _⟩ := h; rfl
  · obtain ⟨a, i, j, row, k, n, most, rfl, rfl, rfl, hS, hA, h1, h2, h3, q⟩ := h
    refine ⟨_, pss_cons (ps_asg (pe_c c_take_number hr (by decide) (by rfl) (pa_cons (pv 0) (pa_cons (pv 1) pa_nil))) (pg_tup (by rfl) (pgs_cons (pg_name (i := 3) sc_take_count.nd rfl (Or.inl rfl)) (pgs_cons (pg_name (i := 1) sc_take_count.nd rfl (Or.inl rfl)) pgs_nil))))
      (pss_cons (ps_if (pt_not (pt_chain op_le op_le (pe_int) (pv 3) (pv 2))) (pss_never) (pss_nil))
      (pss_one (ps_ret (pe_tup (pa_cons (pv 3) (pa_cons (pv 1) pa_nil)))))), ?_⟩
    refine ⟨_, rfl, _, rfl, a, _, row, k, (n : Int), rfl, rfl, hS, hA, Sm.nat (by omega), fun p H1 np e1 hp => ?_⟩
    refine ⟨_, _, rfl, .inl (.inl hp), rfl, _, _, rfl, _, _, rfl, rfl, ?_⟩
    refine ⟨_, rfl, _, _, rfl, rfl, _, rfl, ifT (dT (by omega)) ⟨_, rfl, _, _, rfl, rfl, _, rfl, ifF (by rw [dT (by omega)]; rfl) ?_⟩⟩
    exact ⟨_, rfl, _, rfl, Nat.le_of_ble_eq_true rfl, fun p2 np2 => q.go e1 np2⟩
theorem At.to {row : List Int} {k : Nat} {a b : List Int} (h : At row k a) (e : a = b) : At row k b := e ▸ h
theorem abB_split {cs : List V} {i : Nat} {c : V} (h : cs[i]? = some c) : abB cs = abB (cs.take i) ++ (cb c ++ abB (cs.drop (i + 1))) := by
  obtain ⟨hi, e⟩ := List.getElem?_eq_some_iff.mp h
  conv => lhs; rw [← List.take_append_drop i cs, List.drop_eq_getElem_cons hi, e]
  unfold abB
  rw [List.flatMap_append, List.flatMap_cons]
def sp_take_cells (K : PySem.W.Frag) : Sp := fun vs H Q _ => ∃ (a : Addr) (i j : Int) (row : List Int) (k : Nat) (cs : List V), vs = [.ref a, .int i, .int j] ∧ i = (k : Int) ∧ j = (cs.length : Int) ∧ SqL K H a (row.map V.int) ∧ At row k (abB cs) ∧ (∀ c ∈ cs, CellOk c) ∧ cs.length ≤ 1000 ∧ GTL cs ((k : Int) + ((abB cs).length : Int)) H Q
theorem ok_take_cells (T : Gf K mg CG CP upA) (D : Dfn K mg "take_cells" s_take_cells) (c_take_cell : Cal P w K mg base 4 "take_cell" (sp_take_cell K) []) : Cal P w K mg base 5 "take_cells" (sp_take_cells K) [] := by
  refine cal_mk D sc_take_cells (fun _ _ _ _ _ _ us hl => match us, hl with | [_, _, _], _ => rfl) (fun vs H Q E h => ?_) (fun f cdv A outer s H vs Q E hr h => ?_)
  · obtain ⟨_, _, _, _, _, _, rfl, _⟩ := h; rfl
  · obtain ⟨a, i, j, row, k, cs, rfl, rfl, rfl, hS, hA, hc, hl, q⟩ := h
    refine ⟨_, pss_cons (ps_set (i := 3) sc_take_cells.nd rfl (Or.inl rfl) (pe_lst (pa_nil)))
      (pss_cons (ps_for PassesOwn.never rfl (pi_range1 (by rfl) T.range (pa_cons (pv 2) pa_nil)) (pg_name (i := 4) sc_take_cells.nd rfl (Or.inl rfl))
        (pss_cons (ps_asg (pe_c c_take_cell hr (by decide) (by rfl) (pa_cons (pv 0) (pa_cons (pv 1) pa_nil))) (pg_tup (by rfl) (pgs_cons (pg_name (i := 5) sc_take_cells.nd rfl (Or.inl rfl)) (pgs_cons (pg_name (i := 1) sc_take_cells.nd rfl (Or.inl rfl)) pgs_nil))))
        (pss_one (ps_expr (pe_bm PySem.F.plainAttrs_list PySem.F.slot_list_append PySem.F.type_list_append mt_append (pv 3) (pa_cons (pv 5) pa_nil))))))
      (pss_one (ps_ret (pe_tup (pa_cons (pv 3) (pa_cons (pv 1) pa_nil)))))), ?_⟩
    refine ⟨Nat.zero_le _, fun p np => ?_⟩
    refine ⟨_, rfl, _, rfl, by omega, by omega, for_range (lo := 0) (n := cs.length) (fun t σ' H' => Ex H H' ∧ H' p = some (.lst (cs.take t)) ∧ ∃ y4 y5, σ' = [some (.ref a), some (.int (((k + (abB (cs.take t)).length : Nat)) : Int)), some (.int (cs.length : Int)), some (.ref p), y4, y5])
      ⟨Ex.n np, upd_same, none, none, rfl⟩ (fun t σ' H' ht hI => ?_) (fun σ' H' hI => ?_)⟩
    · obtain ⟨e2, hd, y4, y5, rfl⟩ := hI
      have hx : cs[t]? = some cs[t] := List.getElem?_eq_getElem ht
      have hA2 := (hA.to (abB_split hx)).right.left
      refine ⟨_, rfl, _, rfl, a, _, row, k + (abB (cs.take t)).length, cs[t], rfl, rfl, exL hS e2, hA2, hc _ (List.getElem_mem ht), fun p2 H2 np2 e3 hp2 => ?_⟩
      refine ⟨_, _, rfl, .inl (.inl hp2), rfl, _, _, rfl, _, _, rfl, rfl, ?_⟩
      have hd3 := e3 _ _ hd
      refine ⟨_, rfl, .inl ⟨rfl, _, .inl (.inl hd3)⟩, _, rfl, _, _, _, rfl, rfl, hd3, smlt (by rw [List.length_take]; omega), (e2.trans e3).mut np, ?_, some (.int (0 + (t : Int))), some cs[t], ?_⟩
      · rw [upd_same, List.take_add_one, hx]
        rfl
      · rw [List.take_add_one, hx]
        show _ = [_, some (V.int ((k + (abB (cs.take t ++ [cs[t]])).length : Nat) : Int)), _, _, _, _]
        rw [abB_snoc, List.length_append, show ((k + ((abB (cs.take t)).length + (cb cs[t]).length) : Nat) : Int) = ((k + (abB (cs.take t)).length : Nat) : Int) + ((cb cs[t]).length : Int) by omega]
        rfl
    · obtain ⟨e2, hd, y4, y5, rfl⟩ := hI
      rw [List.take_length] at hd
      rw [List.take_length]
      exact ⟨_, rfl, _, rfl, Nat.le_of_ble_eq_true rfl, fun p3 np3 => q.go np e2 hd np3 (by omega)⟩
theorem rnB_split {rs : List (V × Nat)} {i : Nat} {r : V × Nat} (h : rs[i]? = some r) : rs.flatMap rnB = (rs.take i).flatMap rnB ++ (rnB r ++ (rs.drop (i + 1)).flatMap rnB) := by
  obtain ⟨hi, e⟩ := List.getElem?_eq_some_iff.mp h
  conv => lhs; rw [← List.take_append_drop i rs, List.drop_eq_getElem_cons hi, e]
  rw [List.flatMap_append, List.flatMap_cons]
/-- runs as they are read -/
def rsB (rs : List (V × Nat)) : List Int := nb (rs.length : Int) ++ rs.flatMap rnB
def sp_take_runs (K : PySem.W.Frag) : Sp := fun vs H Q _ => ∃ (a : Addr) (i j : Int) (row : List Int) (k many : Nat) (rs : List (V × Nat)), vs = [.ref a, .int i, .int j] ∧ i = (k : Int) ∧ j = (many : Int) ∧ SqL K H a (row.map V.int) ∧ At row k (rsB rs) ∧ (∀ r ∈ rs, CellOk r.1 ∧ 1 ≤ r.2 ∧ r.2 ≤ many) ∧ 1 ≤ rs.length ∧ rs.length ≤ many ∧ many ≤ 1000 ∧
  ∀ p l xs H2, H l = none → Ex H H2 → H2 l = some (.lst xs) → RunsAt H2 rs xs → H2 p = some (.tup [.ref l, .int ((k : Int) + ((rsB rs).length : Int))]) → Q (.ref p) H2
theorem ok_take_runs (T : Gf K mg CG CP upA) (D : Dfn K mg "take_runs" s_take_runs) (c_take_count : Cal P w K mg base 3 "take_count" (sp_take_count K) []) (c_take_cell : Cal P w K mg base 4 "take_cell" (sp_take_cell K) []) : Cal P w K mg base 5 "take_runs" (sp_take_runs K) [] := by
  refine cal_mk D sc_take_runs (fun _ _ _ _ _ _ us hl => match us, hl with | [_, _, _], _ => rfl) (fun vs H Q E h => ?_) (fun f cdv A outer s H vs Q E hr h => ?_)
  · obtain ⟨_, _, _, _, _, _, _, rfl, _⟩ := h; rfl
  · obtain ⟨a, i, j, row, k, many, rs, rfl, rfl, rfl, hS, hA, hrs, h1, h2, hm, q⟩ := h
    refine ⟨_, pss_cons (ps_asg (pe_c c_take_count hr (by decide) (by rfl) (pa_cons (pv 0) (pa_cons (pv 1) (pa_cons (pv 2) pa_nil)))) (pg_tup (by rfl) (pgs_cons (pg_name (i := 3) sc_take_runs.nd rfl (Or.inl rfl)) (pgs_cons (pg_name (i := 1) sc_take_runs.nd rfl (Or.inl rfl)) pgs_nil))))
      (pss_cons (ps_set (i := 4) sc_take_runs.nd rfl (Or.inl rfl) (pe_lst (pa_nil)))
      (pss_cons (ps_for PassesOwn.never rfl (pi_range1 (by rfl) T.range (pa_cons (pv 3) pa_nil)) (pg_name (i := 5) sc_take_runs.nd rfl (Or.inl rfl))
        (pss_cons (ps_asg (pe_c c_take_cell hr (by decide) (by rfl) (pa_cons (pv 0) (pa_cons (pv 1) pa_nil))) (pg_tup (by rfl) (pgs_cons (pg_name (i := 6) sc_take_runs.nd rfl (Or.inl rfl)) (pgs_cons (pg_name (i := 1) sc_take_runs.nd rfl (Or.inl rfl)) pgs_nil))))
        (pss_cons (ps_asg (pe_c c_take_count hr (by decide) (by rfl) (pa_cons (pv 0) (pa_cons (pv 1) (pa_cons (pv 2) pa_nil)))) (pg_tup (by rfl) (pgs_cons (pg_name (i := 7) sc_take_runs.nd rfl (Or.inl rfl)) (pgs_cons (pg_name (i := 1) sc_take_runs.nd rfl (Or.inl rfl)) pgs_nil))))
        (pss_one (ps_expr (pe_bm PySem.F.plainAttrs_list PySem.F.slot_list_append PySem.F.type_list_append mt_append (pv 4) (pa_cons (pe_tup (pa_cons (pv 6) (pa_cons (pv 7) pa_nil))) pa_nil)))))))
      (pss_one (ps_ret (pe_tup (pa_cons (pv 4) (pa_cons (pv 1) pa_nil))))))), ?_⟩
    refine ⟨_, rfl, _, rfl, _, rfl, a, _, _, row, k, rs.length, many, rfl, rfl, rfl, hS, hA.left, h1, h2, by omega, fun p1 H1 np1 e1 hp1 => ?_⟩
    refine ⟨_, _, rfl, .inl (.inl hp1), rfl, _, _, rfl, _, _, rfl, rfl, ?_⟩
    have hA2 := hA.right
    refine ⟨Nat.zero_le _, fun p np => ?_⟩
    refine ⟨_, rfl, _, rfl, by omega, by omega, for_range (lo := 0) (n := rs.length) (fun t σ' H' => Ex H1 H' ∧ ∃ xs, H' p = some (.lst xs) ∧ RunsAt H' (rs.take t) xs ∧ ∃ y5 y6 y7, σ' = [some (.ref a), some (.int (((k + (nb (rs.length : Int)).length + ((rs.take t).flatMap rnB).length : Nat)) : Int)), some (.int (many : Int)), some (.int (rs.length : Int)), some (.ref p), y5, y6, y7])
      ⟨Ex.n np, [], upd_same, ⟨rfl, fun i r hr => by cases hr⟩, none, none, none, ?_⟩ (fun t σ' H' ht hI => ?_) (fun σ' H' hI => ?_)⟩
    · rw [List.take_zero]
      rfl
    · obtain ⟨e2, xs, hd, hR, y5, y6, y7, rfl⟩ := hI
      have hx : rs[t]? = some rs[t] := List.getElem?_eq_getElem ht
      obtain ⟨g1, g2, g3⟩   := hrs _ (List.getElem_mem ht)
      have hA3 := (hA2.to (rnB_split hx)).right.left
      refine ⟨_, rfl, _, rfl, a, _, row, k + (nb (rs.length : Int)).length + ((rs.take t).flatMap rnB).length, rs[t].1, rfl, rfl, exL hS (e1.trans e2), hA3.left, g1, fun p2 H2 np2 e3 hp2 => ?_⟩
      refine ⟨_, _, rfl, .inl (.inl hp2), rfl, _, _, rfl, _, _, rfl, rfl, ?_⟩
      refine ⟨_, rfl, _, rfl, _, rfl, a, _, _, row, k + (nb (rs.length : Int)).length + ((rs.take t).flatMap rnB).length + (cb rs[t].1).length, rs[t].2, many, rfl, by omega, rfl, exL hS ((e1.trans e2).trans e3), hA3.right, g2, g3, by omega, fun p3 H3 np3 e4 hp3 => ?_⟩
      refine ⟨_, _, rfl, .inl (.inl hp3), rfl, _, _, rfl, _, _, rfl, rfl, ?_⟩
      have hd3 := e4 _ _ (e3 _ _ hd)
      refine ⟨_, rfl, .inl ⟨rfl, _, .inl (.inl hd3)⟩, _, rfl, _, rfl, Nat.le_of_ble_eq_true rfl, fun p4 np4 => ?_⟩
      have hd4 := Ex.n (o := .tup [rs[t].1, .int (rs[t].2 : Int)]) np4 _ _ hd3
      have hRl := hR.1
      rw [List.length_take] at hRl
      refine ⟨_, _, _, rfl, rfl, hd4, smlt (by omega), ((e2.trans e3).trans (e4.trans (Ex.n np4))).mut np, xs ++ [.ref p4], upd_same, ?_, some (.int (0 + (t : Int))), some rs[t].1, some (.int (rs[t].2 : Int)), ?_⟩
      · rw [List.take_add_one, hx]
        exact RunsAt.snoc ((hR.ex ((e3.trans e4).trans (Ex.n np4))).keep fun q3 zs h3 => tupK hd4 h3) (tupK hd4 upd_same)
      · rw [List.take_add_one, hx]
        show _ = [_, some (V.int ((k + (nb (rs.length : Int)).length + ((rs.take t ++ [rs[t]]).flatMap rnB).length : Nat) : Int)), _, _, _, _, _, _]
        rw [rnB_snoc, List.length_append]
        have e9 : (rnB rs[t]).length = (cb rs[t].1).length + (nb (rs[t].2 : Int)).length := List.length_append
        rw [show ((k + (nb (rs.length : Int)).length + (((rs.take t).flatMap rnB).length + (rnB rs[t]).length) : Nat) : Int) = ((k + (nb (rs.length : Int)).length + ((rs.take t).flatMap rnB).length + (cb rs[t].1).length : Nat) : Int) + ((nb (rs[t].2 : Int)).length : Int) by omega]
        rfl
    · obtain ⟨e2, xs, hd, hR, y5, y6, y7, rfl⟩ := hI
      rw [List.take_length] at hR
      rw [List.take_length]
      refine ⟨_, rfl, _, rfl, Nat.le_of_ble_eq_true rfl, fun p3 np3 => ?_⟩
      refine q p3 p xs _ (Evl.fresh_back e1 np) ((e1.trans e2).trans (Ex.n np3)) (Ex.n np3 _ _ hd) (hR.ex (Ex.n np3)) ?_
      rw [upd_same]
      unfold rsB
      rw [List.length_append, show ((k : Int) + (((nb (rs.length : Int)).length + (rs.flatMap rnB).length : Nat) : Int)) = ((k + (nb (rs.length : Int)).length + (rs.flatMap rnB).length : Nat) : Int) by omega]
/-- a book and places as they are read -/
def bkB (book : List V) (ps : List Int) : List Int := nb (book.length : Int) ++ abB book ++ pk ps (bf (book.length - 1))
def sp_take_book (K : PySem.W.Frag) : Sp := fun vs H Q _ => ∃ (a : Addr) (i j : Int) (row : List Int) (k : Nat) (book : List V) (ps : List Int), vs = [.ref a, .int i, .int j] ∧ i = (k : Int) ∧ j = (ps.length : Int) ∧ SqL K H a (row.map V.int) ∧ At row k (bkB book ps) ∧ (∀ c ∈ book, CellOk c) ∧ 1 ≤ book.length ∧ book.length ≤ ps.length ∧ ps.length ≤ 64 ∧ InW (bf (book.length - 1)) ps ∧
  ∀ p l l2 H2, Ex H H2 → H2 l = some (.lst book) → H2 l2 = some (.lst (ps.map V.int)) → H2 p = some (.tup [.ref l, .ref l2, .int ((k : Int) + ((bkB book ps).length : Int))]) → Q (.ref p) H2
theorem ok_take_book (T : Gf K mg CG CP upA) (D : Dfn K mg "take_book" s_take_book) (c_take_count : Cal P w K mg base 3 "take_count" (sp_take_count K) []) (c_take_cells : Cal P w K mg base 5 "take_cells" (sp_take_cells K) []) (c_take_packed : Cal P w K mg base 2 "take_packed" (sp_take_packed K) []) (c_bits_for : Cal P w K mg base 1 "bits_for" (sp_bits_for K) []) : Cal P w K mg base 6 "take_book" (sp_take_book K) [] := by
  refine cal_mk D sc_take_book (fun _ _ _ _ _ _ us hl => match us, hl with | [_, _, _], _ => rfl) (fun vs H Q E h => ?_) (fun f cdv A outer s H vs Q E hr h => ?_)
  · obtain ⟨_, _, _, _, _, _, _, rfl, _⟩ := h; rfl
  · obtain ⟨a, i, j, row, k, book, ps, rfl, rfl, rfl, hS, hA, hc, h1, h2, h3, hw, q⟩ := h
    refine ⟨_, pss_cons (ps_asg (pe_c c_take_count hr (by decide) (by rfl) (pa_cons (pv 0) (pa_cons (pv 1) (pa_cons (pv 2) pa_nil)))) (pg_tup (by rfl) (pgs_cons (pg_name (i := 3) sc_take_book.nd rfl (Or.inl rfl)) (pgs_cons (pg_name (i := 1) sc_take_book.nd rfl (Or.inl rfl)) pgs_nil))))
      (pss_cons (ps_asg (pe_c c_take_cells hr (by decide) (by rfl) (pa_cons (pv 0) (pa_cons (pv 1) (pa_cons (pv 3) pa_nil)))) (pg_tup (by rfl) (pgs_cons (pg_name (i := 4) sc_take_book.nd rfl (Or.inl rfl)) (pgs_cons (pg_name (i := 1) sc_take_book.nd rfl (Or.inl rfl)) pgs_nil))))
      (pss_cons (ps_asg (pe_c c_take_packed hr (by decide) (by rfl) (pa_cons (pv 0) (pa_cons (pv 1) (pa_cons (pv 2) (pa_cons (pe_c c_bits_for hr (by decide) (by rfl) (pa_cons (pe_op op_sub (pv 3) (pe_int)) pa_nil)) pa_nil))))) (pg_tup (by rfl) (pgs_cons (pg_name (i := 5) sc_take_book.nd rfl (Or.inl rfl)) (pgs_cons (pg_name (i := 1) sc_take_book.nd rfl (Or.inl rfl)) pgs_nil))))
      (pss_one (ps_ret (pe_tup (pa_cons (pv 4) (pa_cons (pv 5) (pa_cons (pv 1) pa_nil)))))))), ?_⟩
    refine ⟨_, rfl, _, rfl, _, rfl, a, _, _, row, k, book.length, ps.length, rfl, rfl, rfl, hS, hA.left.left, h1, h2, by omega, fun p1 H1 np1 e1 hp1 => ?_⟩
    refine ⟨_, _, rfl, .inl (.inl hp1), rfl, _, _, rfl, _, _, rfl, rfl, ?_⟩
    have hA2 := hA.left.right
    refine ⟨_, rfl, _, rfl, _, rfl, a, _, _, row, k + (nb (book.length : Int)).length, book, rfl, by omega, rfl, exL hS e1, hA2, hc, by omega, fun p2 l H2 nl e2 hl hp2 => ?_⟩
    refine ⟨_, _, rfl, .inl (.inl hp2), rfl, _, _, rfl, _, _, rfl, rfl, ?_⟩
    have hA3 := hA.right
    rw [List.length_append] at hA3
    refine ⟨_, rfl, _, rfl, _, rfl, _, rfl, _, _, rfl, rfl, _, book.length - 1, rfl, by omega, ?_⟩
    refine ⟨a, _, _, _, row, k + ((nb (book.length : Int)).length + (abB book).length), ps, bf (book.length - 1), rfl, by omega, rfl, rfl, exL hS (e1.trans e2), hA3, hw, h3, bf_small (by omega), fun p3 l2 H3 nl2 e3 hl2 hp3 => ?_⟩
    refine ⟨_, _, rfl, .inl (.inl hp3), rfl, _, _, rfl, _, _, rfl, rfl, ?_⟩
    refine ⟨_, rfl, _, rfl, _, rfl, Nat.le_of_ble_eq_true rfl, fun p4 np4 => ?_⟩
    refine q p4 l l2 _ (((e1.trans e2).trans e3).trans (Ex.n np4)) (Ex.n np4 _ _ (e3 _ _ hl)) (Ex.n np4 _ _ hl2) ?_
    rw [upd_same]
    unfold bkB
    rw [List.length_append, List.length_append]
    congr 5
    congr 1
    omega
def sp_take_small (K : PySem.W.Frag) : Sp := fun vs H Q _ => ∃ (a : Addr) (i j : Int) (row : List Int) (k : Nat) (ns : List Int), vs = [.ref a, .int i, .int j] ∧ i = (k : Int) ∧ j = (ns.length : Int) ∧ SqL K H a (row.map V.int) ∧ At row k (smB ns) ∧ ns.length ≤ 64 ∧ (∀ n ∈ ns, 0 ≤ n ∧ n < 4611686018427387904) ∧ GTL (ns.map V.int) ((k : Int) + ((smB ns).length : Int)) H Q
theorem GTL.to {xs ys : List V} {i j : Int} {H : Hp} {Q : VK} (k : GTL xs i H Q) (h : xs = ys) (e : i = j) : GTL ys j H Q := by
  rw [← h, ← e]
  exact k
theorem GTL.up {xs : List V} {i : Int} {H H1 : Hp} {Q : VK} (k : GTL xs i H Q) (e : Ex H H1) : GTL xs i H1 Q := fun p l H2 nl e2 hl hp => k p l H2 (Evl.fresh_back e nl) (e.trans e2) hl hp
theorem ok_take_small (T : Gf K mg CG CP upA) (D : Dfn K mg "take_small" s_take_small) (c_take_byte : Cal P w K mg base 1 "take_byte" (sp_take_byte K) []) (c_take_packed : Cal P w K mg base 2 "take_packed" (sp_take_packed K) []) : Cal P w K mg base 3 "take_small" (sp_take_small K) [] := by
  refine cal_mk D sc_take_small (fun _ _ _ _ _ _ us hl => match us, hl with | [_, _, _], _ => rfl) (fun vs H Q E h => ?_) (fun f cdv A outer s H vs Q E hr h => ?_)
  · obtain ⟨_, _, _, _, _, _, rfl, _⟩ := h; rfl
  · obtain ⟨a, i, j, row, k, ns, rfl, rfl, rfl, hS, hA, hl, hb, q⟩ := h
    refine ⟨_, pss_cons (ps_asg (pe_c c_take_byte hr (by decide) (by rfl) (pa_cons (pv 0) (pa_cons (pv 1) pa_nil))) (pg_tup (by rfl) (pgs_cons (pg_name (i := 3) sc_take_small.nd rfl (Or.inl rfl)) (pgs_cons (pg_name (i := 1) sc_take_small.nd rfl (Or.inl rfl)) pgs_nil))))
      (pss_cons (ps_if (pt_cmpR op_gt (pv 3) (pe_gc (by rfl) T.most_wide) (nomark _)) (pss_never) (pss_nil))
      (pss_one (ps_ret (pe_c c_take_packed hr (by decide) (by rfl) (pa_cons (pv 0) (pa_cons (pv 1) (pa_cons (pv 2) (pa_cons (pv 3) pa_nil)))))))), ?_⟩
    have hw := wd_le (ns := ns) fun n hn => (hb n hn).2
    refine ⟨_, rfl, _, rfl, a, _, row, k, (wdB ns : Int), rfl, rfl, hS, hA.head, fun p1 H1 np1 e1 hp1 => ?_⟩
    refine ⟨_, _, rfl, .inl (.inl hp1), rfl, _, _, rfl, _, _, rfl, rfl, ?_⟩
    refine ⟨_, rfl, _, _, rfl, rfl, _, rfl, ifF (dF (by omega)) ?_⟩
    refine ⟨_, rfl, _, rfl, _, rfl, _, rfl, a, _, _, _, row, k + 1, ns, wdB ns, rfl, by omega, rfl, rfl, exL hS e1, hA.tail, sm_inw fun n hn => (hb n hn).1, hl, hw, (q.up e1).to rfl ?_⟩
    show _ = ((k + 1 : Nat) : Int) + ((pk ns (wdB ns)).length : Int)
    unfold smB
    rw [List.length_cons]
    omega
end
end Pk
set_option Elab.async false
set_option linter.all false
set_option maxRecDepth 100000
set_option maxHeartbeats 4000000
set_option autoImplicit false
namespace Pk
open PySem PySem.Spec PyProof.Rows L2
open C8 (Cal Met Mak pe_c pe_mk pe_mt pe_mt0 pe_gc)
section
variable {P : Program} {w : World} {K : PySem.W.Frag} {mg : Str → Option Value} {base : Heap} {CG CP upA : Addr}
/-! ### run_cells, book_cells, base_cells, step_cells -/
theorem xpd_snoc (rs : List (V × Nat)) (r : V × Nat) : xpd (rs ++ [r]) = xpd rs ++ List.replicate r.2 r.1 := by
  unfold xpd
  rw [List.flatMap_append]
  simp
theorem xpd_take {rs : List (V × Nat)} (i : Nat) : (xpd (rs.take i)).length ≤ (xpd rs).length := by
  conv => rhs; rw [← List.take_append_drop i rs]
  unfold xpd
  rw [List.flatMap_append, List.length_append]
  exact Nat.le_add_right ..
def sp_run_cells (K : PySem.W.Frag) : Sp := fun vs H Q _ => ∃ (a : Addr) (i j : Int) (row : List Int) (k : Nat) (cs : List V), vs = [.ref a, .int i, .int j] ∧ i = (k : Int) ∧ j = (cs.length : Int) ∧ SqL K H a (row.map V.int) ∧ At row k (runB cs) ∧ (∀ c ∈ cs, CellOk c) ∧ 1 ≤ cs.length ∧ cs.length ≤ 64 ∧ GTL cs ((k : Int) + ((runB cs).length : Int)) H Q
theorem ok_run_cells (T : Gf K mg CG CP upA) (D : Dfn K mg "run_cells" s_run_cells) (c_take_runs : Cal P w K mg base 5 "take_runs" (sp_take_runs K) []) : Cal P w K mg base 6 "run_cells" (sp_run_cells K) [] := by
  refine cal_mk D sc_run_cells (fun _ _ _ _ _ _ us hl => match us, hl with | [_, _, _], _ => rfl) (fun vs H Q E h => ?_) (fun f cdv A outer s H vs Q E hr h => ?_)
  · obtain ⟨_, _, _, _, _, _, rfl, _⟩ := h; rfl
  · obtain ⟨a, i, j, row, k, cs, rfl, rfl, rfl, hS, hA, hc, h1, hl, q⟩ := h
    refine ⟨_, pss_cons (ps_asg (pe_c c_take_runs hr (by decide) (by rfl) (pa_cons (pv 0) (pa_cons (pv 1) (pa_cons (pv 2) pa_nil)))) (pg_tup (by rfl) (pgs_cons (pg_name (i := 3) sc_run_cells.nd rfl (Or.inl rfl)) (pgs_cons (pg_name (i := 1) sc_run_cells.nd rfl (Or.inl rfl)) pgs_nil))))
      (pss_cons (ps_set (i := 4) sc_run_cells.nd rfl (Or.inl rfl) (pe_lst (pa_nil)))
      (pss_cons (ps_for PassesOwn.never rfl (pi_list (pv 3)) (pg_tup (by rfl) (pgs_cons (pg_name (i := 5) sc_run_cells.nd rfl (Or.inl rfl)) (pgs_cons (pg_name (i := 6) sc_run_cells.nd rfl (Or.inl rfl)) pgs_nil)))
        (pss_one (ps_expr (pe_bm PySem.F.plainAttrs_list PySem.F.slot_list_extend PySem.F.type_list_extend mt_extend (pv 4) (pa_cons (pe_op op_rep (pe_lst (pa_cons (pv 5) pa_nil)) (pv 6)) pa_nil)))))
      (pss_one (ps_ret (pe_tup (pa_cons (pv 4) (pa_cons (pv 1) pa_nil))))))), ?_⟩
    have hri := runs_in cs
    refine ⟨_, rfl, _, rfl, _, rfl, a, _, _, row, k, cs.length, runsOf cs, rfl, rfl, rfl, hS, hA, fun r hr => ⟨hc _ (hri r hr).1, (hri r hr).2⟩, runs_pos h1, runs_len cs, by omega, fun p1 l xs H1 nl e1 hl1 hR hp1 => ?_⟩
    refine ⟨_, _, rfl, .inl (.inl hp1), rfl, _, _, rfl, _, _, rfl, rfl, ?_⟩
    refine ⟨Nat.zero_le _, fun p np => ?_⟩
    have e2 := Ex.n (o := .lst []) np
    refine ⟨_, rfl, _, rfl, ⟨_, lsOf (e2 _ _ hl1)⟩, for_it walk_list (fun i σ' H' => Ex H1 H' ∧ H' p = some (.lst (xpd ((runsOf cs).take i))) ∧ ∃ y5 y6, σ' = [some (.ref a), some (.int ((k : Int) + ((runB cs).length : Int))), some (.int (cs.length : Int)), some (.ref l), some (.ref p), y5, y6]) ⟨e2, upd_same, none, none, rfl⟩
      (fun i σ' H' _ hI => lsOf (hI.1 _ _ hl1)) (fun i x σ' H' H2 hi hI hy => ?_) (fun σ' H' hI => ?_)⟩
    · obtain ⟨e3, hd, y5, y6, rfl⟩ := hI
      obtain ⟨rfl, hx⟩ := hy
      have hir : i < (runsOf cs).length := by rw [← hR.1]; exact hi
      have hx2 : (runsOf cs)[i]? = some (runsOf cs)[i] := List.getElem?_eq_getElem hir
      obtain ⟨pr, g1, g2⟩ := hR.2 i _ hx2
      obtain rfl : x = .ref pr := Option.some.inj (hx.symm.trans g1)
      have hm := hri _ (List.getElem_mem hir)
      have hxl := xpd_take (rs := runsOf cs) i
      rw [xpd_runsOf] at hxl
      refine ⟨_, _, rfl, tpOf (e3 _ _ g2), rfl, _, _, rfl, _, _, rfl, rfl, ?_⟩
      refine ⟨_, rfl, .inl ⟨rfl, _, .inl (.inl hd)⟩, _, rfl, Nat.le_of_ble_eq_true rfl, fun p2 np2 => ?_⟩
      refine ⟨_, rfl, _, _, _, rfl, rfl, upd_same, by omega, by omega, sml (by show 1 * _ ≤ _; rw [Nat.one_mul, Int.toNat_natCast]; omega), fun p3 np3 => ?_⟩
      rw [Int.toNat_natCast, List.flatten_replicate_singleton] at *
      refine ⟨_, _, _, _, rfl, rfl, Ex.n np3 _ _ (Ex.n np2 _ _ hd), upd_same, sml (by rw [List.length_replicate]; omega), ((e3.trans (Ex.n np2)).trans (Ex.n np3)).mut np, ?_, _, _, rfl⟩
      rw [upd_same, List.take_add_one, hx2]
      show _ = some (HO.lst (xpd ((runsOf cs).take i ++ [(runsOf cs)[i]])))
      rw [xpd_snoc]
    · obtain ⟨e3, hd, y5, y6, rfl⟩ := hI
      rw [hR.1, List.take_length, xpd_runsOf] at hd
      exact ⟨_, rfl, _, rfl, Nat.le_of_ble_eq_true rfl, fun p3 np3 => q.go (Evl.fresh_back e1 np) (e1.trans e3) hd np3 rfl⟩
theorem idx_at {l : List V} {c : V} (h : c ∈ l) : l[l.idxOf c]? = some c := List.getElem?_eq_some_iff.mpr ⟨List.idxOf_lt_length_of_mem h, List.getElem_idxOf _⟩
def sp_book_cells (K : PySem.W.Frag) : Sp := fun vs H Q _ => ∃ (a : Addr) (i j : Int) (row : List Int) (k : Nat) (cs : List V), vs = [.ref a, .int i, .int j] ∧ i = (k : Int) ∧ j = (cs.length : Int) ∧ SqL K H a (row.map V.int) ∧ At row k (bookB cs) ∧ (∀ c ∈ cs, CellOk c) ∧ 1 ≤ cs.length ∧ cs.length ≤ 64 ∧ GTL cs ((k : Int) + ((bookB cs).length : Int)) H Q
theorem ok_book_cells (T : Gf K mg CG CP upA) (D : Dfn K mg "book_cells" s_book_cells) (c_take_book : Cal P w K mg base 6 "take_book" (sp_take_book K) []) : Cal P w K mg base 7 "book_cells" (sp_book_cells K) [] := by
  refine cal_mk D sc_book_cells (fun _ _ _ _ _ _ us hl => match us, hl with | [_, _, _], _ => rfl) (fun vs H Q E h => ?_) (fun f cdv A outer s H vs Q E hr h => ?_)
  · obtain ⟨_, _, _, _, _, _, rfl, _⟩ := h; rfl
  · obtain ⟨a, i, j, row, k, cs, rfl, rfl, rfl, hS, hA, hc, h1, hl, q⟩ := h
    refine ⟨_, pss_cons (ps_asg (pe_c c_take_book hr (by decide) (by rfl) (pa_cons (pv 0) (pa_cons (pv 1) (pa_cons (pv 2) pa_nil)))) (pg_tup (by rfl) (pgs_cons (pg_name (i := 3) sc_book_cells.nd rfl (Or.inr rfl)) (pgs_cons (pg_name (i := 4) sc_book_cells.nd rfl (Or.inl rfl)) (pgs_cons (pg_name (i := 1) sc_book_cells.nd rfl (Or.inl rfl)) pgs_nil)))))
      (pss_cons (ps_if (pt_not (pt_val (pe_callB (cr_all rfl) (by rfl) T.all (by decide +kernel) (pa_cons (pe_lc (own := [("place", 5)]) (g := gName 5) (tt := tYes) (te := (tOp _ _ (tCB (Evl.rLenS K) _))) (by rfl) sc_book_cells.nd (pi_list (pv 4)) (blkOk_by (N := N_book_cells) (sc := defScope s_book_cells) (by decide +kernel)) (fun _ _ _ _ _ => pg_name (i := 5) sc_book_cells.nd rfl (Or.inl rfl)) (fun _ _ _ _ _ => pts_nil) (fun _ _ _ _ _ => pe_cmpR op_lt (pv 5) (pe_callB call_len_seq (by rfl) T.len (by decide +kernel) (pa_cons (pv 3) pa_nil)) (nomark _))) pa_nil)))) (pss_one (ps_ret (pe_tup (pa_cons (pe_lst (pa_nil)) (pa_cons (pv 1) pa_nil))))) (pss_nil))
      (pss_one (ps_ret (pe_tup (pa_cons (pe_lc (own := [("place", 5)]) (g := gName 5) (tt := tYes) (te := (tOp (rIxL K) _ _)) (by rfl) sc_book_cells.nd (pi_list (pv 4)) (blkOk_by (N := N_book_cells) (sc := defScope s_book_cells) (by decide +kernel)) (fun _ _ _ _ _ => pg_name (i := 5) sc_book_cells.nd rfl (Or.inl rfl)) (fun _ _ _ _ _ => pts_nil) (fun _ _ _ _ _ => pe_ix ix_list (pv 3) (pv 5) (fun _ _ => rfl))) (pa_cons (pv 1) pa_nil)))))), ?_⟩
    obtain ⟨hnd, hmem, hbl⟩ := book_all cs
    have hb1 := book_pos h1
    have hcb : ∀ c ∈ bookOf cs, CellOk c := fun c h => hc c ((hmem c).mp h)
    have hpl := pl_len cs
    refine ⟨_, rfl, _, rfl, _, rfl, a, _, _, row, k, bookOf cs, plB cs, rfl, rfl, by rw [hpl], hS, hA, hcb, hb1, by omega, by omega, pl_inw cs, fun p1 l l2 H1 e1 hl1 hl2 hp1 => ?_⟩
    refine ⟨_, _, rfl, .inl (.inl hp1), rfl, _, _, rfl, _, _, rfl, _, _, rfl, rfl, ?_⟩
    refine ⟨_, rfl, _, rfl, ⟨_, lsOf hl2⟩, fun d nd => ?_⟩
    refine lc_it walk_list (fun i H' => Ex H1 H' ∧ H' d = some (.lst ((List.replicate i true).map V.bl))) ⟨Ex.n nd, upd_same⟩ (fun i H' hi hI => lsOf (hI.1 _ _ hl2)) (fun i x H' H2 hi hI hy => ?_) (fun H' hI => ?_)
    · obtain ⟨e2, hd⟩ := hI
      obtain ⟨rfl, hx⟩ := hy
      obtain ⟨n, hn, rfl⟩ := getM hx
      have hlt : n < ((bookOf cs).length : Int) := by
        obtain ⟨c, hcm, rfl⟩ := List.mem_map.mp (List.mem_of_getElem? hn)
        have := List.idxOf_lt_length_of_mem ((hmem c).mpr hcm)
        omega
      have hil : i < 64 := by
        have := lt_of_at hn
        omega
      refine ⟨rfl, ?_⟩
      refine ⟨_, rfl, _, rfl, _, _, rfl, .inl (lsOf (e2 _ _ hl1)), _, _, rfl, rfl, ?_⟩
      refine ⟨_, hd, smlt (by rw [List.length_map, List.length_replicate]; omega), e2.mut nd, ?_⟩
      rw [upd_same, List.replicate_succ', List.map_append (f := V.bl)]
      show some (HO.lst (_ ++ [V.bl (decide (n < ((bookOf cs).length : Int)))])) = _
      rw [dT hlt]
      rfl
    · obtain ⟨e2, hd⟩ := hI
      refine ⟨_, _, rfl, lsOf hd, _, rfl, ifF ?_ ?_⟩
      · rw [show (List.replicate ((plB cs).map V.int).length true).all id = true from List.all_eq_true.mpr fun x hx => (List.eq_of_mem_replicate hx)]
        rfl
      refine ⟨_, rfl, _, rfl, ⟨_, lsOf (e2 _ _ hl2)⟩, fun d2 nd2 => ?_⟩
      refine lc_it walk_list (fun i H'' => Ex H' H'' ∧ H'' d2 = some (.lst (cs.take i))) ⟨Ex.n nd2, upd_same⟩ (fun i H'' hi hI => lsOf (hI.1 _ _ (e2 _ _ hl2))) (fun i x H'' H2 hi hI hy => ?_) (fun H'' hI => ?_)
      · obtain ⟨e3, hd3⟩ := hI
        obtain ⟨rfl, hx⟩ := hy
        obtain ⟨n, hn, rfl⟩ := getM hx
        unfold plB at hn
        rw [List.getElem?_map] at hn
        cases hci : cs[i]? with
        | none => rw [hci] at hn; cases hn
        | some c =>
          rw [hci] at hn
          obtain rfl := Option.some.inj hn
          have hcm := (hmem c).mpr (List.mem_of_getElem? hci)
          have := lt_of_at hci
          refine ⟨rfl, ?_⟩
          refine ⟨_, rfl, _, rfl, _, _, _, _, rfl, rfl, lsOf (e3 _ _ (e2 _ _ hl1)), at_k (idx_at hcm) rfl, ?_⟩
          refine ⟨_, hd3, smlt (by rw [List.length_take]; omega), e3.mut nd2, ?_⟩
          rw [upd_same, List.take_add_one, hci]
          rfl
      · obtain ⟨e3, hd3⟩ := hI
        rw [List.length_map, hpl, List.take_length] at hd3
        exact ⟨_, rfl, Nat.le_of_ble_eq_true rfl, fun p3 np3 => q.go (Evl.fresh_back (e1.trans e2) nd2) ((e1.trans e2).trans e3) hd3 np3 rfl⟩
def sp_base_cells (K : PySem.W.Frag) : Sp := fun vs H Q _ => ∃ (a : Addr) (i j : Int) (row : List Int) (k : Nat) (ns : List Int), vs = [.ref a, .int i, .int j] ∧ i = (k : Int) ∧ j = (ns.length : Int) ∧ SqL K H a (row.map V.int) ∧ At row k (bsB ns) ∧ (∀ n ∈ ns, NumOk n) ∧ 1 ≤ ns.length ∧ ns.length ≤ 64 ∧ GTL (ns.map V.int) ((k : Int) + ((bsB ns).length : Int)) H Q
theorem ok_base_cells (T : Gf K mg CG CP upA) (D : Dfn K mg "base_cells" s_base_cells) (c_take_number : Cal P w K mg base 2 "take_number" (sp_take_number K) []) (c_take_small : Cal P w K mg base 3 "take_small" (sp_take_small K) []) : Cal P w K mg base 4 "base_cells" (sp_base_cells K) [] := by
  refine cal_mk D sc_base_cells (fun _ _ _ _ _ _ us hl => match us, hl with | [_, _, _], _ => rfl) (fun vs H Q E h => ?_) (fun f cdv A outer s H vs Q E hr h => ?_)
  · obtain ⟨_, _, _, _, _, _, rfl, _⟩ := h; rfl
  · obtain ⟨a, i, j, row, k, ns, rfl, rfl, rfl, hS, hA, hn, h1, hl, q⟩ := h
    refine ⟨_, pss_cons (ps_asg (pe_c c_take_number hr (by decide) (by rfl) (pa_cons (pv 0) (pa_cons (pv 1) pa_nil))) (pg_tup (by rfl) (pgs_cons (pg_name (i := 3) sc_base_cells.nd rfl (Or.inr rfl)) (pgs_cons (pg_name (i := 1) sc_base_cells.nd rfl (Or.inl rfl)) pgs_nil))))
      (pss_cons (ps_asg (pe_c c_take_small hr (by decide) (by rfl) (pa_cons (pv 0) (pa_cons (pv 1) (pa_cons (pv 2) pa_nil)))) (pg_tup (by rfl) (pgs_cons (pg_name (i := 4) sc_base_cells.nd rfl (Or.inl rfl)) (pgs_cons (pg_name (i := 1) sc_base_cells.nd rfl (Or.inl rfl)) pgs_nil))))
      (pss_one (ps_ret (pe_tup (pa_cons (pe_lc (own := [("number", 5)]) (g := gName 5) (tt := tYes) (by rfl) sc_base_cells.nd (pi_list (pv 4)) (blkOk_by (N := N_base_cells) (sc := defScope s_base_cells) (by decide +kernel)) (fun _ _ _ _ _ => pg_name (i := 5) sc_base_cells.nd rfl (Or.inl rfl)) (fun _ _ _ _ _ => pts_nil) (fun _ _ _ _ _ => pe_op op_add (pv 3) (pv 5))) (pa_cons (pv 1) pa_nil)))))), ?_⟩
    have hbd := base_bd h1 hn
    refine ⟨_, rfl, _, rfl, a, _, row, k, leastD ns, rfl, rfl, hS, hA.left, (hn _ (leastD_mem h1)).sm, fun p1 H1 np1 e1 hp1 => ?_⟩
    refine ⟨_, _, rfl, .inl (.inl hp1), rfl, _, _, rfl, _, _, rfl, rfl, ?_⟩
    refine ⟨_, rfl, _, rfl, _, rfl, a, _, _, row, k + (nb (leastD ns)).length, ns.map (· - leastD ns), rfl, by omega, by rw [List.length_map], exL hS e1, hA.right, by rw [List.length_map]; omega, hbd, fun p2 l H2 nl e2 hl2 hp2 => ?_⟩
    refine ⟨_, _, rfl, .inl (.inl hp2), rfl, _, _, rfl, _, _, rfl, rfl, ?_⟩
    refine ⟨_, rfl, _, rfl, ⟨_, lsOf hl2⟩, fun d nd => ?_⟩
    refine lc_it walk_list (fun i H' => Ex H2 H' ∧ H' d = some (.lst ((ns.take i).map V.int))) ⟨Ex.n nd, upd_same⟩ (fun i H' hi hI => lsOf (hI.1 _ _ hl2)) (fun i x H' H3 hi hI hy => ?_) (fun H' hI => ?_)
    · obtain ⟨e3, hd⟩ := hI
      obtain ⟨rfl, hx⟩ := hy
      obtain ⟨n, hn2, rfl⟩ := getM hx
      rw [List.getElem?_map] at hn2
      cases hci : ns[i]? with
      | none => rw [hci] at hn2; cases hn2
      | some m =>
        rw [hci] at hn2
        obtain rfl := Option.some.inj hn2
        have := lt_of_at hci
        refine ⟨rfl, ?_⟩
        refine ⟨_, rfl, _, rfl, _, _, rfl, rfl, ?_⟩
        refine ⟨_, hd, smlt (by rw [List.length_map, List.length_take]; omega), e3.mut nd, ?_⟩
        rw [upd_same, List.take_add_one, hci, List.map_append (f := V.int)]
        show some (HO.lst (_ ++ [V.int (leastD ns + (m - leastD ns))])) = some (HO.lst (_ ++ [V.int m]))
        rw [show leastD ns + (m - leastD ns) = m by omega]
    · obtain ⟨e3, hd⟩ := hI
      rw [List.length_map, List.length_map, List.take_length] at hd
      refine ⟨_, rfl, Nat.le_of_ble_eq_true rfl, fun p3 np3 => q.go (Evl.fresh_back (e1.trans e2) nd) ((e1.trans e2).trans e3) hd np3 ?_⟩
      unfold bsB
      rw [List.length_append]
      omega
def sp_step_cells (K : PySem.W.Frag) : Sp := fun vs H Q _ => ∃ (a : Addr) (i j : Int) (row : List Int) (k : Nat) (ns : List Int), vs = [.ref a, .int i, .int j] ∧ i = (k : Int) ∧ j = (ns.length : Int) ∧ SqL K H a (row.map V.int) ∧ At row k (stB ns) ∧ (∀ n ∈ ns, NumOk n) ∧ 1 ≤ ns.length ∧ ns.length ≤ 64 ∧ GTL (ns.map V.int) ((k : Int) + ((stB ns).length : Int)) H Q
theorem steps_get {ns : List Int} {i : Nat} (h : i + 1 < ns.length) : (stepsOf ns)[i]? = some (ns[i + 1] - ns[i]) := by
  refine steps_at (List.getElem?_eq_getElem (by omega)) ?_
  rw [List.getElem?_drop, show 1 + i = i + 1 by omega]
  exact List.getElem?_eq_getElem h
theorem take_last {ns : List Int} {i : Nat} (h : i < ns.length) : ns.take (i + 1) = ns.take i ++ [ns[i]] := by
  rw [List.take_add_one, List.getElem?_eq_getElem h]
  rfl
theorem ok_step_cells (T : Gf K mg CG CP upA) (D : Dfn K mg "step_cells" s_step_cells) (c_take_number : Cal P w K mg base 2 "take_number" (sp_take_number K) []) (c_take_small : Cal P w K mg base 3 "take_small" (sp_take_small K) []) : Cal P w K mg base 4 "step_cells" (sp_step_cells K) [] := by
  refine cal_mk D sc_step_cells (fun _ _ _ _ _ _ us hl => match us, hl with | [_, _, _], _ => rfl) (fun vs H Q E h => ?_) (fun f cdv A outer s H vs Q E hr h => ?_)
  · obtain ⟨_, _, _, _, _, _, rfl, _⟩ := h; rfl
  · obtain ⟨a, i, j, row, k, ns, rfl, rfl, rfl, hS, hA, hn, h1, hl, q⟩ := h
    refine ⟨_, pss_cons (ps_asg (pe_c c_take_number hr (by decide) (by rfl) (pa_cons (pv 0) (pa_cons (pv 1) pa_nil))) (pg_tup (by rfl) (pgs_cons (pg_name (i := 3) sc_step_cells.nd rfl (Or.inl rfl)) (pgs_cons (pg_name (i := 1) sc_step_cells.nd rfl (Or.inl rfl)) pgs_nil))))
      (pss_cons (ps_asg (pe_c c_take_number hr (by decide) (by rfl) (pa_cons (pv 0) (pa_cons (pv 1) pa_nil))) (pg_tup (by rfl) (pgs_cons (pg_name (i := 4) sc_step_cells.nd rfl (Or.inl rfl)) (pgs_cons (pg_name (i := 1) sc_step_cells.nd rfl (Or.inl rfl)) pgs_nil))))
      (pss_cons (ps_asg (pe_c c_take_small hr (by decide) (by rfl) (pa_cons (pv 0) (pa_cons (pv 1) (pa_cons (pe_op op_sub (pv 2) (pe_int)) pa_nil)))) (pg_tup (by rfl) (pgs_cons (pg_name (i := 5) sc_step_cells.nd rfl (Or.inl rfl)) (pgs_cons (pg_name (i := 1) sc_step_cells.nd rfl (Or.inl rfl)) pgs_nil))))
      (pss_cons (ps_set (i := 6) sc_step_cells.nd rfl (Or.inl rfl) (pe_lst (pa_cons (pv 3) pa_nil)))
      (pss_cons (ps_for PassesOwn.never rfl (pi_list (pv 5)) (pg_name (i := 7) sc_step_cells.nd rfl (Or.inl rfl))
        (pss_one (ps_expr (pe_bm PySem.F.plainAttrs_list PySem.F.slot_list_append PySem.F.type_list_append mt_append (pv 6) (pa_cons (pe_op op_add (pe_op op_add (pe_ix ix_list (pv 6) (pe_un un_neg (pe_int)) (fun _ _ => rfl)) (pv 4)) (pv 7)) pa_nil)))))
      (pss_one (ps_ret (pe_tup (pa_cons (pv 6) (pa_cons (pv 1) pa_nil))))))))), ?_⟩
    have hsb := steps_bd hn
    have hbd := step_bd hsb
    have hlb := leastD_bd hsb
    have hsl := steps_len ns
    have hsm : Sm (leastD (stepsOf ns)) := by
      unfold Sm
      omega
    refine ⟨_, rfl, _, rfl, a, _, row, k, ns.headD 0, rfl, rfl, hS, hA.left.left, (hn _ (headD_mem h1)).sm, fun p1 H1 np1 e1 hp1 => ?_⟩
    refine ⟨_, _, rfl, .inl (.inl hp1), rfl, _, _, rfl, _, _, rfl, rfl, ?_⟩
    refine ⟨_, rfl, _, rfl, a, _, row, k + (nb (ns.headD 0)).length, leastD (stepsOf ns), rfl, by omega, exL hS e1, hA.left.right, hsm, fun p2 H2 np2 e2 hp2 => ?_⟩
    refine ⟨_, _, rfl, .inl (.inl hp2), rfl, _, _, rfl, _, _, rfl, rfl, ?_⟩
    have hA3 := hA.right
    rw [List.length_append] at hA3
    refine ⟨_, rfl, _, rfl, _, rfl, _, _, rfl, rfl, a, _, _, row, k + ((nb (ns.headD 0)).length + (nb (leastD (stepsOf ns))).length), (stepsOf ns).map (· - leastD (stepsOf ns)), rfl, by omega, by rw [List.length_map, hsl]; omega, exL hS (e1.trans e2), hA3, by rw [List.length_map]; omega, hbd, fun p3 l H3 nl e3 hl3 hp3 => ?_⟩
    refine ⟨_, _, rfl, .inl (.inl hp3), rfl, _, _, rfl, _, _, rfl, rfl, ?_⟩
    refine ⟨_, rfl, Nat.le_of_ble_eq_true rfl, fun p np => ?_⟩
    have e4 := Ex.n (o := .lst [.int (ns.headD 0)]) np
    have hh : ns.headD 0 = ns[0] := by
      cases ns with
      | nil => cases h1
      | cons z r => rfl
    refine ⟨_, rfl, _, rfl, ⟨_, lsOf (e4 _ _ hl3)⟩, for_it walk_list (fun i σ' H' => Ex H3 H' ∧ H' p = some (.lst ((ns.take (i + 1)).map V.int)) ∧ ∃ (y1 : Int) (y7 : Option V), σ' = [some (.ref a), some (.int y1), some (.int (ns.length : Int)), some (.int (ns.headD 0)), some (.int (leastD (stepsOf ns))), some (.ref l), some (.ref p), y7] ∧ y1 = ((k + ((nb (ns.headD 0)).length + (nb (leastD (stepsOf ns))).length) : Nat) : Int) + ((smB ((stepsOf ns).map (· - leastD (stepsOf ns)))).length : Int)) ⟨e4, ?_, _, none, rfl, rfl⟩
      (fun i σ' H' _ hI => lsOf (hI.1 _ _ hl3)) (fun i x σ' H' H4 hi hI hy => ?_) (fun σ' H' hI => ?_)⟩
    · rw [upd_same, take_last (show 0 < ns.length by omega), ← hh]
      rfl
    · obtain ⟨e5, hd, y1, y7, rfl, hy1⟩ := hI
      obtain ⟨rfl, hx⟩ := hy
      obtain ⟨n, hn2, rfl⟩ := getM hx
      rw [List.length_map, List.length_map, hsl] at hi
      have hi1 : i + 1 < ns.length := by omega
      rw [List.getElem?_map, steps_get hi1] at hn2
      obtain rfl := Option.some.inj hn2
      have hd2 := hd
      rw [take_last (show i < ns.length by omega), List.map_append] at hd2
      refine ⟨_, rfl, .inl ⟨rfl, _, .inl (.inl hd2)⟩, _, rfl, _, rfl, _, _, _, _, rfl, rfl, lsOf hd2, atI_last _ _, _, rfl, _, _, rfl, rfl, _, rfl, _, _, rfl, rfl, _, _, _, rfl, rfl, hd, smlt (by rw [List.length_map, List.length_take]; omega), e5.mut (np), ?_, y1, _, rfl, hy1⟩
      rw [upd_same, take_last hi1, List.map_append (f := V.int)]
      show some (HO.lst (_ ++ [V.int (ns[i] + leastD (stepsOf ns) + (ns[i + 1] - ns[i] - leastD (stepsOf ns)))])) = some (HO.lst (_ ++ [V.int ns[i + 1]]))
      rw [show ns[i] + leastD (stepsOf ns) + (ns[i + 1] - ns[i] - leastD (stepsOf ns)) = ns[i + 1] by omega]
    · obtain ⟨e5, hd, y1, y7, rfl, hy1⟩ := hI
      rw [List.length_map, List.length_map, hsl, List.take_of_length_le (by omega)] at hd
      refine ⟨_, rfl, _, rfl, Nat.le_of_ble_eq_true rfl, fun p4 np4 => q.go (Evl.fresh_back ((e1.trans e2).trans e3) np) (((e1.trans e2).trans e3).trans e5) hd np4 ?_⟩
      rw [hy1]
      unfold stB
      rw [List.length_append, List.length_append]
      omega
end
end Pk
set_option Elab.async false
set_option linter.all false
set_option maxRecDepth 100000
set_option maxHeartbeats 4000000
set_option autoImplicit false
namespace Pk
open PySem PySem.Spec PyProof.Rows L2
open C8 (Cal Met Mak pe_c pe_mk pe_mt pe_mt0 pe_gc)
section
variable {P : Program} {w : World} {K : PySem.W.Frag} {mg : Str → Option Value} {base : Heap} {CG CP upA : Addr}
/-! ### cells_by, take_head, is_stretch, unpressed -/
def bodyBy (way : Nat) (cs : List V) : List Int :=
  if way = 0 then abB cs else if way = 1 then runB cs else if way = 2 then bookB cs else if way = 3 then bsB (nums cs) else stB (nums cs)
theorem press_body {way : Nat} {cs : List V} {row : List Int} (h : pressBy way cs = some row) : row = (way : Int) :: nb (cs.length : Int) ++ bodyBy way cs ∧ (3 ≤ way → ∀ c ∈ cs, isI c = true) := by
  unfold pressBy at h
  unfold bodyBy
  by_cases h0 : way = 0
  · rw [if_pos h0] at h ⊢
    exact ⟨(Option.some.inj h).symm, fun z => absurd z (by omega)⟩
  rw [if_neg h0] at h ⊢
  by_cases h1 : way = 1
  · rw [if_pos h1] at h ⊢
    exact ⟨(Option.some.inj h).symm, fun z => absurd z (by omega)⟩
  rw [if_neg h1] at h ⊢
  by_cases h2 : way = 2
  · rw [if_pos h2] at h ⊢
    exact ⟨(Option.some.inj h).symm, fun z => absurd z (by omega)⟩
  rw [if_neg h2] at h ⊢
  by_cases ha : (!(cs.map isI).all id) = true
  · rw [if_pos ha] at h
    cases h
  rw [if_neg ha] at h
  have hI : ∀ c ∈ cs, isI c = true := fun c hc => by
    have : (cs.map isI).all id = true := by
      cases hh : (cs.map isI).all id with
      | true => rfl
      | false => rw [hh] at ha; exact absurd rfl ha
    exact List.all_eq_true.mp this _ (List.mem_map.mpr ⟨c, hc, rfl⟩)
  by_cases h3 : way = 3
  · rw [if_pos h3] at h ⊢
    exact ⟨(Option.some.inj h).symm, fun _ => hI⟩
  · rw [if_neg h3] at h ⊢
    exact ⟨(Option.some.inj h).symm, fun _ => hI⟩
def sp_cells_by (K : PySem.W.Frag) : Sp := fun vs H Q _ => ∃ (a : Addr) (x i j : Int) (row : List Int) (k way : Nat) (cs : List V), vs = [.int x, .ref a, .int i, .int j] ∧ x = (way : Int) ∧ i = (k : Int) ∧ j = (cs.length : Int) ∧ way ≤ 4 ∧ SqL K H a (row.map V.int) ∧ At row k (bodyBy way cs) ∧ (3 ≤ way → ∀ c ∈ cs, isI c = true) ∧ (∀ c ∈ cs, CellOk c) ∧ 1 ≤ cs.length ∧ cs.length ≤ 64 ∧ GTL cs ((k : Int) + ((bodyBy way cs).length : Int)) H Q
theorem ok_cells_by (T : Gf K mg CG CP upA) (D : Dfn K mg "cells_by" s_cells_by) (c_step_cells : Cal P w K mg base 4 "step_cells" (sp_step_cells K) []) (c_take_cells : Cal P w K mg base 5 "take_cells" (sp_take_cells K) []) (c_run_cells : Cal P w K mg base 6 "run_cells" (sp_run_cells K) []) (c_book_cells : Cal P w K mg base 7 "book_cells" (sp_book_cells K) []) (c_base_cells : Cal P w K mg base 4 "base_cells" (sp_base_cells K) []) : Cal P w K mg base 8 "cells_by" (sp_cells_by K) [] := by
  refine cal_mk D sc_cells_by (fun _ _ _ _ _ _ us hl => match us, hl with | [_, _, _, _], _ => rfl) (fun vs H Q E h => ?_) (fun f cdv A outer s H vs Q E hr h => ?_)
  · obtain ⟨_, _, _, _, _, _, _, _, rfl, _⟩ := h; rfl
  · obtain ⟨a, x, i, j, row, k, way, cs, rfl, rfl, rfl, rfl, hw, hS, hA, hI, hc, h1, hl, q⟩ := h
    refine ⟨_, pss_cons (ps_if (pt_cmpR op_eq (pv 0) (pe_int) (nomark _)) (pss_one (ps_ret (pe_c c_take_cells hr (by decide) (by rfl) (pa_cons (pv 1) (pa_cons (pv 2) (pa_cons (pv 3) pa_nil)))))) (pss_nil))
      (pss_cons (ps_if (pt_cmpR op_eq (pv 0) (pe_int) (nomark _)) (pss_one (ps_ret (pe_c c_run_cells hr (by decide) (by rfl) (pa_cons (pv 1) (pa_cons (pv 2) (pa_cons (pv 3) pa_nil)))))) (pss_nil))
      (pss_cons (ps_if (pt_cmpR op_eq (pv 0) (pe_int) (nomark _)) (pss_one (ps_ret (pe_c c_book_cells hr (by decide) (by rfl) (pa_cons (pv 1) (pa_cons (pv 2) (pa_cons (pv 3) pa_nil)))))) (pss_nil))
      (pss_cons (ps_if (pt_cmpR op_eq (pv 0) (pe_int) (nomark _)) (pss_one (ps_ret (pe_c c_base_cells hr (by decide) (by rfl) (pa_cons (pv 1) (pa_cons (pv 2) (pa_cons (pv 3) pa_nil)))))) (pss_nil))
      (pss_one (ps_ret (pe_c c_step_cells hr (by decide) (by rfl) (pa_cons (pv 1) (pa_cons (pv 2) (pa_cons (pv 3) pa_nil))))))))), ?_⟩
    refine ⟨_, rfl, rfl, _, rfl, ifB (fun h => ?_) (fun h => ?_)⟩
    · have h := way_eq (n := 0) h
      subst h
      exact ⟨_, rfl, _, rfl, _, rfl, a, _, _, row, k, cs, rfl, rfl, rfl, hS, hA, hc, by omega, q⟩
    have n0 := way_ne (n := 0) h
    refine ⟨_, rfl, rfl, _, rfl, ifB (fun h => ?_) (fun h => ?_)⟩
    · have h := way_eq (n := 1) h
      subst h
      exact ⟨_, rfl, _, rfl, _, rfl, a, _, _, row, k, cs, rfl, rfl, rfl, hS, hA, hc, h1, hl, q⟩
    have n1 := way_ne (n := 1) h
    refine ⟨_, rfl, rfl, _, rfl, ifB (fun h => ?_) (fun h => ?_)⟩
    · have h := way_eq (n := 2) h
      subst h
      exact ⟨_, rfl, _, rfl, _, rfl, a, _, _, row, k, cs, rfl, rfl, rfl, hS, hA, hc, h1, hl, q⟩
    have n2 := way_ne (n := 2) h
    have hI := hI (by omega)
    have hnk := nums_ok hc hI
    have hnl := nums_len cs
    have ev := nums_v hI
    refine ⟨_, rfl, rfl, _, rfl, ifB (fun h => ?_) (fun h => ?_)⟩
    · have h := way_eq (n := 3) h
      subst h
      exact ⟨_, rfl, _, rfl, _, rfl, a, _, _, row, k, nums cs, rfl, rfl, by rw [hnl], hS, hA, hnk, by omega, by omega, q.to ev rfl⟩
    · have n3 := way_ne (n := 3) h
      have eb : bodyBy way cs = stB (nums cs) := by
        unfold bodyBy
        rw [if_neg n0, if_neg n1, if_neg n2, if_neg n3]
      rw [eb] at hA q
      exact ⟨_, rfl, _, rfl, _, rfl, a, _, _, row, k, nums cs, rfl, rfl, by rw [hnl], hS, hA, hnk, by omega, by omega, q.to ev rfl⟩
def sp_take_head (K : PySem.W.Frag) : Sp := fun vs H Q _ => ∃ (a : Addr) (row : List Int) (way n : Nat), vs = [.ref a] ∧ SqL K H a (row.map V.int) ∧ At row 0 ((way : Int) :: nb (n : Int)) ∧ way ≤ 4 ∧ 1 ≤ n ∧ n ≤ 64 ∧ GT [.int (way : Int), .int (n : Int), .int (1 + ((nb (n : Int)).length : Int))] H Q
theorem ok_take_head (T : Gf K mg CG CP upA) (D : Dfn K mg "take_head" s_take_head) (c_take_byte : Cal P w K mg base 1 "take_byte" (sp_take_byte K) []) (c_take_count : Cal P w K mg base 3 "take_count" (sp_take_count K) []) : Cal P w K mg base 4 "take_head" (sp_take_head K) [] := by
  refine cal_mk D sc_take_head (fun _ _ _ _ _ _ us hl => match us, hl with | [_], _ => rfl) (fun vs H Q E h => ?_) (fun f cdv A outer s H vs Q E hr h => ?_)
  · obtain ⟨_, _, _, _, rfl, _⟩ := h; rfl
  · obtain ⟨a, row, way, n, rfl, hS, hA, hw, h1, hl, q⟩ := h
    refine ⟨_, pss_cons (ps_asg (pe_c c_take_byte hr (by decide) (by rfl) (pa_cons (pv 0) (pa_cons (pe_int) pa_nil))) (pg_tup (by rfl) (pgs_cons (pg_name (i := 1) sc_take_head.nd rfl (Or.inl rfl)) (pgs_cons (pg_name (i := 2) sc_take_head.nd rfl (Or.inl rfl)) pgs_nil))))
      (pss_cons (ps_if (pt_cmpR op_gt (pv 1) (pe_gc (by rfl) T.most_way) (nomark _)) (pss_never) (pss_nil))
      (pss_cons (ps_asg (pe_c c_take_count hr (by decide) (by rfl) (pa_cons (pv 0) (pa_cons (pv 2) (pa_cons (pe_gc (by rfl) T.most_cells) pa_nil)))) (pg_tup (by rfl) (pgs_cons (pg_name (i := 3) sc_take_head.nd rfl (Or.inl rfl)) (pgs_cons (pg_name (i := 2) sc_take_head.nd rfl (Or.inl rfl)) pgs_nil))))
      (pss_one (ps_ret (pe_tup (pa_cons (pv 1) (pa_cons (pv 3) (pa_cons (pv 2) pa_nil)))))))), ?_⟩
    refine ⟨_, rfl, a, _, row, 0, (way : Int), rfl, rfl, hS, hA.head, fun p1 H1 np1 e1 hp1 => ?_⟩
    refine ⟨_, _, rfl, .inl (.inl hp1), rfl, _, _, rfl, _, _, rfl, rfl, ?_⟩
    refine ⟨_, rfl, _, _, rfl, rfl, _, rfl, ifF (dF (by omega)) ?_⟩
    refine ⟨_, rfl, _, rfl, a, _, _, row, 1, n, 64, rfl, rfl, rfl, exL hS e1, hA.tail, h1, hl, by decide, fun p2 H2 np2 e2 hp2 => ?_⟩
    refine ⟨_, _, rfl, .inl (.inl hp2), rfl, _, _, rfl, _, _, rfl, rfl, ?_⟩
    exact ⟨_, rfl, _, rfl, _, rfl, Nat.le_of_ble_eq_true rfl, fun p3 np3 => q.go (e1.trans e2) np3⟩
theorem CK.ck {b : Bool} {c : V} (h : CK b c) : ckB b c = true := by
  cases b <;> cases h <;> rfl
def sp_is_stretch (K : PySem.W.Frag) : Sp := fun vs H Q _ => ∃ (b : Bool) (a : Addr) (cs : List V), vs = [.ref a] ∧ SqL K H a cs ∧ (∀ c ∈ cs, CK b c) ∧ cs.length ≤ 1000 ∧ GV (.bl true) H Q
theorem ok_is_stretch (T : Gf K mg CG CP upA) (D : Dfn K mg "is_stretch" s_is_stretch) (c_is_cell_of : Cal P w K mg base 2 "is_cell_of" (sp_is_cell_of K) []) : Cal P w K mg base 3 "is_stretch" (sp_is_stretch K) [] := by
  refine cal_mk D sc_is_stretch (fun _ _ _ _ _ _ us hl => match us, hl with | [_], _ => rfl) (fun vs H Q E h => ?_) (fun f cdv A outer s H vs Q E hr h => ?_)
  · obtain ⟨_, _, _, rfl, _⟩ := h; rfl
  · obtain ⟨b, a, cs, rfl, hS, hck, hl, q⟩ := h
    refine ⟨_, pss_cons (ps_set (i := 1) sc_is_stretch.nd rfl (Or.inl rfl) (pe_callB (cr_all rfl) (by rfl) T.all (by decide +kernel) (pa_cons (pe_lc (own := [("cell", 2)]) (g := gName 2) (tt := tYes) (by rfl) sc_is_stretch.nd (pi_list (pv 0)) (blkOk_by (N := N_is_stretch) (sc := defScope s_is_stretch) (by decide +kernel)) (fun _ _ _ _ _ => pg_name (i := 2) sc_is_stretch.nd rfl (Or.inl rfl)) (fun _ _ _ _ _ => pts_nil) (fun _ _ _ _ _ => pe_c c_is_cell_of hr (by decide) (by rfl) (pa_cons (pe_str) (pa_cons (pv 2) pa_nil)))) pa_nil)))
      (pss_one (ps_ret (pe_or (pv 1) (pe_one (pe_callB (cr_all rfl) (by rfl) T.all (by decide +kernel) (pa_cons (pe_lc (own := [("cell", 2)]) (g := gName 2) (tt := tYes) (by rfl) sc_is_stretch.nd (pi_list (pv 0)) (blkOk_by (N := N_is_stretch) (sc := defScope s_is_stretch) (by decide +kernel)) (fun _ _ _ _ _ => pg_name (i := 2) sc_is_stretch.nd rfl (Or.inl rfl)) (fun _ _ _ _ _ => pts_nil) (fun _ _ _ _ _ => pe_c c_is_cell_of hr (by decide) (by rfl) (pa_cons (pe_str) (pa_cons (pv 2) pa_nil)))) pa_nil)))))), ?_⟩
    refine ⟨_, rfl, _, rfl, ⟨_, hS⟩, fun d nd => ?_⟩
    refine lc_it walk_list (fun i H' => Ex H H' ∧ H' d = some (.lst (((cs.map (ckB true)).take i).map V.bl))) ⟨Ex.n nd, upd_same⟩ (fun i H' hi hI => exL hS hI.1) (fun i x H' H2 hi hI hy => ?_) (fun H' hI => ?_)
    · obtain ⟨e2, hd⟩ := hI
      obtain ⟨rfl, hx⟩ := hy
      refine ⟨rfl, ?_⟩
      refine ⟨_, rfl, true, x, rfl, (hck x (List.mem_of_getElem? hx)).ok, fun H3 e3 => ?_⟩
      refine ⟨_, e3 _ _ hd, smlt (by rw [List.length_map, List.length_take]; omega), (e2.trans e3).mut nd, ?_⟩
      rw [upd_same, List.take_add_one, List.getElem?_map, hx, List.map_append (f := V.bl)]
      rfl
    · obtain ⟨e2, hd⟩ := hI
      rw [List.take_of_length_le (by rw [List.length_map]; exact Nat.le_refl _)] at hd
      refine ⟨_, _, rfl, lsOf hd, _, rfl, _, rfl, ifB (fun h => q.go e2) (fun h => ?_)⟩
      have hb : b = false := by
        cases b with
        | false => rfl
        | true =>
          rw [List.all_eq_true.mpr (fun x hx => by
            obtain ⟨c, hc, rfl⟩ := List.mem_map.mp hx
            exact (hck c hc).ck)] at h
          cases h
      subst hb
      refine ⟨_, rfl, _, rfl, ⟨_, exL hS e2⟩, fun d2 nd2 => ?_⟩
      refine lc_it walk_list (fun i H'' => Ex H' H'' ∧ H'' d2 = some (.lst ((List.replicate i true).map V.bl))) ⟨Ex.n nd2, upd_same⟩ (fun i H'' hi hI => exL hS (e2.trans hI.1)) (fun i x H'' H2 hi hI hy => ?_) (fun H'' hI => ?_)
      · obtain ⟨e3, hd3⟩ := hI
        obtain ⟨rfl, hx⟩ := hy
        have hcx := hck x (List.mem_of_getElem? hx)
        refine ⟨rfl, ?_⟩
        refine ⟨_, rfl, false, x, rfl, hcx.ok, fun H3 e4 => ?_⟩
        rw [hcx.ck]
        refine ⟨_, e4 _ _ hd3, smlt (by rw [List.length_map, List.length_replicate]; omega), (e3.trans e4).mut nd2, ?_⟩
        rw [upd_same, List.replicate_succ', List.map_append (f := V.bl)]
        rfl
      · obtain ⟨e3, hd3⟩ := hI
        refine ⟨_, _, rfl, lsOf hd3, ?_⟩
        rw [show (List.replicate cs.length true).all id = true from List.all_eq_true.mpr fun x hx => (List.eq_of_mem_replicate hx)]
        exact q.go (e2.trans e3)
theorem dp_ints {H : Hp} : ∀ ns : List Int, DpAll K H (ns.map V.int) (ns.map .int)
  | [] => .nil
  | n :: r => .cons (.int n) (dp_ints r)
theorem dp_lints {H : Hp} {p : Addr} {ns : List Int} (h : SqL K H p (ns.map V.int)) : Dp K H (.ref p) (.list (ns.map .int)) := .lst h (dp_ints ns)
theorem eqv_self {d : PyData} (h : SeqAt.shaped d = true) : PyData.eqv d d = true := SeqAt.eqv_refl d (SeqAt.canLay_of_shaped h)
def sp_unpressed (K : PySem.W.Frag) : Sp := fun vs H Q _ => ∃ (b : Bool) (a : Addr) (row : List Int) (cs : List V), vs = [.ref a] ∧ SqL K H a (row.map V.int) ∧ IsRow cs row ∧ (∀ c ∈ cs, CK b c) ∧ 1 ≤ cs.length ∧ cs.length ≤ 64 ∧ GL cs H Q
theorem ok_unpressed (T : Gf K mg CG CP upA) (D : Dfn K mg "unpressed" s_unpressed) (c_take_head : Cal P w K mg base 4 "take_head" (sp_take_head K) []) (c_cells_by : Cal P w K mg base 8 "cells_by" (sp_cells_by K) []) (c_is_stretch : Cal P w K mg base 3 "is_stretch" (sp_is_stretch K) []) (c_press_by : Cal P w K mg base 7 "press_by" (sp_press_by K) []) : Cal P w K mg base 9 "unpressed" (sp_unpressed K) [] := by
  refine cal_mk D sc_unpressed (fun _ _ _ _ _ _ us hl => match us, hl with | [_], _ => rfl) (fun vs H Q E h => ?_) (fun f cdv A outer s H vs Q E hr h => ?_)
  · obtain ⟨_, _, _, _, rfl, _⟩ := h; rfl
  · obtain ⟨b, a, row, cs, rfl, hS, ⟨way, hw, hrow⟩, hck, h1, hl, q⟩ := h
    refine ⟨_, pss_cons (ps_asg (pe_c c_take_head hr (by decide) (by rfl) (pa_cons (pv 0) pa_nil)) (pg_tup (by rfl) (pgs_cons (pg_name (i := 1) sc_unpressed.nd rfl (Or.inl rfl)) (pgs_cons (pg_name (i := 2) sc_unpressed.nd rfl (Or.inl rfl)) (pgs_cons (pg_name (i := 3) sc_unpressed.nd rfl (Or.inl rfl)) pgs_nil)))))
      (pss_cons (ps_asg (pe_c c_cells_by hr (by decide) (by rfl) (pa_cons (pv 1) (pa_cons (pv 0) (pa_cons (pv 3) (pa_cons (pv 2) pa_nil))))) (pg_tup (by rfl) (pgs_cons (pg_name (i := 4) sc_unpressed.nd rfl (Or.inl rfl)) (pgs_cons (pg_name (i := 3) sc_unpressed.nd rfl (Or.inl rfl)) pgs_nil))))
      (pss_cons (ps_if (pt_cmpR op_lt (pv 3) (pe_callB call_len_seq (by rfl) T.len (by decide +kernel) (pa_cons (pv 0) pa_nil)) (nomark _)) (pss_never) (pss_nil))
      (pss_cons (ps_if (PW.pt (pw_or (pt_cmpR op_ne (pe_callB call_len_seq (by rfl) T.len (by decide +kernel) (pa_cons (pv 4) pa_nil)) (pv 2) (nomark _)) (pw_or (pt_not (pt_val (pe_c c_is_stretch hr (by decide) (by rfl) (pa_cons (pv 4) pa_nil)))) (pw_or1 (pt_cmpR (op_neD hr.units) (pe_c c_press_by hr (by decide) (by rfl) (pa_cons (pv 1) (pa_cons (pv 4) pa_nil))) (pe_callTy call_list_of (by rfl) T.list (by decide +kernel) (pa_cons (pv 0) pa_nil)) (nomark _)))))) (pss_never) (pss_nil))
      (pss_one (ps_ret (pv 4)))))), ?_⟩
    obtain ⟨er, hI⟩ := press_body hrow
    have hA : At row 0 ((way : Int) :: nb (cs.length : Int) ++ bodyBy way cs) := er ▸ At.all row
    have hc : ∀ c ∈ cs, CellOk c := fun c h => (hck c h).ok
    refine ⟨_, rfl, a, row, way, cs.length, rfl, hS, hA.left, hw, h1, hl, fun p1 H1 np1 e1 hp1 => ?_⟩
    refine ⟨_, _, rfl, .inl (.inl hp1), rfl, _, _, rfl, _, _, rfl, _, _, rfl, rfl, ?_⟩
    have hA2 := hA.right
    rw [Nat.zero_add, List.length_cons] at hA2
    refine ⟨_, rfl, _, rfl, _, rfl, _, rfl, a, _, _, _, row, (nb (cs.length : Int)).length + 1, way, cs, rfl, rfl, by omega, rfl, hw, exL hS e1, hA2, hI, hc, h1, hl, fun p2 l H2 nl e2 hl2 hp2 => ?_⟩
    refine ⟨_, _, rfl, .inl (.inl hp2), rfl, _, _, rfl, _, _, rfl, rfl, ?_⟩
    have hlen : row.length = (nb (cs.length : Int)).length + 1 + (bodyBy way cs).length := by
      rw [er, List.length_append, List.length_cons]
    refine ⟨_, rfl, _, rfl, _, _, rfl, .inl (exL hS (e1.trans e2)), _, _, rfl, rfl, _, rfl, ifF (dF (by rw [List.length_map]; omega)) ?_⟩
    refine ⟨_, rfl, _, _, rfl, .inl (lsOf hl2), _, rfl, rfl, _, rfl, ?_⟩
    refine ifF (by rw [vDT rfl]; rfl) ?_
    refine ⟨_, rfl, b, l, cs, rfl, lsOf hl2, hck, by omega, fun H3 e3 => ?_⟩
    refine ⟨_, rfl, ifF rfl ?_⟩
    refine ⟨_, rfl, _, rfl, b, _, way, l, cs, rfl, rfl, hw, lsOf (e3 _ _ hl2), hck, h1, hl, ?_⟩
    rw [hrow]
    intro p4 H4 np4 e4 hp4
    have hSh : SeqAt.shaped (.list (row.map PyData.int)) = true := PySem.W.ke_shaped_ints row
    refine ⟨_, rfl, _, _, rfl, .inl (exL hS (((e1.trans e2).trans e3).trans e4)), fun p5 np5 => ?_⟩
    refine ⟨_, _, dp_lints (lsOf (Ex.n np5 _ _ hp4)), dp_lints (lsOf upd_same), hSh, hSh, _, rfl, ifF (by rw [eqv_self hSh]; rfl) ?_⟩
    exact ⟨_, rfl, q l _ (Evl.fresh_back e1 nl) (((e1.trans e2).trans e3).trans (e4.trans (Ex.n np5))) (Ex.n np5 _ _ (e4 _ _ (e3 _ _ hl2)))⟩
end
end Pk
set_option Elab.async false
set_option linter.all false
set_option maxRecDepth 100000
set_option maxHeartbeats 4000000
set_option autoImplicit false
namespace Pk
open PySem PySem.Spec PyProof.Rows L2
/-! ### stretches and what is known of them -/
/-- a pillar: its kind, its cells, the least and the greatest of each stretch as they were noted -/
structure PM where
  b : Bool
  cells : List V
  lo : Nat → V
  hi : Nat → V
def stc (long : Nat) (cs : List V) (s : Nat) : List V := (cs.drop (s * long)).take long
def nSt (long n : Nat) : Nat := (n + long - 1) / long
def cntO (cs : List V) : Int := (cs.length : Int) - ((kn cs).length : Int)
structure PM.Ok (long n : Nat) (p : PM) : Prop where
  len : p.cells.length = n
  kd : ∀ c ∈ p.cells, CK p.b c
  note : ∀ s, s < nSt long n → NoteOf (stc long p.cells s) (p.lo s) (p.hi s)
theorem stc_len {long : Nat} {cs : List V} {s : Nat} : (stc long cs s).length = min long (cs.length - s * long) := by
  unfold stc
  rw [List.length_take, List.length_drop]
theorem stc_mem {long : Nat} {cs : List V} {s : Nat} {c : V} (h : c ∈ stc long cs s) : c ∈ cs := List.mem_of_mem_drop (List.mem_of_mem_take h)
theorem nSt_lt {long n s : Nat} (hl : 0 < long) (h : s < nSt long n) : s * long < n := by
  unfold nSt at h
  have h1 := (Nat.lt_div_iff_mul_lt hl).mp h
  omega
theorem nSt_of {long n s : Nat} (hl : 0 < long) (h : s * long < n) : s < nSt long n := by
  unfold nSt
  exact (Nat.lt_div_iff_mul_lt hl).mpr (by omega)
theorem nSt_le {long n : Nat} (hl : 0 < long) : nSt long n ≤ n := by
  rcases Nat.lt_or_ge n (nSt long n) with h | h
  · have := nSt_lt hl h
    have := Nat.le_mul_of_pos_right n hl
    omega
  · exact h
/-- how many cells stretch s has -/
def szS (long n s : Nat) : Nat := min long (n - s * long)
theorem szS_pos {long n s : Nat} (hl : 0 < long) (h : s < nSt long n) : 1 ≤ szS long n s := by
  have := nSt_lt hl h
  unfold szS
  omega
theorem stc_at {long : Nat} {cs : List V} {s i : Nat} (h : i < szS long cs.length s) : (stc long cs s)[i]? = cs[s * long + i]? := by
  unfold stc
  unfold szS at h
  rw [List.getElem?_take_of_lt (by omega), List.getElem?_drop]
/-! what a note tells is so -/
def wdN : Str := "none"
def wdA : Str := "all"
def wdS : Str := "some"
theorem kn_all {cs : List V} (h : (kn cs).length = cs.length) : ∀ c ∈ cs, c ≠ .non := fun c hc => by
  have := List.length_filter_eq_length_iff.mp h c hc
  exact of_decide_eq_false (nT this)
theorem kn_nil {cs : List V} (h : (kn cs).length = 0) : ∀ c ∈ cs, c = .non := fun c hc => by
  cases e : decide (c = .non) with
  | true => exact of_decide_eq_true e
  | false =>
    have : c ∈ kn cs := List.mem_filter.mpr ⟨hc, by rw [e]; rfl⟩
    rw [List.eq_nil_of_length_eq_zero h] at this
    cases this
theorem kn_le (cs : List V) : (kn cs).length ≤ cs.length := List.length_filter_le _ _
theorem mem_kn {cs : List V} {c : V} (h : c ∈ cs) (n : c ≠ .non) : c ∈ kn cs := List.mem_filter.mpr ⟨h, by rw [decide_eq_false n]; rfl⟩
theorem strNe {a b : Str} (h : a.cps ≠ b.cps) : a ≠ b := fun e => h (by rw [e])
theorem wN_A : wdN ≠ wdA := by decide +kernel
theorem wN_S : wdN ≠ wdS := by decide +kernel
theorem wA_S : wdA ≠ wdS := by decide +kernel
theorem inV_kd {b : Bool} {x : V} {vs : List V} (hx : KdV b x) (hv : ∀ v ∈ vs, KdV b v) : inV x vs = true ↔ x ∈ vs := by
  unfold inV
  rw [List.any_eq_true]
  constructor
  · rintro ⟨y, hy, e⟩
    have hk := hv y hy
    have : y = x := by
      cases b
      · obtain ⟨_, rfl⟩ := hx
        obtain ⟨_, rfl⟩ := hk
        exact congrArg V.str (eq_of_beq e)
      · obtain ⟨_, rfl⟩ := hx
        obtain ⟨_, rfl⟩ := hk
        exact congrArg V.int (eq_of_beq e)
    rw [← this]
    exact hy
  · intro h
    refine ⟨x, h, ?_⟩
    cases b
    · obtain ⟨_, rfl⟩ := hx
      exact beq_self_eq_true _
    · obtain ⟨_, rfl⟩ := hx
      exact beq_self_eq_true _
section
variable {b : Bool} {c lo hi v : V} {sg : Str}
/-- none between lo and hi stands so -/
theorem none_ok (hc : KdV b c) (hl : KdV b lo) (hh : KdV b hi) (hv : KdV b v) (g1 : vlt c lo = false) (g2 : vlt hi c = false) (h : noneB lo hi sg v = true) : soB c sg v = false := by
  unfold noneB at h
  unfold soB
  cases e1 : sgB sg "=" with
  | true =>
    rw [iT e1] at h
    rw [iT rfl]
    refine decide_eq_false fun z => ?_
    subst z
    cases e2 : vlt c lo with
    | true => rw [e2] at g1; cases g1
    | false => rw [iF e2, g2] at h; cases h
  | false =>
    rw [iF e1] at h
    rw [iF rfl]
    cases e2 : sgB sg "<>" with
    | true =>
      rw [iT e2] at h
      rw [iT rfl]
      cases e3 : decide (lo = v) with
      | false => rw [iF e3] at h; cases h
      | true =>
        rw [iT e3] at h
        have h1 := of_decide_eq_true e3
        have h2 := of_decide_eq_true h
        rw [h1] at g1
        rw [h2] at g2
        rw [decide_eq_true (vlt_eq hc hv g1 g2)]
        rfl
    | false =>
      rw [iF e2] at h
      rw [iF rfl]
      have split3 : ∀ x : V, soB x sg v = if sgB sg "<" = true then vlt x v else if sgB sg "<=" = true then !vlt v x else if sgB sg ">" = true then vlt v x else !vlt x v := fun x => by
        unfold soB
        rw [iF e1, iF e2]
      rw [split3, split3] at h
      cases e3 : sgB sg "<" with
      | true =>
        have hu : upB sg = true := by
          have := of_decide_eq_true e3
          injection this with this
          subst this
          rfl
        rw [iT hu, iT e3] at h
        rw [iT rfl]
        have h := nT h
        cases e : vlt c v with
        | false => rfl
        | true => rw [vlt_le hl hc g1 e] at h; cases h
      | false =>
        rw [iF e3, iF e3] at h
        rw [iF rfl]
        cases e4 : sgB sg "<=" with
        | true =>
          have hu : upB sg = true := by
            have := of_decide_eq_true e4
            injection this with this
            subst this
            rfl
          rw [iT hu, iT e4] at h
          rw [iT rfl]
          have h : vlt v lo = true := by
            cases z : vlt v lo with
            | true => rfl
            | false => rw [z] at h; cases h
          rw [vlt_lt hl hc h g1]
          rfl
        | false =>
          have hu : upB sg = false := by
            unfold upB inV
            have q1 := of_decide_eq_false e3
            have q2 := of_decide_eq_false e4
            show (eqV (V.str "<") (V.str sg) || (eqV (V.str "<=") (V.str sg) || false)) = false
            rw [show eqV (V.str "<") (V.str sg) = false from beq_eq_false_iff_ne.mpr fun z => q1 (by rw [z]), show eqV (V.str "<=") (V.str sg) = false from beq_eq_false_iff_ne.mpr fun z => q2 (by rw [z])]
            rfl
          rw [iF hu, iF e4] at h
          rw [iF rfl]
          cases e5 : sgB sg ">" with
          | true =>
            rw [iT e5] at h
            rw [iT rfl]
            have h := nT h
            cases e : vlt v c with
            | false => rfl
            | true => rw [vlt_lt hc hh e g2] at h; cases h
          | false =>
            rw [iF e5] at h
            rw [iF rfl]
            have h : vlt hi v = true := by
              cases z : vlt hi v with
              | true => rfl
              | false => rw [z] at h; cases h
            rw [vlt_le hc hh g2 h]
            rfl
/-- all between lo and hi stand so -/
theorem all_ok (hc : KdV b c) (hl : KdV b lo) (hh : KdV b hi) (hv : KdV b v) (g1 : vlt c lo = false) (g2 : vlt hi c = false) (h : allB lo hi sg v = true) : soB c sg v = true := by
  unfold allB at h
  unfold soB
  cases e1 : sgB sg "=" with
  | true =>
    rw [iT e1] at h
    rw [iT rfl]
    cases e3 : decide (lo = v) with
    | false => rw [iF e3] at h; cases h
    | true =>
      rw [iT e3] at h
      have h1 := of_decide_eq_true e3
      have h2 := of_decide_eq_true h
      rw [h1] at g1
      rw [h2] at g2
      exact decide_eq_true (vlt_eq hc hv g1 g2)
  | false =>
    rw [iF e1] at h
    rw [iF rfl]
    cases e2 : sgB sg "<>" with
    | true =>
      rw [iT e2] at h
      rw [iT rfl]
      rw [decide_eq_false]
      · rfl
      · intro z
        subst z
        cases e2 : vlt c lo with
        | true => rw [e2] at g1; cases g1
        | false => rw [iF e2, g2] at h; cases h
    | false =>
      rw [iF e2] at h
      rw [iF rfl]
      have split3 : ∀ x : V, soB x sg v = if sgB sg "<" = true then vlt x v else if sgB sg "<=" = true then !vlt v x else if sgB sg ">" = true then vlt v x else !vlt x v := fun x => by
        unfold soB
        rw [iF e1, iF e2]
      rw [split3, split3] at h
      cases e3 : sgB sg "<" with
      | true =>
        have hu : upB sg = true := by
          have := of_decide_eq_true e3
          injection this with this
          subst this
          rfl
        rw [iT hu, iT e3] at h
        rw [iT rfl]
        exact vlt_le hc hh g2 h
      | false =>
        rw [iF e3, iF e3] at h
        rw [iF rfl]
        cases e4 : sgB sg "<=" with
        | true =>
          have hu : upB sg = true := by
            have := of_decide_eq_true e4
            injection this with this
            subst this
            rfl
          rw [iT hu, iT e4] at h
          rw [iT rfl]
          have h := nT h
          rw [vle_tr hc hh g2 h]
          rfl
        | false =>
          have hu : upB sg = false := by
            unfold upB inV
            have q1 := of_decide_eq_false e3
            have q2 := of_decide_eq_false e4
            show (eqV (V.str "<") (V.str sg) || (eqV (V.str "<=") (V.str sg) || false)) = false
            rw [show eqV (V.str "<") (V.str sg) = false from beq_eq_false_iff_ne.mpr fun z => q1 (by rw [z]), show eqV (V.str "<=") (V.str sg) = false from beq_eq_false_iff_ne.mpr fun z => q2 (by rw [z])]
            rfl
          rw [iF hu, iF e4] at h
          rw [iF rfl]
          cases e5 : sgB sg ">" with
          | true =>
            rw [iT e5] at h
            rw [iT rfl]
            exact vlt_lt hl hc h g1
          | false =>
            rw [iF e5] at h
            rw [iF rfl]
            have h := nT h
            rw [vle_tr hv hl h g1]
            rfl
end
end Pk
set_option Elab.async false
set_option linter.all false
set_option maxRecDepth 100000
set_option maxHeartbeats 4000000
set_option autoImplicit false
namespace Pk
open PySem PySem.Spec PyProof.Rows L2
/-! ### what is looked at and what is read -/
theorem dTs {a b : Int} (h : a = b) : decide (V.int a = V.int b) = true := vDT h
theorem note_kd {b : Bool} {cs : List V} {lo hi : V} (hc : ∀ c ∈ cs, CkV b c) (hN : NoteOf cs lo hi) (h : cntO cs ≠ (cs.length : Int)) : KdV b lo ∧ KdV b hi ∧ ∀ c ∈ kn cs, KdV b c ∧ vlt c lo = false ∧ vlt hi c = false := by
  have hk := kn_kd hc
  rcases hN with ⟨h0, _, _⟩ | ⟨⟨h1, h2⟩, h3, h4⟩
  · exfalso
    apply h
    unfold cntO
    rw [h0]
    show (cs.length : Int) - (0 : Int) = _
    omega
  · exact ⟨hk _ h1, hk _ h3, fun c hc => ⟨hk c hc, h2 c hc, h4 c hc⟩⟩
theorem cnt_zero {cs : List V} (h : cntO cs = 0) : ∀ c ∈ cs, c ≠ .non := kn_all (by
  unfold cntO at h
  omega)
theorem cnt_all {cs : List V} (h : cntO cs = (cs.length : Int)) : ∀ c ∈ cs, c = .non := kn_nil (by
  unfold cntO at h
  omega)
theorem meet_non : ∀ {t : CT}, t ≠ .op → meetB .non t = false
  | .op, h => absurd rfl h
  | .am vs, _ => rfl
  | .so sg v, _ => rfl
theorem meet_am {c : V} {vs : List V} (h : c ≠ .non) : meetB c (.am vs) = inV c vs := by
  show (if decide (c = .non) = true then false else inV c vs) = _
  rw [iF (decide_eq_false h)]
theorem meet_so {c : V} {sg : Str} {v : V} (h : c ≠ .non) : meetB c (.so sg v) = soB c sg v := by
  show (if decide (c = .non) = true then false else soB c sg v) = _
  rw [iF (decide_eq_false h)]
theorem wd_cases (k : Int) (x y : Bool) : (wd k x y = wdN ∧ x = true) ∨ (wd k x y = wdA ∧ y = true ∧ k = 0) ∨ wd k x y = wdS := by
  unfold wd
  cases x with
  | true => exact .inl ⟨rfl, rfl⟩
  | false =>
    cases y with
    | true =>
      cases e : decide (V.int k = V.int 0) with
      | true =>
        refine .inr (.inl ⟨?_, rfl, vT e⟩)
        rw [iF rfl, iT rfl, iT rfl]
        rfl
      | false =>
        refine .inr (.inr ?_)
        rw [iF rfl, iT rfl, iF rfl]
        rfl
    | false => exact .inr (.inr rfl)
theorem lk_cases {b : Bool} {cs : List V} {lo hi : V} {t : CT} (hc : ∀ c ∈ cs, CkV b c) (hN : NoteOf cs lo hi) (hf : CTFit b t) :
    (lkS (cs.length : Int) (cntO cs) lo hi t = wdN ∧ ∀ c ∈ cs, meetB c t = false) ∨ (lkS (cs.length : Int) (cntO cs) lo hi t = wdA ∧ ∀ c ∈ cs, meetB c t = true) ∨ lkS (cs.length : Int) (cntO cs) lo hi t = wdS := by
  cases t with
  | op =>
    show (lkO _ _ = wdN ∧ _) ∨ (lkO _ _ = wdA ∧ _) ∨ lkO _ _ = wdS
    unfold lkO
    cases e : decide (V.int (cntO cs) = V.int 0) with
    | true =>
      rw [iT rfl]
      exact .inl ⟨rfl, fun c h => decide_eq_false (cnt_zero (vT e) c h)⟩
    | false =>
      rw [iF rfl]
      cases e2 : decide (V.int (cntO cs) = V.int (cs.length : Int)) with
      | true =>
        rw [iT rfl]
        exact .inr (.inl ⟨rfl, fun c h => decide_eq_true (cnt_all (vT e2) c h)⟩)
      | false =>
        rw [iF rfl]
        exact .inr (.inr rfl)
  | am vs =>
    show ((if _ then _ else _) = wdN ∧ _) ∨ ((if _ then _ else _) = wdA ∧ _) ∨ (if _ then _ else _) = wdS
    cases e : decide (V.int (cntO cs) = V.int (cs.length : Int)) with
    | true =>
      rw [iT rfl]
      exact .inl ⟨rfl, fun c h => by rw [cnt_all (vT e) c h]; exact meet_non (fun z => by cases z)⟩
    | false =>
      rw [iF rfl]
      obtain ⟨hl, hh, hm⟩ := note_kd hc hN (vF e)
      rcases wd_cases (cntO cs) ((vs.map (noneB lo hi "=")).all id) (if decide (lo = hi) = true then inV lo vs else false) with ⟨h, g⟩ | ⟨h, g, g0⟩ | h
      · refine .inl ⟨h, fun c hcm => ?_⟩
        by_cases cn : c = .non
        · rw [cn]; rfl
        · obtain ⟨k1, k2, k3⟩ := hm c (mem_kn hcm cn)
          rw [meet_am cn]
          cases hi2 : inV c vs with
          | false => rfl
          | true =>
            have hcv := (inV_kd k1 hf).mp hi2
            have := List.all_eq_true.mp g _ (List.mem_map.mpr ⟨c, hcv, rfl⟩)
            have := none_ok k1 hl hh k1 k2 k3 this
            unfold soB at this
            rw [iT (show sgB "=" "=" = true from decide_eq_true rfl), decide_eq_true rfl] at this
            cases this
      · refine .inr (.inl ⟨h, fun c hcm => ?_⟩)
        have cn := cnt_zero g0 c hcm
        obtain ⟨k1, k2, k3⟩ := hm c (mem_kn hcm cn)
        rw [meet_am cn]
        cases e2 : decide (lo = hi) with
        | false => rw [iF e2] at g; cases g
        | true =>
          rw [iT e2] at g
          rw [← of_decide_eq_true e2] at k3
          rw [vlt_eq k1 hl k2 k3]
          exact g
      · exact .inr (.inr h)
  | so sg v =>
    show ((if _ then _ else _) = wdN ∧ _) ∨ ((if _ then _ else _) = wdA ∧ _) ∨ (if _ then _ else _) = wdS
    cases e : decide (V.int (cntO cs) = V.int (cs.length : Int)) with
    | true =>
      rw [iT rfl]
      exact .inl ⟨rfl, fun c h => by rw [cnt_all (vT e) c h]; exact meet_non (fun z => by cases z)⟩
    | false =>
      rw [iF rfl]
      obtain ⟨hl, hh, hm⟩ := note_kd hc hN (vF e)
      rcases wd_cases (cntO cs) (noneB lo hi sg v) (allB lo hi sg v) with ⟨h, g⟩ | ⟨h, g, g0⟩ | h
      · refine .inl ⟨h, fun c hcm => ?_⟩
        by_cases cn : c = .non
        · rw [cn]; rfl
        · obtain ⟨k1, k2, k3⟩ := hm c (mem_kn hcm cn)
          rw [meet_so cn]
          exact none_ok k1 hl hh hf.2 k2 k3 g
      · refine .inr (.inl ⟨h, fun c hcm => ?_⟩)
        have cn := cnt_zero g0 c hcm
        obtain ⟨k1, k2, k3⟩ := hm c (mem_kn hcm cn)
        rw [meet_so cn]
        exact all_ok k1 hl hh hf.2 k2 k3 g
      · exact .inr (.inr h)
/-! ### bits and places seen -/
def pm0 : PM := ⟨true, [], fun _ => .non, fun _ => .non⟩
def pmAt (pms : List PM) (p : Nat) : PM := (pms[p]?).getD pm0
def stP (pms : List PM) (long s p : Nat) : List V := stc long (pmAt pms p).cells s
def lkP (pms : List PM) (long s p : Nat) (ct : CT) : Str := lkS ((stP pms long s p).length : Int) (cntO (stP pms long s p)) ((pmAt pms p).lo s) ((pmAt pms p).hi s) ct
def opP (pms : List PM) (long s p : Nat) : Bool := decide (V.int (cntO (stP pms long s p)) = V.int ((stP pms long s p).length : Int))
def rowS (pms : List PM) (k : Nat) : List V := pms.map fun p => (p.cells[k]?).getD .non
def bitS (pms : List PM) (long n s : Nat) (t : RT) : List Bool := (List.range (szS long n s)).map fun i => rowB (rowS pms (s * long + i)) t
def hasP (S : List Nat) (p : Nat) : List Nat := if decide (p ∈ S) = true then S else S ++ [p]
/-- none of these is x -/
def lacks (x : Bool) (l : List Bool) : Bool := !(l.any fun y => y == x)
def seenM (pms : List PM) (long n s : Nat) : RT → List Nat → List Nat
  | .alw, S => S
  | .cell p ct, S => if (!decide (V.str (lkP pms long s p ct) = V.str wdS)) = true then S else hasP S p
  | .cells p sg o, S => if opP pms long s p = true then S else if opP pms long s o = true then S else hasP (hasP S p) o
  | .neg t, S => seenM pms long n s t S
  | .both a b, S => if lacks true (bitS pms long n s a) = true then seenM pms long n s a S else seenM pms long n s b (seenM pms long n s a S)
  | .eith a b, S => if lacks false (bitS pms long n s a) = true then seenM pms long n s a S else seenM pms long n s b (seenM pms long n s a S)
/-- the places that a test names -/
def plR : RT → List Nat
  | .alw => []
  | .cell p _ => [p]
  | .cells p _ o => [p, o]
  | .neg t => plR t
  | .both a b => plR a ++ plR b
  | .eith a b => plR a ++ plR b
theorem hasP_nd {S : List Nat} {p : Nat} (h : S.Nodup) : (hasP S p).Nodup := by
  unfold hasP
  by_cases e : p ∈ S
  · rw [if_pos (decide_eq_true e)]; exact h
  · rw [if_neg (fun z => e (of_decide_eq_true z))]
    exact List.nodup_append.mpr ⟨h, by simp, fun a ha b hb z => e (by rw [← List.mem_singleton.mp hb, ← z]; exact ha)⟩
theorem hasP_sub {S : List Nat} {p q : Nat} (h : q ∈ hasP S p) : q ∈ S ∨ q = p := by
  unfold hasP at h
  by_cases e : p ∈ S
  · rw [if_pos (decide_eq_true e)] at h; exact .inl h
  · rw [if_neg (fun z => e (of_decide_eq_true z))] at h
    rcases List.mem_append.mp h with h | h
    · exact .inl h
    · exact .inr (List.mem_singleton.mp h)
theorem hasP_mem (S : List Nat) (p : Nat) : p ∈ hasP S p := by
  unfold hasP
  by_cases e : p ∈ S
  · rw [if_pos (decide_eq_true e)]; exact e
  · rw [if_neg (fun z => e (of_decide_eq_true z))]
    exact List.mem_append_right _ (by simp)
section
variable {pms : List PM} {long n s : Nat}
theorem seen_nd : ∀ {t : RT} {S : List Nat}, S.Nodup → (seenM pms long n s t S).Nodup
  | .alw, S, h => h
  | .cell p ct, S, h => by
    show (if _ then _ else _ : List Nat).Nodup
    split
    · exact h
    · exact hasP_nd h
  | .cells p sg o, S, h => by
    show (if _ then _ else if _ then _ else _ : List Nat).Nodup
    split
    · exact h
    · split
      · exact h
      · exact hasP_nd (hasP_nd h)
  | .neg t, S, h => seen_nd (t := t) h
  | .both a b, S, h => by
    show (if _ then _ else _ : List Nat).Nodup
    split
    · exact seen_nd h
    · exact seen_nd (seen_nd h)
  | .eith a b, S, h => by
    show (if _ then _ else _ : List Nat).Nodup
    split
    · exact seen_nd h
    · exact seen_nd (seen_nd h)
theorem seen_sub : ∀ {t : RT} {S : List Nat} {q : Nat}, q ∈ seenM pms long n s t S → q ∈ S ∨ q ∈ plR t
  | .alw, S, q, h => .inl h
  | .cell p ct, S, q, h => by
    have h : q ∈ (if _ then _ else _ : List Nat) := h
    split at h
    · exact .inl h
    · rcases hasP_sub h with h | h
      · exact .inl h
      · exact .inr (by rw [h]; exact List.mem_singleton.mpr rfl)
  | .cells p sg o, S, q, h => by
    have h : q ∈ (if _ then _ else if _ then _ else _ : List Nat) := h
    split at h
    · exact .inl h
    · split at h
      · exact .inl h
      · rcases hasP_sub h with h | h
        · rcases hasP_sub h with h | h
          · exact .inl h
          · exact .inr (by rw [h]; simp [plR])
        · exact .inr (by rw [h]; simp [plR])
  | .neg t, S, q, h => seen_sub (t := t) h
  | .both a b, S, q, h => by
    have h : q ∈ (if _ then _ else _ : List Nat) := h
    split at h
    · rcases seen_sub h with h | h
      · exact .inl h
      · exact .inr (List.mem_append_left _ h)
    · rcases seen_sub h with h | h
      · rcases seen_sub h with h | h
        · exact .inl h
        · exact .inr (List.mem_append_left _ h)
      · exact .inr (List.mem_append_right _ h)
  | .eith a b, S, q, h => by
    have h : q ∈ (if _ then _ else _ : List Nat) := h
    split at h
    · rcases seen_sub h with h | h
      · exact .inl h
      · exact .inr (List.mem_append_left _ h)
    · rcases seen_sub h with h | h
      · rcases seen_sub h with h | h
        · exact .inl h
        · exact .inr (List.mem_append_left _ h)
      · exact .inr (List.mem_append_right _ h)
theorem bit_neg (t : RT) : bitS pms long n s (.neg t) = (bitS pms long n s t).map (!·) := by
  unfold bitS
  rw [List.map_map]
  rfl
theorem lacks_not (x : Bool) (l : List Bool) : lacks x (l.map (!·)) = lacks (!x) l := by
  unfold lacks
  rw [List.any_map]
  congr 2
  funext y
  cases x <;> cases y <;> rfl
/-- not (not a or not b) -/
theorem seen_dm1 (a b : RT) (S : List Nat) : seenM pms long n s (.neg (.eith (.neg a) (.neg b))) S = seenM pms long n s (.both a b) S := by
  show (if _ then _ else _ : List Nat) = (if _ then _ else _)
  rw [bit_neg, lacks_not]
  rfl
theorem seen_dm2 (a b : RT) (S : List Nat) : seenM pms long n s (.neg (.both (.neg a) (.neg b))) S = seenM pms long n s (.eith a b) S := by
  show (if _ then _ else _ : List Nat) = (if _ then _ else _)
  rw [bit_neg, lacks_not]
  rfl
theorem row_dm1 (row : List V) (a b : RT) : rowB row (.neg (.eith (.neg a) (.neg b))) = rowB row (.both a b) := by
  show (!(if (!rowB row a) = true then true else !rowB row b)) = (if rowB row a = true then rowB row b else false)
  cases rowB row a <;> cases rowB row b <;> rfl
theorem row_dm2 (row : List V) (a b : RT) : rowB row (.neg (.both (.neg a) (.neg b))) = rowB row (.eith a b) := by
  show (!(if (!rowB row a) = true then !rowB row b else false)) = (if rowB row a = true then true else rowB row b)
  cases rowB row a <;> cases rowB row b <;> rfl
theorem bit_dm1 (a b : RT) : bitS pms long n s (.neg (.eith (.neg a) (.neg b))) = bitS pms long n s (.both a b) := by
  unfold bitS
  exact List.map_congr_left fun i _ => row_dm1 _ a b
theorem bit_dm2 (a b : RT) : bitS pms long n s (.neg (.both (.neg a) (.neg b))) = bitS pms long n s (.eith a b) := by
  unfold bitS
  exact List.map_congr_left fun i _ => row_dm2 _ a b
end
/-! all stretches -/
def maskM (pms : List PM) (long n : Nat) (t : RT) : List Bool := (List.range (nSt long n)).flatMap fun s => bitS pms long n s t
def pairM (pms : List PM) (long n : Nat) (t : RT) : List (Nat × Nat) := (List.range (nSt long n)).flatMap fun s => (seenM pms long n s t []).map fun p => (p, s)
def rowsM (pms : List PM) (n : Nat) : List (List V) := (List.range n).map fun k => rowS pms k
theorem mask_go {pms : List PM} {long n : Nat} {t : RT} (hl : 0 < long) : ∀ k, k ≤ nSt long n → (List.range k).flatMap (fun s => bitS pms long n s t) = (List.range (min (k * long) n)).map fun i => rowB (rowS pms i) t
  | 0, _ => by rw [Nat.zero_mul, Nat.zero_min]; rfl
  | k + 1, h => by
    have hk := nSt_lt hl (show k < nSt long n by omega)
    rw [List.range_succ, List.flatMap_append, mask_go hl k (by omega)]
    simp only [List.flatMap_cons, List.flatMap_nil, List.append_nil]
    rw [Nat.min_eq_left (Nat.le_of_lt hk)]
    unfold bitS szS
    have e : min ((k + 1) * long) n = k * long + min long (n - k * long) := by
      rw [Nat.succ_mul]
      omega
    rw [e, List.range_add, List.map_append, List.map_map]
    rfl
theorem mask_rows {pms : List PM} {long n : Nat} {t : RT} (hl : 0 < long) : maskM pms long n t = (rowsM pms n).map fun r => rowB r t := by
  unfold maskM rowsM
  rw [mask_go hl _ (Nat.le_refl _), List.map_map]
  have e : min (nSt long n * long) n = n := by
    have : n ≤ nSt long n * long := by
      rcases Nat.lt_or_ge (nSt long n * long) n with h | h
      · exact absurd (nSt_of hl h) (Nat.lt_irrefl _)
      · exact h
    omega
  rw [e]
  rfl
end Pk
set_option Elab.async false
set_option linter.all false
set_option maxRecDepth 100000
set_option maxHeartbeats 4000000
set_option autoImplicit false
namespace Pk
open PySem PySem.Spec PyProof.Rows L2
open C8 (Cal Met Mak pe_c pe_mk pe_mt pe_mt0 pe_gc)
section
variable {P : Program} {w : World} {K : PySem.W.Frag} {mg : Str → Option Value} {base : Heap} {CG CP upA : Addr}
/-! ### pillars -/
theorem rgc_chunk {n long : Nat} (h1 : 1 ≤ long) (h2 : long ≤ 1000) (h3 : n ≤ 1000) : RgC 0 (n : Int) (long : Int) (nSt long n) := by
  have hs : Builtin.Range.rangeSize 0 (n : Int) (long : Int) = ((nSt long n : Nat) : Int) := by
    rw [PyProof.Rows.rangeSize_pos (by omega) (by omega)]
    unfold nSt
    rw [Int.natCast_ediv]
    congr 1
    omega
  have hle := nSt_le (long := long) (n := n) (by omega)
  refine ⟨by omega, by omega, ?_, hs⟩
  unfold Builtin.Range.small
  rw [hs]
  simp only [Builtin.Range.rangeFitsLong, Bool.and_eq_true, Bool.or_eq_true, decide_eq_true_eq, beq_iff_eq, show ((long : Int) > 0) by omega, if_true]
  omega
/-- all but one stand -/
def ExB (x : Addr) (H H' : Hp) : Prop := ∀ a o, a ≠ x → H a = some o → H' a = some o
theorem ExB.r (x : Addr) (H : Hp) : ExB x H H := fun _ _ _ h => h
theorem ExB.trans {x : Addr} {H H1 H2 : Hp} (a : ExB x H H1) (b : ExB x H1 H2) : ExB x H H2 := fun y o n h => b y o n (a y o n h)
theorem ExB.of {x : Addr} {H H1 : Hp} (e : Ex H H1) : ExB x H H1 := fun y o _ h => e y o h
theorem ExB.at {x : Addr} {H H1 : Hp} (a : ExB x H H1) (o : HO) : ExB x H (upd H1 x o) := fun y u n h => by
  rw [upd_ne n]
  exact a y u n h
theorem ExB.new {x p : Addr} {H H1 : Hp} {o : HO} (a : ExB x H H1) (h : H p = none) : ExB x H (upd H1 p o) := fun y u n z => by
  rw [upd_ne (ne_of_none z h)]
  exact a y u n z
theorem ExB.ex {x : Addr} {H H1 : Hp} (a : ExB x H H1) (h : H x = none) : Ex H H1 := fun y o z => a y o (ne_of_none z h) z
theorem ExB.back {x p : Addr} {H H1 : Hp} (a : ExB x H H1) (n : p ≠ x) (h : H1 p = none) : H p = none := by
  cases e : H p with
  | none => rfl
  | some o =>
    rw [a p o n e] at h
    cases h
theorem exBL {x a : Addr} {xs : List V} {H H' : Hp} (h : SqL K H a xs) (e : ExB x H H') (hx : ∃ C dx fs, H x = some (.ins C dx fs)) : SqL K H' a xs := by
  rcases h with h | h
  · refine .inl ?_
    rcases h with h | ⟨o, h⟩
    · exact .inl (e _ _ (fun z => by
        obtain ⟨C, dx, fs, g⟩ := hx
        rw [← z, h] at g
        cases g) h)
    · exact .inr ⟨o, e _ _ (fun z => by
        obtain ⟨C, dx, fs, g⟩ := hx
        rw [← z, h] at g
        cases g) h⟩
  · exact .inr h
def PilFs (long n : Nat) (r nt : Addr) : List (Str × V) := [("each", .int (long : Int)), ("so_many", .int (n : Int)), ("own_rows", .ref r), ("own_notes", .ref nt)]
def ntV (long : Nat) (pm : PM) (s : Nat) : List V := [.int ((stc long pm.cells s).length : Int), .int (cntO (stc long pm.cells s)), pm.lo s, pm.hi s]
structure PilAt (CP : Addr) (H : Hp) (long n : Nat) (pm : PM) (a : Addr) : Prop where
  ex : ∃ dx r nt rows notes, H a = some (.ins CP dx (PilFs long n r nt)) ∧ H r = some (.lst rows) ∧ H nt = some (.lst notes) ∧ rows.length = nSt long n ∧ notes.length = nSt long n ∧
    (∀ s, s < nSt long n → ∃ p row, rows[s]? = some (.ref p) ∧ H p = some (.lst (row.map V.int)) ∧ IsRow (stc long pm.cells s) row) ∧
    (∀ s, s < nSt long n → ∃ p, notes[s]? = some (.ref p) ∧ H p = some (.tup (ntV long pm s)))
theorem PilAt.mono {H H' : Hp} {long n : Nat} {pm : PM} {a : Addr} (h : PilAt CP H long n pm a) (e : Ex H H') : PilAt CP H' long n pm a := by
  obtain ⟨dx, r, nt, rows, notes, h1, h2, h3, h4, h5, h6, h7⟩ := h.ex
  refine ⟨dx, r, nt, rows, notes, e _ _ h1, e _ _ h2, e _ _ h3, h4, h5, fun s hs => ?_, fun s hs => ?_⟩
  · obtain ⟨p, row, g1, g2, g3⟩ := h6 s hs
    exact ⟨p, row, g1, e _ _ g2, g3⟩
  · obtain ⟨p, g1, g2⟩ := h7 s hs
    exact ⟨p, g1, e _ _ g2⟩
/-- .. where a dict changes -/
theorem PilAt.monoD {H H' : Hp} {long n : Nat} {pm : PM} {a d : Addr} {kvs : List (Key × V)} (h : PilAt CP H long n pm a) (e : ExB d H H') (hd : H d = some (.dK kvs)) : PilAt CP H' long n pm a := by
  obtain ⟨dx, r, nt, rows, notes, h1, h2, h3, h4, h5, h6, h7⟩ := h.ex
  have ne : ∀ {x : Addr} {o : HO}, H x = some o → (∀ k, o ≠ .dK k) → x ≠ d := fun hx hn z => by
    rw [z, hd] at hx
    exact hn _ (Option.some.inj hx).symm
  refine ⟨dx, r, nt, rows, notes, e _ _ (ne h1 fun _ z => by cases z) h1, e _ _ (ne h2 fun _ z => by cases z) h2, e _ _ (ne h3 fun _ z => by cases z) h3, h4, h5, fun s hs => ?_, fun s hs => ?_⟩
  · obtain ⟨p, row, g1, g2, g3⟩ := h6 s hs
    exact ⟨p, row, g1, e _ _ (ne g2 fun _ z => by cases z) g2, g3⟩
  · obtain ⟨p, g1, g2⟩ := h7 s hs
    exact ⟨p, g1, e _ _ (ne g2 fun _ z => by cases z) g2⟩
def sp_Pillar_notes (K : PySem.W.Frag) (CP : Addr) : Sp := fun vs H Q _ => ∃ (a : Addr) (long n : Nat) (pm : PM), vs = [.ref a] ∧ PilAt CP H long n pm a ∧
  ∀ p notes H2, H p = none → Ex H H2 → H2 p = some (.lst notes) → notes.length = nSt long n → (∀ s, s < nSt long n → ∃ q, notes[s]? = some (.ref q) ∧ H2 q = some (.tup (ntV long pm s))) → Q (.ref p) H2
theorem ok_Pillar_notes (T : Gf K mg CG CP upA) (D : Mfn K CP "notes" "Pillar.notes" s_Pillar_notes)  : Met P w K mg base 1 CP "notes" (sp_Pillar_notes K CP) [] := by
  refine met_mk D sc_Pillar_notes (fun _ _ _ _ _ _ us hl => match us, hl with | [_], _ => rfl) (fun vs H Q E h => ?_) (fun f cdv A outer s H vs Q E hr h => ?_)
  · obtain ⟨_, _, _, _, rfl, _⟩ := h; rfl
  · obtain ⟨a, long, n, pm, rfl, hP, q⟩ := h
    refine ⟨_, pss_one (ps_ret (pe_callTy call_list_of (by rfl) T.list (by decide +kernel) (pa_cons (pe_fld (pv 0) rfl) pa_nil))), ?_⟩
    obtain ⟨dx, r, nt, rows, notes, h1, h2, h3, h4, h5, h6, h7⟩ := hP.ex
    refine ⟨_, rfl, _, _, _, _, _, rfl, h1, T.clP, T.p_notes, rfl, _, _, rfl, .inl (lsOf h3), fun p np => ?_⟩
    refine q p notes _ np (Ex.n np) upd_same h5 fun s hs => ?_
    obtain ⟨p2, g1, g2⟩ := h7 s hs
    exact ⟨p2, g1, Ex.n np _ _ g2⟩
def sp_Pillar_stretch (K : PySem.W.Frag) (CP : Addr) : Sp := fun vs H Q _ => ∃ (a : Addr) (i : Int) (s long n : Nat) (pm : PM), vs = [.ref a, .int i] ∧ i = (s : Int) ∧ PilAt CP H long n pm a ∧ s < nSt long n ∧ 1 ≤ long ∧ long ≤ 64 ∧ pm.Ok long n ∧ GL (stc long pm.cells s) H Q
theorem ok_Pillar_stretch (T : Gf K mg CG CP upA) (D : Mfn K CP "stretch" "Pillar.stretch" s_Pillar_stretch) (c_unpressed : Cal P w K mg base 9 "unpressed" (sp_unpressed K) []) : Met P w K mg base 10 CP "stretch" (sp_Pillar_stretch K CP) [] := by
  refine met_mk D sc_Pillar_stretch (fun _ _ _ _ _ _ us hl => match us, hl with | [_, _], _ => rfl) (fun vs H Q E h => ?_) (fun f cdv A outer s H vs Q E hr h => ?_)
  · obtain ⟨_, _, _, _, _, _, rfl, _⟩ := h; rfl
  · obtain ⟨a, i, s', long, n, pm, rfl, rfl, hP, hs, hl1, hl2, ok, q⟩ := h
    refine ⟨_, pss_cons (ps_if (pt_not (pt_chain op_le op_lt (pe_int) (pv 1) (pe_callB call_len_seq (by rfl) T.len (by decide +kernel) (pa_cons (pe_fld (pv 0) rfl) pa_nil)))) (pss_never) (pss_nil))
      (pss_one (ps_ret (pe_c c_unpressed hr (by decide) (by rfl) (pa_cons (pe_ix ix_list (pe_fld (pv 0) rfl) (pv 1) (fun _ _ => rfl)) pa_nil)))), ?_⟩
    obtain ⟨dx, r, nt, rows, notes, h1, h2, h3, h4, h5, h6, h7⟩ := hP.ex
    refine ⟨_, rfl, _, _, rfl, rfl, _, rfl, ifT (dT (by omega)) ?_⟩
    refine ⟨_, rfl, _, _, _, _, _, rfl, h1, T.clP, T.p_rows, rfl, _, _, rfl, .inl (lsOf h2), _, _, rfl, rfl, _, rfl, ifF (by rw [dT (by omega)]; rfl) ?_⟩
    obtain ⟨p, row, g1, g2, g3⟩ := h6 s' hs
    have hz : (stc long pm.cells s').length = szS long n s' := by rw [stc_len, ok.len]; rfl
    have hz1 := szS_pos (by omega) hs
    have hz2 : szS long n s' ≤ long := Nat.min_le_left ..
    exact ⟨_, rfl, _, _, _, _, _, rfl, h1, T.clP, T.p_rows, rfl, _, rfl, _, _, _, _, rfl, rfl, lsOf h2, at_k g1 rfl, pm.b, p, row, _, rfl, lsOf g2, g3, fun c h => ok.kd c (stc_mem h), by omega, by omega, q⟩
end
end Pk
set_option Elab.async false
set_option linter.all false
set_option maxRecDepth 100000
set_option maxHeartbeats 4000000
set_option autoImplicit false
namespace Pk
open PySem PySem.Spec PyProof.Rows L2
open C8 (Cal Met Mak pe_c pe_mk pe_mt pe_mt0 pe_gc)
section
variable {P : Program} {w : World} {K : PySem.W.Frag} {mg : Str → Option Value} {base : Heap} {CG CP upA : Addr}
/-! ### Pillar.__init__ -/
theorem cut_nat (xs : List V) {a c : Nat} (h : a ≤ c) : cutV xs (some (a : Int)) (some (c : Int)) = (xs.drop a).take (c - a) := by
  unfold cutV
  rw [HT.sIx_nat, HT.sIx_nat]
  rcases Nat.lt_or_ge a xs.length with h1 | h1
  · rw [Nat.min_eq_left (Nat.le_of_lt h1)]
    rcases Nat.lt_or_ge c xs.length with h2 | h2
    · rw [Nat.min_eq_left (Nat.le_of_lt h2)]
    · rw [Nat.min_eq_right h2, List.take_of_length_le (by rw [List.length_drop]; exact Nat.le_refl _), List.take_of_length_le (by rw [List.length_drop]; omega)]
  · rw [Nat.min_eq_right h1, Nat.min_eq_right (by omega), List.drop_of_length_le (Nat.le_refl _), List.drop_of_length_le h1]
    simp
/-- the rows and notes made so far -/
structure PilI (CP : Addr) (K : PySem.W.Frag) (H H' : Hp) (x dx r nt : Addr) (long : Nat) (cells : List V) (i : Nat) : Prop where
  ex : ∃ (rows notes : List V) (lo hi : Nat → V), ExB x H H' ∧ H' x = some (.ins CP dx (PilFs long cells.length r nt)) ∧ H' r = some (.lst rows) ∧ H' nt = some (.lst notes) ∧ rows.length = i ∧ notes.length = i ∧
    (∀ s, s < i → ∃ p row, rows[s]? = some (.ref p) ∧ H' p = some (.lst (row.map V.int)) ∧ IsRow (stc long cells s) row ∧ p ≠ r ∧ p ≠ nt ∧ H p = none) ∧
    (∀ s, s < i → NoteOf (stc long cells s) (lo s) (hi s) ∧ ∃ p, notes[s]? = some (.ref p) ∧ H' p = some (.tup [.int ((stc long cells s).length : Int), .int (cntO (stc long cells s)), lo s, hi s]) ∧ H p = none)
/-- x and what is new -/
def newH (x : Addr) (H H2 : Hp) : Hp := fun a => if a = x ∨ H a = none then H2 a else none
theorem newH_at {x a : Addr} {H H2 : Hp} {o : HO} (h : a = x ∨ H a = none) (g : H2 a = some o) : newH x H H2 a = some o := by
  unfold newH
  rw [if_pos h]
  exact g
theorem newH_of {x a : Addr} {H H2 : Hp} {o : HO} (h : newH x H H2 a = some o) : H2 a = some o ∧ (a = x ∨ H a = none) := by
  unfold newH at h
  by_cases c : a = x ∨ H a = none
  · rw [if_pos c] at h
    exact ⟨h, c⟩
  · rw [if_neg c] at h
    cases h
def sp_Pillar_init (K : PySem.W.Frag) (CP : Addr) : Sp := fun vs H Q _ => ∃ (b : Bool) (x dx cl : Addr) (i : Int) (long : Nat) (cells : List V), vs = [.ref x, .int i, .ref cl] ∧ i = (long : Int) ∧ H x = some (.ins CP dx []) ∧ SqL K H cl cells ∧ (∀ c ∈ cells, CK b c) ∧ 1 ≤ long ∧ long ≤ 64 ∧ cells.length ≤ 1000 ∧
  ∀ pm H2, pm.cells = cells → pm.b = b → pm.Ok long cells.length → ExB x H H2 → PilAt CP (newH x H H2) long cells.length pm x → Q .non H2
theorem ok_Pillar_init (T : Gf K mg CG CP upA) (D : Ifn K mg "Pillar" CP "Pillar.__init__" s_Pillar_init) (c_pressed : Cal P w K mg base 8 "pressed" (sp_pressed K) []) (c_note_of : Cal P w K mg base 1 "note_of" (sp_note_of K) []) : Mak P w K mg base 9 "Pillar" CP (sp_Pillar_init K CP) [] := by
  refine mak_mk D sc_Pillar_init (fun _ _ _ _ _ _ us hl => match us, hl with | [_, _, _], _ => rfl) (fun vs H Q E h => ?_) (fun f cdv A outer s H vs Q E hr h => ?_)
  · obtain ⟨_, _, _, _, _, _, _, rfl, _⟩ := h; rfl
  · obtain ⟨b, x, dx, cl, i, long, cells, rfl, rfl, hx, hS, hck, h1, h2, hl, q⟩ := h
    refine ⟨_, pss_cons (ps_fld (pv 0) (pv 1) rfl)
      (pss_cons (ps_fld (pv 0) (pe_callB call_len_seq (by rfl) T.len (by decide +kernel) (pa_cons (pv 2) pa_nil)) rfl)
      (pss_cons (ps_fld (pv 0) (pe_lst (pa_nil)) rfl)
      (pss_cons (ps_fld (pv 0) (pe_lst (pa_nil)) rfl)
      (pss_one (ps_for PassesOwn.never rfl (pi_range3 (by rfl) T.range (pa_cons (pe_int) (pa_cons (pe_callB call_len_seq (by rfl) T.len (by decide +kernel) (pa_cons (pv 2) pa_nil)) (pa_cons (pv 1) pa_nil)))) (pg_name (i := 3) sc_Pillar_init.nd rfl (Or.inl rfl))
        (pss_cons (ps_set (i := 4) sc_Pillar_init.nd rfl (Or.inl rfl) (pe_callTy call_list_of (by rfl) T.list (by decide +kernel) (pa_cons (pe_slice sl_list (pv 2) (po_some (pv 3)) (po_some (pe_op op_add (pv 3) (pv 1)))) pa_nil)))
        (pss_cons (ps_expr (pe_bm PySem.F.plainAttrs_list PySem.F.slot_list_append PySem.F.type_list_append mt_append (pe_fld (pv 0) rfl) (pa_cons (pe_c c_pressed hr (by decide) (by rfl) (pa_cons (pv 4) pa_nil)) pa_nil)))
        (pss_one (ps_expr (pe_bm PySem.F.plainAttrs_list PySem.F.slot_list_append PySem.F.type_list_append mt_append (pe_fld (pv 0) rfl) (pa_cons (pe_c c_note_of hr (by decide) (by rfl) (pa_cons (pv 4) pa_nil)) pa_nil))))))))))), ?_⟩
    have hS0 : ∀ {H'}, ExB x H H' → SqL K H' cl cells := fun e => exBL hS e ⟨_, _, _, hx⟩
    have b1 : ExB x H (upd H x (.ins CP dx [("each", .int (long : Int))])) := (ExB.r x H).at _
    refine ⟨_, rfl, _, rfl, _, _, _, _, rfl, hx, T.clP, T.p_each, (by decide), ?_⟩
    refine ⟨_, rfl, _, _, rfl, .inl (hS0 b1), _, rfl, _, _, _, _, rfl, upd_same, T.clP, T.p_so, (by show 1 < 1000; decide), ?_⟩
    have b2 : ExB x H (upd (upd H x (.ins CP dx [("each", .int (long : Int))])) x (.ins CP dx [("each", .int (long : Int)), ("so_many", .int (cells.length : Int))])) := b1.at _
    refine ⟨Nat.zero_le _, fun r nr => ?_⟩
    have nr0 : H r = none := b2.back (fun z => by rw [z, upd_same] at nr; cases nr) nr
    have hrx : x ≠ r := fun z => by rw [← z, upd_same] at nr; cases nr
    refine ⟨_, rfl, _, _, _, _, rfl, by rw [upd_ne hrx]; exact upd_same, T.clP, T.p_rows, (by show 2 < 1000; decide), ?_⟩
    refine ⟨Nat.zero_le _, fun nt nn => ?_⟩
    have hnx : x ≠ nt := fun z => by rw [← z, upd_same] at nn; cases nn
    have hrn : r ≠ nt := fun z => by rw [← z, upd_ne hrx.symm, upd_same] at nn; cases nn
    refine ⟨_, rfl, _, _, _, _, rfl, by rw [upd_ne hnx]; exact upd_same, T.clP, T.p_notes, (by show 3 < 1000; decide), ?_⟩
    have b3 := ((b2.new (o := .lst []) nr0).at (.ins CP dx [("each", .int (long : Int)), ("so_many", .int (cells.length : Int)), ("own_rows", .ref r)]))
    have nn0 : H nt = none := b3.back hnx.symm nn
    have b4 := (b3.new (o := .lst []) nn0).at (.ins CP dx (PilFs long cells.length r nt))
    refine ⟨_, rfl, _, _, rfl, .inl (hS0 b4), _, rfl, _, _, _, _, rfl, rgc_chunk h1 (by omega) hl, ?_⟩
    refine for_it walk_rangeC (fun i σ' H' => PilI CP K H H' x dx r nt long cells i ∧ ∃ y3 y4, σ' = [some (.ref x), some (.int (long : Int)), some (.ref cl), y3, y4]) ⟨⟨[], [], fun _ => .non, fun _ => .non, b4, upd_same, ?_, ?_, rfl, rfl, fun s h => absurd h (Nat.not_lt_zero _), fun s h => absurd h (Nat.not_lt_zero _)⟩, none, none, rfl⟩
      (fun _ _ _ _ _ => trivial) (fun i v σ' H' H3 hi hI hy => ?_) (fun σ' H' hI => ?_)
    · rw [upd_ne hrx.symm, upd_ne hrn, upd_ne hrx.symm, upd_same]
    · rw [upd_ne hnx.symm, upd_same]
    · obtain ⟨hJ, y3, y4, rfl⟩ := hI
      obtain ⟨rows, notes, lo, hi', e0, g1, g2, g3, g4, g5, g6, g7⟩ := hJ.ex
      obtain ⟨rfl, rfl⟩ := hy
      have hlt := nSt_lt (by omega) hi
      have hz : (stc long cells i).length = szS long cells.length i := stc_len
      have hz1 := szS_pos (by omega) hi
      have hz2 : szS long cells.length i ≤ long := Nat.min_le_left ..
      have hst : ∀ c ∈ stc long cells i, CK b c := fun c h => hck c (stc_mem h)
      refine ⟨_, rfl, _, rfl, _, rfl, _, rfl, _, rfl, _, _, rfl, rfl, _, rfl, _, _, rfl, hS0 e0, fun p0 np0 => ?_⟩
      have ecut : cutV cells (some (0 + ((i : Nat) : Int) * (long : Int))) (some (0 + ((i : Nat) : Int) * (long : Int) + (long : Int))) = stc long cells i := by
        have e1 : (0 + ((i : Nat) : Int) * (long : Int)) = ((i * long : Nat) : Int) := by rw [Int.zero_add, Int.natCast_mul]
        have e2 : ((i * long : Nat) : Int) + (long : Int) = ((i * long + long : Nat) : Int) := by omega
        rw [e1, e2, cut_nat _ (Nat.le_add_right ..)]
        unfold stc
        rw [Nat.add_sub_cancel_left]
      have ecut2 : (HO.lst (cutV cells (some (0 + ((i : Nat) : Int) * (long : Int))) (some (0 + ((i : Nat) : Int) * (long : Int) + (long : Int))))) = HO.lst (stc long cells i) := by rw [ecut]
      rw [ecut2] at *
      refine ⟨_, _, rfl, .inl (lsOf upd_same), fun p1 np1 => ?_⟩
      have ea : Ex H3 (upd (upd H3 p0 (.lst (stc long cells i))) p1 (.lst (stc long cells i))) := (Ex.n np0).trans (Ex.n np1)
      have hp1 : (upd (upd H3 p0 (.lst (stc long cells i))) p1 (.lst (stc long cells i))) p1 = some (.lst (stc long cells i)) := upd_same
      generalize hHa : upd (upd H3 p0 (.lst (stc long cells i))) p1 (.lst (stc long cells i)) = Ha at ea hp1
      have hp1r : p1 ≠ r := fun z => ne_of_none (Ex.n np0 _ _ g2) np1 z.symm
      refine ⟨_, rfl, _, _, _, _, _, rfl, ea _ _ g1, T.clP, T.p_rows, rfl, .inl ⟨rfl, _, .inl (.inl (ea _ _ g2))⟩, _, rfl, b, p1, _, rfl, lsOf hp1, hst, by omega, by omega, fun p row H4 np e4 hrow hp => ?_⟩
      have hpr : p ≠ r := fun z => ne_of_none (ea _ _ g2) np z.symm
      have hpn : p ≠ nt := fun z => ne_of_none (ea _ _ g3) np z.symm
      have hp0 : H p = none := e0.back (fun z => ne_of_none (ea _ _ g1) np z.symm) (Evl.fresh_back ea np)
      have hn3 := nSt_le (long := long) (n := cells.length) (by omega)
      refine ⟨_, _, _, rfl, rfl, e4 _ _ (ea _ _ g2), smlt (by omega), ?_⟩
      have hx5 : (upd H4 r (.lst (rows ++ [.ref p]))) x = some (.ins CP dx (PilFs long cells.length r nt)) := by
        rw [upd_ne hrx]
        exact e4 _ _ (ea _ _ g1)
      have hn5 : (upd H4 r (.lst (rows ++ [.ref p]))) nt = some (.lst notes) := by
        rw [upd_ne hrn.symm]
        exact e4 _ _ (ea _ _ g3)
      have hp15 : (upd H4 r (.lst (rows ++ [.ref p]))) p1 = some (.lst (stc long cells i)) := by
        rw [upd_ne hp1r]
        exact e4 _ _ hp1
      refine ⟨_, rfl, _, _, _, _, _, rfl, hx5, T.clP, T.p_notes, rfl, .inl ⟨rfl, _, .inl (.inl hn5)⟩, _, rfl, b, p1, _, rfl, lsOf hp15, fun c h => (hst c h).v, by omega, fun lo2 hi2 hN p2 H6 np2 e6 hp2 => ?_⟩
      refine ⟨_, _, _, rfl, rfl, e6 _ _ hn5, smlt (by omega), ?_⟩
      have hp2n : p2 ≠ nt := fun z => ne_of_none hn5 np2 z.symm
      have hp20 : H p2 = none := by
        have hr2 : p2 ≠ r := fun z => by rw [z, upd_same] at np2; cases np2
        rw [upd_ne hr2] at np2
        have np3 := Evl.fresh_back ea (Evl.fresh_back e4 np2)
        exact e0.back (fun z => ne_of_none g1 np3 z.symm) np3
      have keep : ∀ a o, a ≠ r → a ≠ nt → H4 a = some o → (upd H6 nt (.lst (notes ++ [.ref p2]))) a = some o := fun a o h1 h2 h => by
        rw [upd_ne h2]
        refine e6 _ _ ?_
        rw [upd_ne h1]
        exact h
      have keep3 : ∀ a o, a ≠ r → a ≠ nt → H3 a = some o → (upd H6 nt (.lst (notes ++ [.ref p2]))) a = some o := fun a o h1 h2 h => keep a o h1 h2 (e4 _ _ (ea _ _ h))
      refine ⟨⟨rows ++ [.ref p], notes ++ [.ref p2], fun s => if s = i then lo2 else lo s, fun s => if s = i then hi2 else hi' s, ?_, ?_, ?_, upd_same, by rw [List.length_append, g4]; rfl, by rw [List.length_append, g5]; rfl, fun s hs => ?_, fun s hs => ?_⟩, some (.int (0 + (i : Int) * (long : Int))), some (.ref p1), rfl⟩
      · exact ((((e0.trans (.of ea)).trans (.of e4)).new nr0).trans (.of e6)).new nn0
      · rw [upd_ne hnx]
        exact e6 _ _ hx5
      · rw [upd_ne hrn]
        exact e6 _ _ upd_same
      · rcases Nat.lt_or_ge s i with h | h
        · obtain ⟨p9, row9, k1, k2, k3, k4, k5, k6⟩ := g6 s h
          exact ⟨p9, row9, by rw [List.getElem?_append_left (by omega)]; exact k1, keep3 _ _ k4 k5 k2, k3, k4, k5, k6⟩
        · obtain rfl : s = i := by omega
          exact ⟨p, row, by rw [List.getElem?_append_right (by omega), g4, Nat.sub_self]; rfl, keep _ _ hpr hpn hp, hrow, hpr, hpn, hp0⟩
      · rcases Nat.lt_or_ge s i with h | h
        · obtain ⟨k0, p9, k1, k2, k6⟩ := g7 s h
          have hsi : s ≠ i := by omega
          dsimp only
          rw [if_neg hsi, if_neg hsi]
          have k4 : p9 ≠ r := fun z => by rw [z, g2] at k2; cases k2
          have k5 : p9 ≠ nt := fun z => by rw [z, g3] at k2; cases k2
          exact ⟨k0, p9, by rw [List.getElem?_append_left (by omega)]; exact k1, keep3 _ _ k4 k5 k2, k6⟩
        · obtain rfl : s = i := by omega
          dsimp only
          rw [if_pos rfl, if_pos rfl]
          refine ⟨hN, p2, by rw [List.getElem?_append_right (by omega), g5, Nat.sub_self]; rfl, ?_, hp20⟩
          rw [upd_ne hp2n]
          exact hp2
    · obtain ⟨hJ, y3, y4, rfl⟩ := hI
      obtain ⟨rows, notes, lo, hi', e0, g1, g2, g3, g4, g5, g6, g7⟩ := hJ.ex
      refine q ⟨b, cells, lo, hi'⟩ H' rfl rfl ⟨rfl, hck, fun s hs => (g7 s hs).1⟩ e0 ⟨dx, r, nt, rows, notes, newH_at (.inl rfl) g1, newH_at (.inr nr0) g2, newH_at (.inr nn0) g3, g4, g5, fun s hs => ?_, fun s hs => ?_⟩
      · obtain ⟨p, row, k1, k2, k3, _, _, k6⟩ := g6 s hs
        exact ⟨p, row, k1, newH_at (.inr k6) k2, k3⟩
      · obtain ⟨_, p, k1, k2, k6⟩ := g7 s hs
        exact ⟨p, k1, newH_at (.inr k6) k2⟩
end
end Pk
set_option Elab.async false
set_option linter.all false
set_option maxRecDepth 100000
set_option maxHeartbeats 4000000
set_option autoImplicit false
namespace Pk
open PySem PySem.Spec PyProof.Rows L2
open C8 (Cal Met Mak pe_c pe_mk pe_mt pe_mt0 pe_gc)
section
variable {P : Program} {w : World} {K : PySem.W.Frag} {mg : Str → Option Value} {base : Heap} {CG CP upA : Addr}
/-! ### glances -/
theorem exD_L {d a : Addr} {xs : List V} {kvs : List (Key × V)} {H H' : Hp} (h : SqL K H a xs) (e : ExB d H H') (hd : H d = some (.dK kvs)) : SqL K H' a xs := by
  rcases h with h | h
  · refine .inl ?_
    rcases h with h | ⟨o, h⟩
    · exact .inl (e _ _ (fun z => by rw [z, hd] at h; cases h) h)
    · exact .inr ⟨o, e _ _ (fun z => by rw [z, hd] at h; cases h) h⟩
  · exact .inr h
theorem exD_T {d a : Addr} {xs : List V} {kvs : List (Key × V)} {H H' : Hp} (h : SqT K H a xs) (e : ExB d H H') (hd : H d = some (.dK kvs)) : SqT K H' a xs := by
  rcases h with h | h
  · refine .inl ?_
    rcases h with h | ⟨o, h⟩
    · exact .inl (e _ _ (fun z => by rw [z, hd] at h; cases h) h)
    · exact .inr ⟨o, e _ _ (fun z => by rw [z, hd] at h; cases h) h⟩
  · exact .inr h
theorem CTAt.exD {d a : Addr} {kvs : List (Key × V)} {H H' : Hp} (e : ExB d H H') (hd : H d = some (.dK kvs)) : ∀ {t : CT}, CTAt K H t a → CTAt K H' t a
  | .op, h => exD_T (xs := [.str "open"]) h e hd
  | .am vs, ⟨l, h1, h2⟩ => ⟨l, exD_T h1 e hd, exD_L h2 e hd⟩
  | .so sg v, h => exD_T (xs := [.str sg, v]) h e hd
theorem RTAt.exD {d : Addr} {kvs : List (Key × V)} {H H' : Hp} (e : ExB d H H') (hd : H d = some (.dK kvs)) : ∀ {t : RT} {a : Addr}, RTAt K H t a → RTAt K H' t a
  | .alw, _, h => exD_T (xs := [.str "always"]) h e hd
  | .cell _ _, _, ⟨b, h1, h2⟩ => ⟨b, exD_T h1 e hd, h2.exD e hd⟩
  | .cells i sg j, _, h => exD_T (xs := [.str "cells", .int (i : Int), .str sg, .int (j : Int)]) h e hd
  | .neg _, _, ⟨b, h1, h2⟩ => ⟨b, exD_T h1 e hd, h2.exD e hd⟩
  | .both _ _, _, ⟨b, c, h1, h2, h3⟩ => ⟨b, c, exD_T h1 e hd, h2.exD e hd, h3.exD e hd⟩
  | .eith _ _, _, ⟨b, c, h1, h2, h3⟩ => ⟨b, c, exD_T h1 e hd, h2.exD e hd, h3.exD e hd⟩
def GlFs (pl nl : Addr) (s : Nat) (sd : Addr) : List (Str × V) := [("some", .ref pl), ("notes_there", .ref nl), ("at", .int (s : Int)), ("seen", .ref sd)]
/-- pillars in a list -/
def PilsAt (CP : Addr) (H : Hp) (long n : Nat) (pms : List PM) (pl : Addr) : Prop := ∃ ps, H pl = some (.lst ps) ∧ ps.length = pms.length ∧ ∀ (i : Nat) (pm : PM), pms[i]? = some pm → ∃ a, ps[i]? = some (.ref a) ∧ PilAt CP H long n pm a
theorem PilsAt.mono {H H' : Hp} {long n : Nat} {pms : List PM} {pl : Addr} (h : PilsAt CP H long n pms pl) (e : Ex H H') : PilsAt CP H' long n pms pl := by
  obtain ⟨ps, h1, h2, h3⟩ := h
  refine ⟨ps, e _ _ h1, h2, fun i pm hi => ?_⟩
  obtain ⟨a, g1, g2⟩ := h3 i pm hi
  exact ⟨a, g1, g2.mono e⟩
theorem PilsAt.monoD {H H' : Hp} {long n : Nat} {pms : List PM} {pl d : Addr} {kvs : List (Key × V)} (h : PilsAt CP H long n pms pl) (e : ExB d H H') (hd : H d = some (.dK kvs)) : PilsAt CP H' long n pms pl := by
  obtain ⟨ps, h1, h2, h3⟩ := h
  refine ⟨ps, e _ _ (fun z => by rw [z, hd] at h1; cases h1) h1, h2, fun i pm hi => ?_⟩
  obtain ⟨a, g1, g2⟩ := h3 i pm hi
  exact ⟨a, g1, g2.monoD e hd⟩
/-- the notes of a stretch, place by place -/
def NtsAt (H : Hp) (long : Nat) (pms : List PM) (s : Nat) (nl : Addr) : Prop := ∃ ns, H nl = some (.lst ns) ∧ ns.length = pms.length ∧ ∀ (i : Nat) (pm : PM), pms[i]? = some pm → ∃ q, ns[i]? = some (.ref q) ∧ H q = some (.tup (ntV long pm s))
theorem NtsAt.mono {H H' : Hp} {long : Nat} {pms : List PM} {s : Nat} {nl : Addr} (h : NtsAt H long pms s nl) (e : Ex H H') : NtsAt H' long pms s nl := by
  obtain ⟨ns, h1, h2, h3⟩ := h
  refine ⟨ns, e _ _ h1, h2, fun i pm hi => ?_⟩
  obtain ⟨a, g1, g2⟩ := h3 i pm hi
  exact ⟨a, g1, e _ _ g2⟩
theorem NtsAt.monoD {H H' : Hp} {long : Nat} {pms : List PM} {s : Nat} {nl d : Addr} {kvs : List (Key × V)} (h : NtsAt H long pms s nl) (e : ExB d H H') (hd : H d = some (.dK kvs)) : NtsAt H' long pms s nl := by
  obtain ⟨ns, h1, h2, h3⟩ := h
  refine ⟨ns, e _ _ (fun z => by rw [z, hd] at h1; cases h1) h1, h2, fun i pm hi => ?_⟩
  obtain ⟨a, g1, g2⟩ := h3 i pm hi
  exact ⟨a, g1, e _ _ (fun z => by rw [z, hd] at g2; cases g2) g2⟩
structure GlAt (CG CP : Addr) (H : Hp) (long n : Nat) (pms : List PM) (s : Nat) (g sd : Addr) (S : List Nat) : Prop where
  ex : ∃ (dx pl nl : Addr) (kvs : List (Key × V)), H g = some (.ins CG dx (GlFs pl nl s sd)) ∧ PilsAt CP H long n pms pl ∧ NtsAt H long pms s nl ∧ H sd = some (.dK kvs) ∧ kvs.map Prod.fst = S.map (fun p : Nat => (Sum.inl (p : Int) : Key)) ∧
    ∀ p ∈ S, ∃ l, valV kvs (.inl (p : Int)) = some (.ref l) ∧ H l = some (.lst (stP pms long s p))
theorem GlAt.mono {H H' : Hp} {long n : Nat} {pms : List PM} {s : Nat} {g sd : Addr} {S : List Nat} (h : GlAt CG CP H long n pms s g sd S) (e : Ex H H') : GlAt CG CP H' long n pms s g sd S := by
  obtain ⟨dx, pl, nl, kvs, h1, h2, h3, h4, h5, h6⟩ := h.ex
  refine ⟨dx, pl, nl, kvs, e _ _ h1, h2.mono e, h3.mono e, e _ _ h4, h5, fun p hp => ?_⟩
  obtain ⟨l, g1, g2⟩ := h6 p hp
  exact ⟨l, g1, e _ _ g2⟩
/-- where another dict changes -/
theorem GlAt.monoD {H H' : Hp} {long n : Nat} {pms : List PM} {s : Nat} {g sd d : Addr} {S : List Nat} {kvs' : List (Key × V)} (h : GlAt CG CP H long n pms s g sd S) (e : ExB d H H') (hd : H d = some (.dK kvs')) (ne : sd ≠ d) : GlAt CG CP H' long n pms s g sd S := by
  obtain ⟨dx, pl, nl, kvs, h1, h2, h3, h4, h5, h6⟩ := h.ex
  refine ⟨dx, pl, nl, kvs, e _ _ (fun z => by rw [z, hd] at h1; cases h1) h1, h2.monoD e hd, h3.monoD e hd, e _ _ ne h4, h5, fun p hp => ?_⟩
  obtain ⟨l, g1, g2⟩ := h6 p hp
  exact ⟨l, g1, e _ _ (fun z => by rw [z, hd] at g2; cases g2) g2⟩
theorem GlAt.dict {H : Hp} {long n : Nat} {pms : List PM} {s : Nat} {g sd : Addr} {S : List Nat} (h : GlAt CG CP H long n pms s g sd S) : ∃ kvs, H sd = some (.dK kvs) := by
  obtain ⟨dx, pl, nl, kvs, h1, h2, h3, h4, h5, h6⟩ := h.ex
  exact ⟨kvs, h4⟩
/-- all is as it should be -/
structure GOk (long n : Nat) (pms : List PM) (s : Nat) : Prop where
  l1 : 1 ≤ long
  l2 : long ≤ 64
  n1 : n ≤ 100
  p1 : 1 ≤ pms.length
  p2 : pms.length ≤ 8
  ok : ∀ pm ∈ pms, pm.Ok long n
  s1 : s < nSt long n
theorem pm_at {pms : List PM} {p : Nat} (h : p < pms.length) : pms[p]? = some (pmAt pms p) := by
  unfold pmAt
  rw [List.getElem?_eq_getElem h]
  rfl
section
variable {long n s : Nat} {pms : List PM}
theorem GOk.pm (g : GOk long n pms s) {p : Nat} (h : p < pms.length) : (pmAt pms p).Ok long n := g.ok _ (List.mem_of_getElem? (pm_at h))
theorem GOk.sz (g : GOk long n pms s) {p : Nat} (h : p < pms.length) : (stP pms long s p).length = szS long n s := by
  unfold stP
  rw [stc_len, (g.pm h).len]
  rfl
theorem GOk.szl (g : GOk long n pms s) : 1 ≤ szS long n s ∧ szS long n s ≤ 64 := ⟨szS_pos (by have := g.l1; omega) g.s1, Nat.le_trans (Nat.min_le_left ..) g.l2⟩
end
/-! the dict of cells read -/
theorem val_none {kvs : List (Key × V)} {S : List Nat} {p : Nat} (hk : kvs.map Prod.fst = S.map (fun q : Nat => (Sum.inl (q : Int) : Key))) (h : p ∉ S) : valV kvs (.inl (p : Int)) = none := by
  unfold valV
  rw [List.find?_eq_none.mpr]
  · rfl
  · intro x hx hd
    have hd := of_decide_eq_true hd
    have : x.1 ∈ S.map (fun q : Nat => (Sum.inl (q : Int) : Key)) := hk ▸ List.mem_map.mpr ⟨x, hx, rfl⟩
    obtain ⟨q, hq, e⟩ := List.mem_map.mp this
    rw [hd] at e
    injection e with e
    exact h (Int.natCast_inj.mp e ▸ hq)
theorem val_app {kvs r : List (Key × V)} {k : Key} {v : V} (h : valV kvs k = some v) : valV (kvs ++ r) k = some v := by
  unfold valV at h ⊢
  rw [List.find?_append]
  cases e : kvs.find? fun kv => decide (kv.1 = k) with
  | none => rw [e] at h; cases h
  | some x => rw [e] at h; exact h
theorem val_new {kvs : List (Key × V)} {k : Key} {v : V} (h : valV kvs k = none) : valV (kvs ++ [(k, v)]) k = some v := by
  unfold valV at h ⊢
  rw [List.find?_append]
  cases e : kvs.find? fun kv => decide (kv.1 = k) with
  | none =>
    rw [Option.none_or, List.find?_cons, decide_eq_true (show (k, v).1 = k from rfl)]
    rfl
  | some x => rw [e] at h; cases h
def sp_Glance_init (K : PySem.W.Frag) (CG CP : Addr) : Sp := fun vs H Q _ => ∃ (x dx pl nl : Addr) (i : Int) (s : Nat), vs = [.ref x, .ref pl, .ref nl, .int i] ∧ i = (s : Int) ∧ H x = some (.ins CG dx []) ∧
  ∀ sd H2, H sd = none → ExB x H H2 → H2 x = some (.ins CG dx (GlFs pl nl s sd)) → H2 sd = some (.dK []) → Q .non H2
theorem ok_Glance_init (T : Gf K mg CG CP upA) (D : Ifn K mg "Glance" CG "Glance.__init__" s_Glance_init)  : Mak P w K mg base 1 "Glance" CG (sp_Glance_init K CG CP) [] := by
  refine mak_mk D sc_Glance_init (fun _ _ _ _ _ _ us hl => match us, hl with | [_, _, _, _], _ => rfl) (fun vs H Q E h => ?_) (fun f cdv A outer s H vs Q E hr h => ?_)
  · obtain ⟨_, _, _, _, _, _, rfl, _⟩ := h; rfl
  · obtain ⟨x, dx, pl, nl, i, s', rfl, rfl, hx, q⟩ := h
    refine ⟨_, pss_cons (ps_fld (pv 0) (pv 1) rfl)
      (pss_cons (ps_fld (pv 0) (pv 2) rfl)
      (pss_cons (ps_fld (pv 0) (pv 3) rfl)
      (pss_one (ps_fld (pv 0) (pe_dnewK) rfl)))), ?_⟩
    refine ⟨_, rfl, _, rfl, _, _, _, _, rfl, hx, T.clG, T.g_some, (by decide), ?_⟩
    refine ⟨_, rfl, _, rfl, _, _, _, _, rfl, upd_same, T.clG, T.g_notes, (by show 1 < 1000; decide), ?_⟩
    refine ⟨_, rfl, _, rfl, _, _, _, _, rfl, upd_same, T.clG, T.g_at, (by show 2 < 1000; decide), ?_⟩
    refine fun sd nd => ?_
    have hxs : x ≠ sd := fun z => by rw [← z, upd_same] at nd; cases nd
    refine ⟨_, rfl, _, _, _, _, rfl, by rw [upd_ne hxs]; exact upd_same, T.clG, T.g_seen, (by show 3 < 1000; decide), ?_⟩
    have b1 := (((ExB.r x H).at (.ins CG dx [("some", .ref pl)])).at (.ins CG dx [("some", .ref pl), ("notes_there", .ref nl)])).at (.ins CG dx [("some", .ref pl), ("notes_there", .ref nl), ("at", .int (s' : Int))])
    have nd0 : H sd = none := b1.back hxs.symm nd
    have b2 := (b1.new (o := .dK []) nd0).at (.ins CG dx (GlFs pl nl s' sd))
    exact q sd _ nd0 b2 upd_same (by rw [upd_ne hxs.symm, upd_same])
def sp_Glance_size (K : PySem.W.Frag) (CG CP : Addr) : Sp := fun vs H Q _ => ∃ (g sd : Addr) (long n s : Nat) (pms : List PM) (S : List Nat), vs = [.ref g] ∧ GlAt CG CP H long n pms s g sd S ∧ GOk long n pms s ∧ GV (.int (szS long n s : Int)) H Q
theorem ok_Glance_size (T : Gf K mg CG CP upA) (D : Mfn K CG "size" "Glance.size" s_Glance_size)  : Met P w K mg base 1 CG "size" (sp_Glance_size K CG CP) [] := by
  refine met_mk D sc_Glance_size (fun _ _ _ _ _ _ us hl => match us, hl with | [_], _ => rfl) (fun vs H Q E h => ?_) (fun f cdv A outer s H vs Q E hr h => ?_)
  · obtain ⟨_, _, _, _, _, _, _, rfl, _⟩ := h; rfl
  · obtain ⟨g, sd, long, n, s', pms, S, rfl, hG, ok, q⟩ := h
    refine ⟨_, pss_one (ps_ret (pe_ix ix_tup (pe_ix ix_list (pe_fld (pv 0) rfl) (pe_int) (fun _ _ => rfl)) (pe_int) (fun _ _ => rfl))), ?_⟩
    obtain ⟨dx, pl, nl, kvs, h1, h2, ⟨ns, m1, m2, m3⟩, h4, h5, h6⟩ := hG.ex
    obtain ⟨qa, g1, g2⟩ := m3 0 _ (pm_at (by have := ok.p1; omega))
    refine ⟨_, rfl, _, _, _, _, _, rfl, h1, T.clG, T.g_notes, rfl, _, _, _, _, rfl, rfl, lsOf m1, at_k (k := 0) g1 rfl, _, _, _, _, rfl, rfl, tpOf g2, at_k (k := 0) rfl rfl, (q.to ?_).go (Ex.r H)⟩
    rw [show (stc long (pmAt pms 0).cells s').length = szS long n s' from ok.sz (by have := ok.p1; omega)]
def sp_Glance_all_open (K : PySem.W.Frag) (CG CP : Addr) : Sp := fun vs H Q _ => ∃ (g sd : Addr) (i : Int) (long n s p : Nat) (pms : List PM) (S : List Nat), vs = [.ref g, .int i] ∧ i = (p : Int) ∧ p < pms.length ∧ GlAt CG CP H long n pms s g sd S ∧ GOk long n pms s ∧ GV (.bl (opP pms long s p)) H Q
theorem ok_Glance_all_open (T : Gf K mg CG CP upA) (D : Mfn K CG "all_open" "Glance.all_open" s_Glance_all_open)  : Met P w K mg base 1 CG "all_open" (sp_Glance_all_open K CG CP) [] := by
  refine met_mk D sc_Glance_all_open (fun _ _ _ _ _ _ us hl => match us, hl with | [_, _], _ => rfl) (fun vs H Q E h => ?_) (fun f cdv A outer s H vs Q E hr h => ?_)
  · obtain ⟨_, _, _, _, _, _, _, _, _, rfl, _⟩ := h; rfl
  · obtain ⟨g, sd, i, long, n, s', p, pms, S, rfl, rfl, hp, hG, ok, q⟩ := h
    refine ⟨_, pss_cons (ps_set (i := 2) sc_Glance_all_open.nd rfl (Or.inl rfl) (pe_ix ix_list (pe_fld (pv 0) rfl) (pv 1) (fun _ _ => rfl)))
      (pss_one (ps_ret (pe_cmpR op_eq (pe_ix ix_tup (pv 2) (pe_int) (fun _ _ => rfl)) (pe_ix ix_tup (pv 2) (pe_int) (fun _ _ => rfl)) (nomark _)))), ?_⟩
    obtain ⟨dx, pl, nl, kvs, h1, h2, ⟨ns, m1, m2, m3⟩, h4, h5, h6⟩ := hG.ex
    obtain ⟨qa, g1, g2⟩ := m3 p _ (pm_at hp)
    refine ⟨_, rfl, _, _, _, _, _, rfl, h1, T.clG, T.g_notes, rfl, _, rfl, _, _, _, _, rfl, rfl, lsOf m1, at_k g1 rfl, ?_⟩
    exact ⟨_, rfl, _, _, _, _, rfl, rfl, tpOf g2, at_k (k := 1) rfl rfl, _, rfl, _, _, _, _, rfl, rfl, tpOf g2, at_k (k := 0) rfl rfl, rfl, q.go (Ex.r H)⟩
def sp_Glance_had (K : PySem.W.Frag) (CG CP : Addr) : Sp := fun vs H Q _ => ∃ (g sd : Addr) (i : Int) (long n s p : Nat) (pms : List PM) (S : List Nat), vs = [.ref g, .int i] ∧ i = (p : Int) ∧ p < pms.length ∧ GlAt CG CP H long n pms s g sd S ∧ GOk long n pms s ∧ S.length ≤ 1000 ∧
  ∀ l H2, ExB sd H H2 → GlAt CG CP H2 long n pms s g sd (hasP S p) → H2 l = some (.lst (stP pms long s p)) → (∀ kvs, H sd = some (.dK kvs) → p ∉ S → H l = none ∧ H2 sd = some (.dK (kvs ++ [(.inl (p : Int), .ref l)]))) → Q (.ref l) H2
theorem ok_Glance_had (T : Gf K mg CG CP upA) (D : Mfn K CG "had" "Glance.had" s_Glance_had) (c_Pillar_stretch : Met P w K mg base 10 CP "stretch" (sp_Pillar_stretch K CP) []) : Met P w K mg base 11 CG "had" (sp_Glance_had K CG CP) [] := by
  refine met_mk D sc_Glance_had (fun _ _ _ _ _ _ us hl => match us, hl with | [_, _], _ => rfl) (fun vs H Q E h => ?_) (fun f cdv A outer s H vs Q E hr h => ?_)
  · obtain ⟨_, _, _, _, _, _, _, _, _, rfl, _⟩ := h; rfl
  · obtain ⟨g, sd, i, long, n, s', p, pms, S, rfl, rfl, hp, hG, ok, hSl, q⟩ := h
    refine ⟨_, Evl.pss_cut (ps_if (pt_cmp (pc_dnotin (hu_of hr) (pv 1) (pe_fld (pv 0) rfl)) rfl) (pss_one (ps_dput (hu_of hr) (pe_fld (pv 0) rfl) (pv 1) (pe_mt c_Pillar_stretch hr (by decide) (pe_ix ix_list (pe_fld (pv 0) rfl) (pv 1) (fun _ _ => rfl)) (pa_cons (pe_fld (pv 0) rfl) pa_nil)) rfl)) (pss_nil))
      (pss_one (ps_ret (pe_dget (hu_of hr) (pe_fld (pv 0) rfl) (pv 1) (fun _ _ => rfl)))), ?_⟩
    obtain ⟨dx, pl, nl, kvs, h1, h2, h3, h4, h5, h6⟩ := hG.ex
    refine ⟨fun σ' H' => σ' = [some (.ref g), some (.int (p : Int))] ∧ ExB sd H H' ∧ GlAt CG CP H' long n pms s' g sd (hasP S p) ∧ (p ∉ S → ∃ l, H' sd = some (.dK (kvs ++ [(.inl (p : Int), .ref l)])) ∧ H l = none), ?_, ?_⟩
    · refine ⟨_, rfl, _, rfl, _, _, _, _, _, rfl, h1, T.clG, T.g_seen, rfl, _, _, rfl, DGet.k h4 (k := .inl (p : Int)), _, rfl, ?_⟩
      by_cases hm : p ∈ S
      · obtain ⟨l, v1, v2⟩ := h6 p hm
        rw [v1]
        refine ifF rfl ⟨rfl, ExB.r sd H, ?_, fun z => absurd hm z⟩
        unfold hasP
        rw [if_pos (decide_eq_true hm)]
        exact hG
      · have v0 := val_none h5 hm
        rw [v0]
        refine ifT rfl ?_
        obtain ⟨ps, k1, k2, k3⟩ := h2
        obtain ⟨pa, g1, g2⟩ := k3 p _ (pm_at hp)
        obtain ⟨dx2, r, nt, rows, notes, w1, _⟩ := g2.ex
        refine ⟨_, rfl, _, _, _, _, _, rfl, h1, T.clG, T.g_some, rfl, _, rfl, _, _, _, _, rfl, rfl, lsOf k1, at_k g1 rfl, _, _, _, rfl, w1, rfl, _, rfl, _, _, _, _, _, rfl, h1, T.clG, T.g_at, rfl, pa, _, s', long, n, pmAt pms p, rfl, rfl, g2, ok.s1, ok.l1, ok.l2, ok.pm hp, fun l H2 nl2 e2 hl2 => ?_⟩
        have hlen : kvs.length = S.length := by
          have := congrArg List.length h5
          rwa [List.length_map, List.length_map] at this
        refine ⟨_, rfl, _, _, _, _, _, rfl, e2 _ _ h1, T.clG, T.g_seen, rfl, _, rfl, _, _, rfl, DPut.k (e2 _ _ h4) (k := .inl (p : Int)) (smlt (by omega)), rfl, (ExB.of e2).at _, ?_, fun _ => ⟨l, by rw [upd_same, putK_new _ v0], nl2⟩⟩
        have hls : l ≠ sd := fun z => by rw [z, h4] at nl2; cases nl2
        have e3 : ExB sd H (upd H2 sd (.dK (putK kvs (.inl (p : Int)) (.ref l)))) := (ExB.of e2).at _
        have hu : hasP S p = S ++ [p] := by
          unfold hasP
          rw [if_neg (fun z => hm (of_decide_eq_true z))]
        rw [hu, putK_new _ v0]
        rw [putK_new _ v0] at e3
        refine ⟨dx, pl, nl, _, e3 _ _ (fun z => by rw [z, h4] at h1; cases h1) h1, PilsAt.monoD ⟨ps, k1, k2, k3⟩ e3 h4, h3.monoD e3 h4, upd_same, ?_, fun q hq => ?_⟩
        · rw [List.map_append, List.map_append, h5]
          rfl
        · rcases List.mem_append.mp hq with hq | hq
          · obtain ⟨l2, v1, v2⟩ := h6 q hq
            exact ⟨l2, val_app v1, e3 _ _ (fun z => by rw [z, h4] at v2; cases v2) v2⟩
          · obtain rfl := List.mem_singleton.mp hq
            refine ⟨l, val_new v0, ?_⟩
            rw [upd_ne hls]
            exact hl2
    · rintro σ' H' ⟨rfl, e2, hG2, hnew⟩
      obtain ⟨dx2, pl2, nl2, kvs2, k1, k2, k3, k4, k5, k6⟩ := hG2.ex
      obtain ⟨l, v1, v2⟩ := k6 p (hasP_mem S p)
      have hdg := DGet.k k4 (k := .inl (p : Int))
      rw [v1] at hdg
      refine ⟨_, rfl, _, _, _, _, _, rfl, k1, T.clG, T.g_seen, rfl, _, rfl, _, _, rfl, hdg, q l H' e2 hG2 v2 fun kv hkv hm => ?_⟩
      rw [h4] at hkv
      obtain rfl := HO.dK.inj (Option.some.inj hkv)
      obtain ⟨l2, u1, u2⟩ := hnew hm
      rw [k4] at u1
      have u3 := HO.dK.inj (Option.some.inj u1)
      rw [u3, val_new (val_none h5 hm)] at v1
      have u4 : l2 = l := V.ref.inj (Option.some.inj v1)
      rw [u4] at u2 u3
      exact ⟨u2, by rw [k4, u3]⟩
end
end Pk
set_option Elab.async false
set_option linter.all false
set_option maxRecDepth 100000
set_option maxHeartbeats 4000000
set_option autoImplicit false
namespace Pk
open PySem PySem.Spec PyProof.Rows L2
open C8 (Cal Met Mak pe_c pe_mk pe_mt pe_mt0 pe_gc)
section
variable {P : Program} {w : World} {K : PySem.W.Frag} {mg : Str → Option Value} {base : Heap} {CG CP upA : Addr}
/-! ### places_seen, cell_bits, pair_bits -/
/-- pairs of numbers, as tuples -/
def PairsAt (H : Hp) (ps : List (Nat × Nat)) (xs : List V) : Prop := xs.length = ps.length ∧ ∀ (i : Nat) (p : Nat × Nat), ps[i]? = some p → ∃ q, xs[i]? = some (.ref q) ∧ H q = some (.tup [.int (p.1 : Int), .int (p.2 : Int)])
theorem PairsAt.keep {H H' : Hp} {ps : List (Nat × Nat)} {xs : List V} (h : PairsAt H ps xs) (e : ∀ p ys, H p = some (.tup ys) → H' p = some (.tup ys)) : PairsAt H' ps xs := ⟨h.1, fun i r hr => by
  obtain ⟨p, h1, h2⟩ := h.2 i r hr
  exact ⟨p, h1, e _ _ h2⟩⟩
theorem PairsAt.app {H : Hp} {ps qs : List (Nat × Nat)} {xs ys : List V} (h : PairsAt H ps xs) (g : PairsAt H qs ys) : PairsAt H (ps ++ qs) (xs ++ ys) := by
  refine ⟨by rw [List.length_append, List.length_append, h.1, g.1], fun i p hp => ?_⟩
  rcases Nat.lt_or_ge i ps.length with hi | hi
  · rw [List.getElem?_append_left hi] at hp
    rw [List.getElem?_append_left (by rw [h.1]; exact hi)]
    exact h.2 i p hp
  · rw [List.getElem?_append_right hi] at hp
    rw [List.getElem?_append_right (by rw [h.1]; exact hi), h.1]
    exact g.2 _ p hp
theorem PairsAt.one {H : Hp} {p : Nat × Nat} {q : Addr} (h : H q = some (.tup [.int (p.1 : Int), .int (p.2 : Int)])) : PairsAt H [p] [.ref q] := ⟨rfl, fun i r hr => by
  cases i with
  | zero => obtain rfl := Option.some.inj hr; exact ⟨q, rfl, h⟩
  | succ i => cases hr⟩
theorem PairsAt.nil {H : Hp} : PairsAt H [] [] := ⟨rfl, fun i r hr => by cases hr⟩
def sp_Glance_places_seen (K : PySem.W.Frag) (CG CP : Addr) : Sp := fun vs H Q _ => ∃ (g sd : Addr) (s : Nat) (S : List Nat) (kvs : List (Key × V)) (dx pl nl : Addr), vs = [.ref g] ∧ H g = some (.ins CG dx (GlFs pl nl s sd)) ∧ H sd = some (.dK kvs) ∧ kvs.map Prod.fst = S.map (fun p : Nat => (Sum.inl (p : Int) : Key)) ∧ S.length ≤ 1000 ∧
  ∀ r xs H2, H r = none → Ex H H2 → H2 r = some (.lst xs) → PairsAt H2 (S.map fun p => (p, s)) xs → Q (.ref r) H2
theorem ok_Glance_places_seen (T : Gf K mg CG CP upA) (D : Mfn K CG "places_seen" "Glance.places_seen" s_Glance_places_seen)  : Met P w K mg base 1 CG "places_seen" (sp_Glance_places_seen K CG CP) [] := by
  refine met_mk D sc_Glance_places_seen (fun _ _ _ _ _ _ us hl => match us, hl with | [_], _ => rfl) (fun vs H Q E h => ?_) (fun f cdv A outer s H vs Q E hr h => ?_)
  · obtain ⟨_, _, _, _, _, _, _, _, rfl, _⟩ := h; rfl
  · obtain ⟨g, sd, s', S, kvs, dx, pl, nl, rfl, h1, h4, h5, hSl, q⟩ := h
    refine ⟨_, pss_one (ps_ret (pe_lock (pe_lc (own := [("place", 1)]) (g := gName 1) (tt := tYes) (te := (tTup (tCons _ (tCons (tFld K _ _) tNil)))) (by rfl) sc_Glance_places_seen.nd (pi_keys (pe_fld (pv 0) rfl)) (blkOk_by (N := N_Glance_places_seen) (sc := defScope s_Glance_places_seen) (by decide +kernel)) (fun _ _ _ _ _ => pg_name (i := 1) sc_Glance_places_seen.nd rfl (Or.inl rfl)) (fun _ _ _ _ _ => pts_nil) (fun _ _ _ _ _ => pe_tup (pa_cons (pv 1) (pa_cons (pe_fld (pv 0) rfl) pa_nil)))))), ?_⟩
    have hgs : g ≠ sd := fun z => by rw [z, h4] at h1; cases h1
    have hlen : kvs.length = S.length := by
      have := congrArg List.length h5
      rwa [List.length_map, List.length_map] at this
    refine ⟨sd, .dK kvs, h4, True.intro, fun od => ?_⟩
    have hgL : (upd H sd (.frz od (.dK kvs))) g = some (.ins CG dx (GlFs pl nl s' sd)) := by
      rw [upd_ne hgs]
      exact h1
    have hsL : (upd H sd (.frz od (.dK kvs))) sd = some (.frz od (.dK kvs)) := upd_same
    have hback : ∀ a o, a ≠ sd → H a = some o → (upd H sd (.frz od (.dK kvs))) a = some o := fun a o n h => by
      rw [upd_ne n]
      exact h
    have hfresh : ∀ p, (upd H sd (.frz od (.dK kvs))) p = none → H p = none := fun p h => by
      by_cases e : p = sd
      · rw [e, hsL] at h; cases h
      · rwa [upd_ne e] at h
    generalize upd H sd (.frz od (.dK kvs)) = HL at hgL hsL hback hfresh
    refine ⟨_, rfl, _, _, _, _, _, rfl, hgL, T.clG, T.g_seen, rfl, _, _, rfl, .inl ⟨kvs, hsL, fun d nd => ?_⟩⟩
    refine lc_it walk_keys (fun i H' => Ex HL H' ∧ ∃ acc, H' d = some (.lst acc) ∧ PairsAt H' ((S.take i).map fun p => (p, s')) acc) ⟨Ex.n nd, [], upd_same, by rw [List.take_zero]; exact PairsAt.nil⟩ (fun i H' hi hI => hI.1 _ _ hsL) (fun i x H' H2 hi hI hy => ?_) (fun H' hI => ?_)
    · obtain ⟨e2, acc, hd, hR⟩ := hI
      obtain ⟨rfl, k, v, hkv, rfl⟩ := hy
      have hS : S[i]? = some S[i] := List.getElem?_eq_getElem (by omega)
      have hk : k = .inl ((S[i] : Nat) : Int) := by
        have h9 : (kvs.map Prod.fst)[i]? = some k := by rw [List.getElem?_map, hkv]; rfl
        rw [h5, List.getElem?_map, hS] at h9
        exact (Option.some.inj h9).symm
      subst hk
      refine ⟨rfl, ?_⟩
      refine ⟨_, rfl, _, rfl, _, _, _, _, _, rfl, e2 _ _ hgL, T.clG, T.g_at, rfl, Nat.le_of_ble_eq_true rfl, fun p np => ?_⟩
      have hd3 := Ex.n (o := .tup [kV (.inl ((S[i] : Nat) : Int)), .int (s' : Int)]) np _ _ hd
      have hal := hR.1
      rw [List.length_map, List.length_take] at hal
      refine ⟨_, hd3, smlt (by omega), (e2.trans (Ex.n np)).mut nd, acc ++ [.ref p], upd_same, ?_⟩
      rw [List.take_add_one, hS, List.map_append]
      exact (hR.keep fun q3 zs h3 => tupK hd3 (Ex.n np q3 _ h3)).app (PairsAt.one (tupK hd3 upd_same))
    · obtain ⟨e2, acc, hd, hR⟩ := hI
      rw [hlen, List.take_length] at hR
      have hds : d ≠ sd := fun z => by rw [z, hsL] at nd; cases nd
      refine ⟨e2 _ _ hsL, q d acc _ (hfresh d nd) (fun a o h => ?_) (by rw [upd_ne hds]; exact hd) (hR.keep fun p ys h => ?_)⟩
      · by_cases e : a = sd
        · rw [e, upd_same, ← h4, ← e, h]
        · rw [upd_ne e]
          exact e2 _ _ (hback _ _ e h)
      · rw [upd_ne (fun z => by rw [z, e2 _ _ hsL] at h; cases h)]
        exact h
def bI (b : Bool) : V := .int (if b = true then 1 else 0)
theorem cel_row {pms : List PM} {k p : Nat} (h : p < pms.length) : cel (rowS pms k) p = ((pmAt pms p).cells[k]?).getD .non := by
  unfold cel rowS
  rw [List.getElem?_map, pm_at h]
  rfl
section
variable {long n s : Nat} {pms : List PM}
/-- the cells of a stretch, one by one -/
theorem st_get (ok : GOk long n pms s) {p i : Nat} (hp : p < pms.length) (hi : i < szS long n s) : (stP pms long s p)[i]? = some (cel (rowS pms (s * long + i)) p) := by
  rw [cel_row hp]
  have hlen := (ok.pm hp).len
  unfold stP
  rw [stc_at (by rw [hlen]; exact hi)]
  have : s * long + i < (pmAt pms p).cells.length := by
    rw [hlen]
    unfold szS at hi
    omega
  rw [List.getElem?_eq_getElem this]
  rfl
theorem bit_cell (ok : GOk long n pms s) {p : Nat} {ct : CT} (hp : p < pms.length) : bitS pms long n s (.cell p ct) = (stP pms long s p).map fun c => meetB c ct := by
  refine List.ext_getElem? fun i => ?_
  unfold bitS
  rw [List.getElem?_map, List.getElem?_map]
  rcases Nat.lt_or_ge i (szS long n s) with hi | hi
  · rw [st_get ok hp hi, List.getElem?_range hi]
    rfl
  · rw [List.getElem?_eq_none (by rw [List.length_range]; exact hi), List.getElem?_eq_none (by rw [ok.sz hp]; exact hi)]
    rfl
theorem bit_cells (ok : GOk long n pms s) {p o : Nat} {sg : Str} (hp : p < pms.length) (ho : o < pms.length) : bitS pms long n s (.cells p sg o) = ((stP pms long s p).zip (stP pms long s o)).map fun c => pairB c.1 sg c.2 := by
  refine List.ext_getElem? fun i => ?_
  unfold bitS
  rw [List.getElem?_map, List.getElem?_map]
  rcases Nat.lt_or_ge i (szS long n s) with hi | hi
  · rw [(List.getElem?_zip_eq_some (z := (cel (rowS pms (s * long + i)) p, cel (rowS pms (s * long + i)) o))).mpr ⟨st_get ok hp hi, st_get ok ho hi⟩, List.getElem?_range hi]
    rfl
  · rw [List.getElem?_eq_none (by rw [List.length_range]; exact hi), List.getElem?_eq_none (by rw [List.length_zip, ok.sz hp, ok.sz ho]; omega)]
    rfl
theorem st_ck (ok : GOk long n pms s) {p : Nat} (hp : p < pms.length) : ∀ c ∈ stP pms long s p, CK (pmAt pms p).b c := fun c h => (ok.pm hp).kd c (stc_mem h)
theorem st_note (ok : GOk long n pms s) {p : Nat} (hp : p < pms.length) : NoteOf (stP pms long s p) ((pmAt pms p).lo s) ((pmAt pms p).hi s) := (ok.pm hp).note s ok.s1
end
theorem flat_rep {x : V} {n : Nat} : (List.replicate ((n : Int)).toNat [x]).flatten = List.replicate n x := by
  rw [Int.toNat_natCast, List.flatten_replicate_singleton]
theorem map_const {α β : Type} {f : α → β} {b : β} {l : List α} (h : ∀ a ∈ l, f a = b) : l.map f = List.replicate l.length b := by
  rw [List.map_congr_left h, List.map_const']
def sp_Glance_cell_bits (K : PySem.W.Frag) (CG CP : Addr) : Sp := fun vs H Q _ => ∃ (g sd ta : Addr) (i : Int) (long n s p : Nat) (pms : List PM) (S : List Nat) (ct : CT), vs = [.ref g, .int i, .ref ta] ∧ i = (p : Int) ∧ p < pms.length ∧ GlAt CG CP H long n pms s g sd S ∧ GOk long n pms s ∧ S.length ≤ 1000 ∧ CTAt K H ct ta ∧ CTFit (pmAt pms p).b ct ∧ AmSm ct ∧
  ∀ r H2, ExB sd H H2 → GlAt CG CP H2 long n pms s g sd (seenM pms long n s (.cell p ct) S) → H2 r = some (.lst ((bitS pms long n s (.cell p ct)).map bI)) → Q (.ref r) H2
theorem ok_Glance_cell_bits (T : Gf K mg CG CP upA) (D : Mfn K CG "cell_bits" "Glance.cell_bits" s_Glance_cell_bits) (c_looked : Cal P w K mg base 3 "looked" (sp_looked K) []) (c_Glance_size : Met P w K mg base 1 CG "size" (sp_Glance_size K CG CP) []) (c_meets : Cal P w K mg base 2 "meets" (sp_meets K) []) (c_Glance_had : Met P w K mg base 11 CG "had" (sp_Glance_had K CG CP) []) : Met P w K mg base 12 CG "cell_bits" (sp_Glance_cell_bits K CG CP) [] := by
  refine met_mk D sc_Glance_cell_bits (fun _ _ _ _ _ _ us hl => match us, hl with | [_, _, _], _ => rfl) (fun vs H Q E h => ?_) (fun f cdv A outer s H vs Q E hr h => ?_)
  · obtain ⟨_, _, _, _, _, _, _, _, _, _, _, rfl, _⟩ := h; rfl
  · obtain ⟨g, sd, ta, i, long, n, s', p, pms, S, ct, rfl, rfl, hp, hG, ok, hSl, hta, hf, ham, q⟩ := h
    refine ⟨_, pss_cons (ps_set (i := 3) sc_Glance_cell_bits.nd rfl (Or.inl rfl) (pe_c c_looked hr (by decide) (by rfl) (pa_cons (pe_ix ix_list (pe_fld (pv 0) rfl) (pv 1) (fun _ _ => rfl)) (pa_cons (pv 2) pa_nil))))
      (pss_cons (ps_if (pt_cmpR op_ne (pv 3) (pe_str) (nomark _)) (pss_one (ps_ret (pe_op op_rep (pe_lst (pa_cons (pe_callTy call_int1 (by rfl) T.int (by decide +kernel) (pa_cons (pe_cmpR op_eq (pv 3) (pe_str) (nomark _)) pa_nil)) pa_nil)) (pe_mt0 c_Glance_size hr (by decide) (pv 0))))) (pss_nil))
      (pss_one (ps_ret (pe_lc (own := [("cell", 4)]) (g := gName 4) (tt := tYes) (by rfl) sc_Glance_cell_bits.nd (pi_list (pe_mt c_Glance_had hr (by decide) (pv 0) (pa_cons (pv 1) pa_nil))) (blkOk_by (N := N_Glance_cell_bits) (sc := defScope s_Glance_cell_bits) (by decide +kernel)) (fun _ _ _ _ _ => pg_name (i := 4) sc_Glance_cell_bits.nd rfl (Or.inl rfl)) (fun _ _ _ _ _ => pts_nil) (fun _ _ _ _ _ => pe_callTy call_int1 (by rfl) T.int (by decide +kernel) (pa_cons (pe_c c_meets hr (by decide) (by rfl) (pa_cons (pv 4) (pa_cons (pv 2) pa_nil))) pa_nil)))))), ?_⟩
    obtain ⟨dx, pl, nl, kvs, h1, h2, h3, h4, h5, h6⟩ := hG.ex
    obtain ⟨ns, m1, m2, m3⟩ := h3
    obtain ⟨qa, g1, g2⟩ := m3 p _ (pm_at hp)
    have hck := st_ck ok hp
    have hno := st_note ok hp
    have hlc := lk_cases (fun c h => (hck c h).v) hno hf
    have hsz := ok.sz hp
    have hszl := ok.szl
    rw [bit_cell ok hp] at q
    have hseen : seenM pms long n s' (.cell p ct) S = if (!decide (V.str (lkP pms long s' p ct) = V.str wdS)) = true then S else hasP S p := rfl
    refine ⟨_, rfl, _, _, _, _, _, rfl, h1, T.clG, T.g_notes, rfl, _, rfl, _, _, _, _, rfl, rfl, lsOf m1, at_k g1 rfl, _, rfl, (pmAt pms p).b, qa, ta, _, _, _, _, ct, rfl, g2, hta, hf, ham, ?_, fun H1 e1 => ?_⟩
    · intro hne
      obtain ⟨k1, k2, _⟩ := note_kd (fun c h => (hck c h).v) hno hne
      exact ⟨k1, k2⟩
    refine ⟨_, rfl, rfl, _, rfl, ifB (fun h => ?_) (fun h => ?_)⟩
    · have h : (!decide (V.str (lkP pms long s' p ct) = V.str wdS)) = true := h
      rw [hseen, iT h] at q
      have rest : ∀ b : Bool, decide (V.str (lkP pms long s' p ct) = V.str "all") = b → (∀ c ∈ stP pms long s' p, meetB c ct = b) →
          ∀ p2 H2, Ex H1 H2 → H2 p2 = some (.lst (List.replicate (szS long n s') (bI b))) → Q (.ref p2) H2 := fun b hb hall p2 H2 e2 hp2 => by
        refine q p2 H2 (.of (e1.trans e2)) (hG.mono (e1.trans e2)) ?_
        rw [hp2, map_const hall, hsz, List.map_replicate]
      have hcase : ∃ b, decide (V.str (lkP pms long s' p ct) = V.str "all") = b ∧ ∀ c ∈ stP pms long s' p, meetB c ct = b := by
        rcases hlc with ⟨w1, w2⟩ | ⟨w1, w2⟩ | w1
        · exact ⟨false, decide_eq_false (fun z => by
            injection z with z
            exact wN_A (w1.symm.trans z)), w2⟩
        · exact ⟨true, decide_eq_true (congrArg V.str w1), w2⟩
        · have : decide (V.str (lkP pms long s' p ct) = V.str wdS) = true := decide_eq_true (congrArg V.str w1)
          rw [this] at h
          cases h
      obtain ⟨b, hb, hall⟩ := hcase
      refine ⟨_, rfl, rfl, .inr ⟨_, rfl, Nat.le_of_ble_eq_true rfl, fun p2 np2 => ?_⟩⟩
      refine ⟨_, rfl, _, _, _, rfl, Ex.n np2 _ _ (e1 _ _ h1), rfl, g, sd, long, n, s', pms, S, rfl, (hG.mono e1).mono (Ex.n np2), ok, fun H2 e2 => ?_⟩
      refine ⟨_, _, _, rfl, rfl, e2 _ _ upd_same, by omega, by omega, sml (by rw [Int.toNat_natCast]; show 1 * _ ≤ _; omega), fun p3 np3 => ?_⟩
      refine rest b hb hall p3 _ (((Ex.n np2).trans e2).trans (Ex.n np3)) ?_
      rw [upd_same, flat_rep]
      show some (HO.lst (List.replicate (szS long n s') (V.int (if decide (V.str (lkP pms long s' p ct) = V.str "all") = true then 1 else 0)))) = _
      rw [hb]
      rfl
    · have h : (!decide (V.str (lkP pms long s' p ct) = V.str wdS)) = false := h
      rw [hseen, iF h] at q
      refine ⟨_, rfl, _, _, _, rfl, e1 _ _ h1, rfl, _, rfl, g, sd, _, long, n, s', p, pms, S, rfl, rfl, hp, hG.mono e1, ok, hSl, fun l H2 e2 hG2 hl2 _ => ?_⟩
      have hd1 := e1 _ _ h4
      obtain ⟨kv2, hd2⟩ := hG2.dict
      refine ⟨_, rfl, ⟨_, lsOf hl2⟩, fun d nd => ?_⟩
      refine lc_it walk_list (fun i H' => Ex H2 H' ∧ H' d = some (.lst ((((stP pms long s' p).map fun c => meetB c ct).take i).map bI))) ⟨Ex.n nd, upd_same⟩ (fun i H' hi hI => lsOf (hI.1 _ _ hl2)) (fun i x H' H3 hi hI hy => ?_) (fun H' hI => ?_)
      · obtain ⟨e3, hd⟩ := hI
        obtain ⟨rfl, hx⟩ := hy
        refine ⟨rfl, ?_⟩
        refine ⟨_, rfl, _, rfl, (pmAt pms p).b, x, ta, ct, rfl, (hck x (List.mem_of_getElem? hx)).v, ((hta.ex e1).exD e2 hd1).ex e3, hf, fun H4 e4 => ?_⟩
        refine .inr ⟨_, rfl, ?_⟩
        refine ⟨_, e4 _ _ hd, smlt (by rw [List.length_map, List.length_take]; omega), (e3.trans e4).mut nd, ?_⟩
        rw [upd_same, List.take_add_one, List.getElem?_map, hx, List.map_append]
        rfl
      · obtain ⟨e3, hd⟩ := hI
        rw [List.take_of_length_le (by rw [List.length_map]; exact Nat.le_refl _)] at hd
        exact q d H' (((ExB.of e1).trans e2).trans (.of e3)) (hG2.mono e3) hd
def sp_Glance_pair_bits (K : PySem.W.Frag) (CG CP : Addr) : Sp := fun vs H Q _ => ∃ (g sd : Addr) (i j : Int) (sg : Str) (long n s p o : Nat) (pms : List PM) (S : List Nat), vs = [.ref g, .int i, .str sg, .int j] ∧ i = (p : Int) ∧ j = (o : Int) ∧ p < pms.length ∧ o < pms.length ∧ (pmAt pms p).b = (pmAt pms o).b ∧ SgOk sg ∧ GlAt CG CP H long n pms s g sd S ∧ GOk long n pms s ∧ S.length ≤ 900 ∧
  ∀ r H2, ExB sd H H2 → GlAt CG CP H2 long n pms s g sd (seenM pms long n s (.cells p sg o) S) → H2 r = some (.lst ((bitS pms long n s (.cells p sg o)).map bI)) → Q (.ref r) H2
theorem pair_open {x y : V} {sg : Str} (h : x = .non ∨ y = .non) : pairB x sg y = false := by
  unfold pairB
  rcases h with rfl | rfl
  · rfl
  · split <;> rfl
theorem hasP_len (S : List Nat) (p : Nat) : (hasP S p).length ≤ S.length + 1 := by
  unfold hasP
  split
  · omega
  · rw [List.length_append]
    exact Nat.le_refl _
theorem ok_Glance_pair_bits (T : Gf K mg CG CP upA) (D : Mfn K CG "pair_bits" "Glance.pair_bits" s_Glance_pair_bits) (c_Glance_had : Met P w K mg base 11 CG "had" (sp_Glance_had K CG CP) []) (c_Glance_all_open : Met P w K mg base 1 CG "all_open" (sp_Glance_all_open K CG CP) []) (c_Glance_size : Met P w K mg base 1 CG "size" (sp_Glance_size K CG CP) []) (c_pair_meets : Cal P w K mg base 3 "pair_meets" (sp_pair_meets K) []) : Met P w K mg base 12 CG "pair_bits" (sp_Glance_pair_bits K CG CP) [] := by
  refine met_mk D sc_Glance_pair_bits (fun _ _ _ _ _ _ us hl => match us, hl with | [_, _, _, _], _ => rfl) (fun vs H Q E h => ?_) (fun f cdv A outer s H vs Q E hr h => ?_)
  · obtain ⟨_, _, _, _, _, _, _, _, _, _, _, _, rfl, _⟩ := h; rfl
  · obtain ⟨g, sd, i, j, sg, long, n, s', p, o, pms, S, rfl, rfl, rfl, hp, ho, hkk, hsg, hG, ok, hSl, q⟩ := h
    refine ⟨_, pss_cons (ps_if (PW.pt (pw_or (pt_val (pe_mt c_Glance_all_open hr (by decide) (pv 0) (pa_cons (pv 1) pa_nil))) (pw_or1 (pt_val (pe_mt c_Glance_all_open hr (by decide) (pv 0) (pa_cons (pv 3) pa_nil)))))) (pss_one (ps_ret (pe_op op_rep (pe_lst (pa_cons (pe_int) pa_nil)) (pe_mt0 c_Glance_size hr (by decide) (pv 0))))) (pss_nil))
      (pss_cons (ps_set (i := 4) sc_Glance_pair_bits.nd rfl (Or.inl rfl) (pe_mt c_Glance_had hr (by decide) (pv 0) (pa_cons (pv 1) pa_nil)))
      (pss_cons (ps_set (i := 5) sc_Glance_pair_bits.nd rfl (Or.inl rfl) (pe_mt c_Glance_had hr (by decide) (pv 0) (pa_cons (pv 3) pa_nil)))
      (pss_one (ps_ret (pe_lc (own := [("cell", 6), ("beside", 7)]) (g := gTup K 2 _) (tt := tYes) (by rfl) sc_Glance_pair_bits.nd (pi_zip (by rfl) T.zip (pa_cons (pv 4) (pa_cons (pv 5) pa_nil))) (blkOk_by (N := N_Glance_pair_bits) (sc := defScope s_Glance_pair_bits) (by decide +kernel)) (fun _ _ _ _ _ => pg_tup (by rfl) (pgs_cons (pg_name (i := 6) sc_Glance_pair_bits.nd rfl (Or.inl rfl)) (pgs_cons (pg_name (i := 7) sc_Glance_pair_bits.nd rfl (Or.inl rfl)) pgs_nil))) (fun _ _ _ _ _ => pts_nil) (fun _ _ _ _ _ => pe_callTy call_int1 (by rfl) T.int (by decide +kernel) (pa_cons (pe_c c_pair_meets hr (by decide) (by rfl) (pa_cons (pv 6) (pa_cons (pv 2) (pa_cons (pv 7) pa_nil)))) pa_nil))))))), ?_⟩
    obtain ⟨dx, pl, nl, kvs, h1, h2, h3, h4, h5, h6⟩ := hG.ex
    have hckp := st_ck ok hp
    have hcko := st_ck ok ho
    have hszp := ok.sz hp
    have hszo := ok.sz ho
    have hszl := ok.szl
    rw [bit_cells ok hp ho] at q
    have zero : (∀ c ∈ (stP pms long s' p).zip (stP pms long s' o), pairB c.1 sg c.2 = false) → seenM pms long n s' (.cells p sg o) S = S → ∀ H1, Ex H H1 →
        (tRet (tOp rRep (tLst (tCons (tC (.int 0)) tNil)) (tMeth CG "size" (sp_Glance_size K CG CP) [] C8.E0 (tVar 0) tNil)) { nx := fun x H' => Q .non H', rt := Q } (start N_Glance_pair_bits [.ref g, .int (p : Int), .str sg, .int (o : Int)]) H1) := fun hall hs H1 e1 => by
      rw [hs] at q
      refine ⟨Nat.le_of_ble_eq_true rfl, fun p2 np2 => ?_⟩
      refine ⟨_, rfl, _, _, _, rfl, Ex.n np2 _ _ (e1 _ _ h1), rfl, g, sd, long, n, s', pms, S, rfl, (hG.mono e1).mono (Ex.n np2), ok, fun H2 e2 => ?_⟩
      refine ⟨_, _, _, rfl, rfl, e2 _ _ upd_same, by omega, by omega, sml (by rw [Int.toNat_natCast]; show 1 * _ ≤ _; omega), fun p3 np3 => ?_⟩
      have ex := ((e1.trans (Ex.n (o := .lst [.int 0]) np2)).trans e2).trans (Ex.n (o := .lst ((List.replicate ((szS long n s' : Int)).toNat [V.int 0]).flatten)) np3)
      refine q p3 _ (.of ex) (hG.mono ex) ?_
      rw [upd_same, flat_rep, map_const hall, List.length_zip, hszp, hszo, Nat.min_self, List.map_replicate]
      rfl
    refine ⟨_, rfl, _, _, _, rfl, h1, rfl, _, rfl, g, sd, _, long, n, s', p, pms, S, rfl, rfl, hp, hG, ok, fun H1 e1 => ?_⟩
    refine ⟨_, rfl, ?_⟩
    cases hop : opP pms long s' p with
    | true =>
      refine ifT rfl (ifT rfl (zero (fun c hc => ?_) (iT hop) H1 e1))
      exact pair_open (.inl (cnt_all (vT hop) _ (List.of_mem_zip hc).1))
    | false =>
      refine ifF rfl ?_
      refine ⟨_, rfl, _, _, _, rfl, e1 _ _ h1, rfl, _, rfl, g, sd, _, long, n, s', o, pms, S, rfl, rfl, ho, hG.mono e1, ok, fun H2 e2 => ?_⟩
      refine ⟨_, rfl, ?_⟩
      have hs0 : seenM pms long n s' (.cells p sg o) S = if opP pms long s' o = true then S else hasP (hasP S p) o := iF hop
      cases hoo : opP pms long s' o with
      | true =>
        refine ifT rfl (zero (fun c hc => ?_) (by rw [hs0, iT hoo]) H2 (e1.trans e2))
        exact pair_open (.inr (cnt_all (vT hoo) _ (List.of_mem_zip hc).2))
      | false =>
        rw [hs0, iF hoo] at q
        refine ifF rfl ?_
        have e12 := e1.trans e2
        refine ⟨_, rfl, _, _, _, rfl, e12 _ _ h1, rfl, _, rfl, g, sd, _, long, n, s', p, pms, S, rfl, rfl, hp, hG.mono e12, ok, by omega, fun l1 H3 e3 hG3 hl1 _ => ?_⟩
        obtain ⟨kv3, hd3⟩ := hG3.dict
        obtain ⟨dx3, pl3, nl3, _, h13, _⟩ := hG3.ex
        have hhl := hasP_len S p
        refine ⟨_, rfl, _, _, _, rfl, h13, rfl, _, rfl, g, sd, _, long, n, s', o, pms, hasP S p, rfl, rfl, ho, hG3, ok, by omega, fun l2 H4 e4 hG4 hl2 _ => ?_⟩
        have hl14 := e4 _ _ (fun z => by rw [z, hd3] at hl1; cases hl1) hl1
        have b4 := ((ExB.of e12).trans e3).trans e4
        refine ⟨_, rfl, _, rfl, _, _, _, _, rfl, lsOf hl14, lsOf hl2, fun d nd => ?_⟩
        refine lc_it (walk_zip (n := szS long n s') (by rw [hszp, hszo, Nat.min_self])) (fun i H' => Ex H4 H' ∧ H' d = some (.lst (((((stP pms long s' p).zip (stP pms long s' o)).map fun c => pairB c.1 sg c.2).take i).map bI))) ⟨Ex.n nd, upd_same⟩ (fun i H' hi hI => ⟨lsOf (hI.1 _ _ hl14), lsOf (hI.1 _ _ hl2)⟩) (fun i x H' H5 hi hI hy => ?_) (fun H' hI => ?_)
        · obtain ⟨e5, hd⟩ := hI
          obtain ⟨T', x1, y1, rfl, nT', rfl, hx, hy⟩ := hy
          refine ⟨_, _, rfl, tpOf upd_same, rfl, _, _, rfl, _, _, rfl, rfl, rfl, ?_⟩
          refine ⟨_, rfl, _, rfl, _, rfl, (pmAt pms p).b, x1, sg, y1, rfl, (hckp x1 (List.mem_of_getElem? hx)).v, ?_, hsg, fun H6 e6 => ?_⟩
          · rw [hkk]
            exact (hcko y1 (List.mem_of_getElem? hy)).v
          refine .inr ⟨_, rfl, ?_⟩
          refine ⟨_, e6 _ _ (Ex.n nT' _ _ hd), smlt (by rw [List.length_map, List.length_take]; omega), ((e5.trans (Ex.n nT')).trans e6).mut nd, ?_⟩
          rw [upd_same, List.take_add_one, List.getElem?_map, (List.getElem?_zip_eq_some (z := (x1, y1))).mpr ⟨hx, hy⟩, List.map_append]
          rfl
        · obtain ⟨e5, hd⟩ := hI
          rw [List.take_of_length_le (by rw [List.length_map, List.length_zip, hszp, hszo, Nat.min_self]; exact Nat.le_refl _)] at hd
          exact q d H' (b4.trans (.of e5)) (hG4.mono e5) hd
end
end Pk
set_option Elab.async false
set_option linter.all false
set_option maxRecDepth 100000
set_option maxHeartbeats 4000000
set_option autoImplicit false
namespace Pk
open PySem PySem.Spec PyProof.Rows L2
open C8 (Cal Met Mak pe_c pe_mk pe_mt pe_mt0 pe_gc)
section
variable {P : Program} {w : World} {K : PySem.W.Frag} {mg : Str → Option Value} {base : Heap} {CG CP upA : Addr}
/-! ### bits -/
theorem seen_len {long n s : Nat} {pms : List PM} : ∀ {t : RT} {S : List Nat}, (seenM pms long n s t S).length ≤ S.length + 2 ^ (t.dep + 1)
  | .alw, S => Nat.le_add_right ..
  | .cell p ct, S => by
    show (if _ then _ else _ : List Nat).length ≤ S.length + 2
    have := hasP_len S p
    split <;> omega
  | .cells p sg o, S => by
    show (if _ then _ else if _ then _ else _ : List Nat).length ≤ S.length + 2
    have h1 := hasP_len S p
    have h2 := hasP_len (hasP S p) o
    split
    · omega
    · split <;> omega
  | .neg t, S => by
    have h := seen_len (long := long) (n := n) (s := s) (pms := pms) (t := t) (S := S)
    have : 2 ^ (t.dep + 1 + 1) = 2 ^ (t.dep + 1) * 2 := Nat.pow_succ ..
    show (seenM pms long n s t S).length ≤ S.length + 2 ^ (t.dep + 1 + 1)
    omega
  | .both a b, S => by
    have h1 := seen_len (long := long) (n := n) (s := s) (pms := pms) (t := a) (S := S)
    have h2 := seen_len (long := long) (n := n) (s := s) (pms := pms) (t := b) (S := seenM pms long n s a S)
    have h3 : 2 ^ (max a.dep b.dep + 1 + 1) = 2 ^ (max a.dep b.dep + 1) * 2 := Nat.pow_succ ..
    have h4 : 2 ^ (a.dep + 1) ≤ 2 ^ (max a.dep b.dep + 1) := Nat.pow_le_pow_right (by decide) (by omega)
    have h5 : 2 ^ (b.dep + 1) ≤ 2 ^ (max a.dep b.dep + 1) := Nat.pow_le_pow_right (by decide) (by omega)
    show (if _ then _ else _ : List Nat).length ≤ S.length + 2 ^ (max a.dep b.dep + 1 + 1)
    split <;> omega
  | .eith a b, S => by
    have h1 := seen_len (long := long) (n := n) (s := s) (pms := pms) (t := a) (S := S)
    have h2 := seen_len (long := long) (n := n) (s := s) (pms := pms) (t := b) (S := seenM pms long n s a S)
    have h3 : 2 ^ (max a.dep b.dep + 1 + 1) = 2 ^ (max a.dep b.dep + 1) * 2 := Nat.pow_succ ..
    have h4 : 2 ^ (a.dep + 1) ≤ 2 ^ (max a.dep b.dep + 1) := Nat.pow_le_pow_right (by decide) (by omega)
    have h5 : 2 ^ (b.dep + 1) ≤ 2 ^ (max a.dep b.dep + 1) := Nat.pow_le_pow_right (by decide) (by omega)
    show (if _ then _ else _ : List Nat).length ≤ S.length + 2 ^ (max a.dep b.dep + 1 + 1)
    split <;> omega
theorem in_bits (x : Bool) (l : List Bool) : (!inV (bI x) (l.map bI)) = lacks x l := by
  unfold lacks inV
  rw [List.any_map]
  congr 2
  funext y
  cases x <;> cases y <;> rfl
theorem bits_flat (l : List Bool) : (l.map bI).all flatV = true := List.all_eq_true.mpr fun x hx => by
  obtain ⟨b, _, rfl⟩ := List.mem_map.mp hx
  rfl
theorem getB {l : List Bool} {i : Nat} {x : V} (h : (l.map bI)[i]? = some x) : ∃ n, l[i]? = some n ∧ x = bI n := by
  rw [List.getElem?_map] at h
  cases e : l[i]? with
  | none => rw [e] at h; cases h
  | some n => rw [e] at h; exact ⟨n, rfl, (Option.some.inj h).symm⟩
section
variable {long n s : Nat} {pms : List PM}
theorem bit_len (t : RT) : (bitS pms long n s t).length = szS long n s := by
  unfold bitS
  rw [List.length_map, List.length_range]
theorem bit_at {t : RT} {i : Nat} (h : i < szS long n s) : (bitS pms long n s t)[i]? = some (rowB (rowS pms (s * long + i)) t) := by
  unfold bitS
  rw [List.getElem?_map, List.getElem?_range h]
  rfl
theorem lacks_all {x : Bool} {l : List Bool} (h : lacks x l = true) : ∀ y ∈ l, y = !x := fun y hy => by
  unfold lacks at h
  have := List.any_eq_false.mp (nT h) y hy
  cases x <;> cases y <;> first | rfl | exact absurd rfl this
theorem both_first {a b : RT} (h : lacks true (bitS pms long n s a) = true) : bitS pms long n s (.both a b) = bitS pms long n s a := by
  unfold bitS
  refine List.map_congr_left fun i hi => ?_
  have := lacks_all h _ (List.mem_map.mpr ⟨i, hi, rfl⟩)
  show (if rowB (rowS pms (s * long + i)) a = true then rowB (rowS pms (s * long + i)) b else false) = rowB (rowS pms (s * long + i)) a
  rw [this]
  rfl
theorem eith_first {a b : RT} (h : lacks false (bitS pms long n s a) = true) : bitS pms long n s (.eith a b) = bitS pms long n s a := by
  unfold bitS
  refine List.map_congr_left fun i hi => ?_
  have := lacks_all h _ (List.mem_map.mpr ⟨i, hi, rfl⟩)
  show (if rowB (rowS pms (s * long + i)) a = true then true else rowB (rowS pms (s * long + i)) b) = rowB (rowS pms (s * long + i)) a
  rw [this]
  rfl
end
def kdsOf (pms : List PM) : List Bool := pms.map (·.b)
theorem kds_at {pms : List PM} {i : Nat} {k : Bool} (h : (kdsOf pms)[i]? = some k) : i < pms.length ∧ (pmAt pms i).b = k := by
  unfold kdsOf at h
  rw [List.getElem?_map] at h
  cases e : pms[i]? with
  | none => rw [e] at h; cases h
  | some p =>
    rw [e] at h
    have hi := lt_of_at e
    refine ⟨hi, ?_⟩
    rw [pm_at hi] at e
    rw [Option.some.inj e]
    exact Option.some.inj h
def sp_Glance_bits (K : PySem.W.Frag) (CG CP : Addr) (d : Nat) : Sp := fun vs H Q _ => ∃ (g sd ta : Addr) (long n s : Nat) (pms : List PM) (S : List Nat) (t : RT), vs = [.ref g, .ref ta] ∧ GlAt CG CP H long n pms s g sd S ∧ GOk long n pms s ∧ S.length + 2 ^ (t.dep + 1) ≤ 800 ∧ RTAt K H t ta ∧ RFit (kdsOf pms) t ∧ t.dep < d ∧
  ∀ r H2, ExB sd H H2 → GlAt CG CP H2 long n pms s g sd (seenM pms long n s t S) → H2 r = some (.lst ((bitS pms long n s t).map bI)) → Q (.ref r) H2
theorem ok_Glance_bits0 (D : Mfn K CG "bits" "Glance.bits" s_Glance_bits) : Met P w K mg base 13 CG "bits" (sp_Glance_bits K CG CP 0) [] := by
  refine met_mk D sc_Glance_bits (fun _ _ _ _ _ _ us hl => match us, hl with | [_, _], _ => rfl) (fun vs H Q E h => ?_) (fun f cdv A outer s H vs Q E hr h => ?_)
  · obtain ⟨_, _, _, _, _, _, _, _, _, rfl, _⟩ := h; rfl
  · obtain ⟨_, _, _, _, _, _, _, _, _, rfl, _, _, _, _, _, h, _⟩ := h
    exact absurd h (Nat.not_lt_zero _)
theorem ok_Glance_bits (T : Gf K mg CG CP upA) (D : Mfn K CG "bits" "Glance.bits" s_Glance_bits) (c_Glance_cell_bits : Met P w K mg base 12 CG "cell_bits" (sp_Glance_cell_bits K CG CP) []) (c_Glance_pair_bits : Met P w K mg base 12 CG "pair_bits" (sp_Glance_pair_bits K CG CP) []) (c_Glance_size : Met P w K mg base 1 CG "size" (sp_Glance_size K CG CP) []) (d : Nat) (c_Glance_bits : Met P w K mg base (13 + d) CG "bits" (sp_Glance_bits K CG CP d) []) : Met P w K mg base (13 + d + 1) CG "bits" (sp_Glance_bits K CG CP (d + 1)) [] := by
  refine met_mk D sc_Glance_bits (fun _ _ _ _ _ _ us hl => match us, hl with | [_, _], _ => rfl) (fun vs H Q E h => ?_) (fun f cdv A outer s H vs Q E hr h => ?_)
  · obtain ⟨_, _, _, _, _, _, _, _, _, rfl, _⟩ := h; rfl
  · obtain ⟨g, sd, ta, long, n, s', pms, S, t, rfl, hG, ok, hSl, hta, hf, hd, q⟩ := h
    refine ⟨_, pss_cons (ps_set (i := 2) sc_Glance_bits.nd rfl (Or.inl rfl) (pe_ix ix_tup (pv 1) (pe_int) (fun _ _ => rfl)))
      (pss_cons (ps_if (pt_cmpR op_eq (pv 2) (pe_str) (nomark _)) (pss_one (ps_ret (pe_op op_rep (pe_lst (pa_cons (pe_int) pa_nil)) (pe_mt0 c_Glance_size hr (by omega) (pv 0))))) (pss_nil))
      (pss_cons (ps_if (pt_cmpR op_eq (pv 2) (pe_str) (nomark _)) (pss_one (ps_ret (pe_mt c_Glance_cell_bits hr (by omega) (pv 0) (pa_cons (pe_ix ix_tup (pv 1) (pe_int) (fun _ _ => rfl)) (pa_cons (pe_ix ix_tup (pv 1) (pe_int) (fun _ _ => rfl)) pa_nil))))) (pss_nil))
      (pss_cons (ps_if (pt_cmpR op_eq (pv 2) (pe_str) (nomark _)) (pss_one (ps_ret (pe_mt c_Glance_pair_bits hr (by omega) (pv 0) (pa_cons (pe_ix ix_tup (pv 1) (pe_int) (fun _ _ => rfl)) (pa_cons (pe_ix ix_tup (pv 1) (pe_int) (fun _ _ => rfl)) (pa_cons (pe_ix ix_tup (pv 1) (pe_int) (fun _ _ => rfl)) pa_nil)))))) (pss_nil))
      (pss_cons (ps_set (i := 3) sc_Glance_bits.nd rfl (Or.inl rfl) (pe_mt c_Glance_bits hr (by omega) (pv 0) (pa_cons (pe_ix ix_tup (pv 1) (pe_int) (fun _ _ => rfl)) pa_nil)))
      (pss_cons (ps_if (pt_cmpR op_eq (pv 2) (pe_str) (nomark _)) (pss_one (ps_ret (pe_lc (own := [("bit", 5)]) (g := gName 5) (tt := tYes) (by rfl) sc_Glance_bits.nd (pi_list (pv 3)) (blkOk_by (N := N_Glance_bits) (sc := defScope s_Glance_bits) (by decide +kernel)) (fun _ _ _ _ _ => pg_name (i := 5) sc_Glance_bits.nd rfl (Or.inl rfl)) (fun _ _ _ _ _ => pts_nil) (fun _ _ _ _ _ => pe_op op_sub (pe_int) (pv 5))))) (pss_nil))
      (pss_cons (ps_if (pt_cmpR op_notIn_seq (pe_callTy call_int1 (by rfl) T.int (by decide +kernel) (pa_cons (pe_cmpR op_eq (pv 2) (pe_str) (nomark _)) pa_nil)) (pv 3) rfl) (pss_one (ps_ret (pv 3))) (pss_nil))
      (pss_cons (ps_set (i := 4) sc_Glance_bits.nd rfl (Or.inl rfl) (pe_mt c_Glance_bits hr (by omega) (pv 0) (pa_cons (pe_ix ix_tup (pv 1) (pe_int) (fun _ _ => rfl)) pa_nil)))
      (pss_cons (ps_if (pt_cmpR op_eq (pv 2) (pe_str) (nomark _)) (pss_one (ps_ret (pe_lc (own := [("bit", 5), ("beside", 6)]) (g := gTup K 2 _) (tt := tYes) (by rfl) sc_Glance_bits.nd (pi_zip (by rfl) T.zip (pa_cons (pv 3) (pa_cons (pv 4) pa_nil))) (blkOk_by (N := N_Glance_bits) (sc := defScope s_Glance_bits) (by decide +kernel)) (fun _ _ _ _ _ => pg_tup (by rfl) (pgs_cons (pg_name (i := 5) sc_Glance_bits.nd rfl (Or.inl rfl)) (pgs_cons (pg_name (i := 6) sc_Glance_bits.nd rfl (Or.inl rfl)) pgs_nil))) (fun _ _ _ _ _ => pts_nil) (fun _ _ _ _ _ => pe_op op_mul (pv 5) (pv 6))))) (pss_nil))
      (pss_one (ps_ret (pe_lc (own := [("bit", 5), ("beside", 6)]) (g := gTup K 2 _) (tt := tYes) (by rfl) sc_Glance_bits.nd (pi_zip (by rfl) T.zip (pa_cons (pv 3) (pa_cons (pv 4) pa_nil))) (blkOk_by (N := N_Glance_bits) (sc := defScope s_Glance_bits) (by decide +kernel)) (fun _ _ _ _ _ => pg_tup (by rfl) (pgs_cons (pg_name (i := 5) sc_Glance_bits.nd rfl (Or.inl rfl)) (pgs_cons (pg_name (i := 6) sc_Glance_bits.nd rfl (Or.inl rfl)) pgs_nil))) (fun _ _ _ _ _ => pts_nil) (fun _ _ _ _ _ => pe_callB (call_max2 rfl) (by rfl) T.max (by decide +kernel) (pa_cons (pv 5) (pa_cons (pv 6) pa_nil)))))))))))))), ?_⟩
    obtain ⟨dx, pl, nl, kvs, h1, h2, h3, h4, h5, h6⟩ := hG.ex
    have hszl := ok.szl
    have hS8 : S.length ≤ 800 := Nat.le_trans (Nat.le_add_right ..) hSl
    cases t with
    | alw =>
      refine ⟨_, rfl, _, _, _, _, rfl, rfl, hta, at_k (k := 0) rfl rfl, ?_⟩
      refine ⟨_, rfl, rfl, _, rfl, ifT (by decide +kernel) ?_⟩
      refine ⟨Nat.le_of_ble_eq_true rfl, fun p2 np2 => ?_⟩
      refine ⟨_, rfl, _, _, _, rfl, Ex.n np2 _ _ h1, rfl, g, sd, long, n, s', pms, S, rfl, hG.mono (Ex.n np2), ok, fun H2 e2 => ?_⟩
      refine ⟨_, _, _, rfl, rfl, e2 _ _ upd_same, by omega, by omega, sml (by rw [Int.toNat_natCast]; show 1 * _ ≤ _; omega), fun p3 np3 => ?_⟩
      have ex := ((Ex.n (o := .lst [.int 1]) np2).trans e2).trans (Ex.n (o := .lst ((List.replicate ((szS long n s' : Int)).toNat [V.int 1]).flatten)) np3)
      refine q p3 _ (.of ex) (hG.mono ex) ?_
      rw [upd_same, flat_rep]
      have e9 : bitS pms long n s' .alw = List.replicate (szS long n s') true := by
        have := map_const (f := fun i => rowB (rowS pms (s' * long + i)) .alw) (b := true) (l := List.range (szS long n s')) fun _ _ => rfl
        rw [List.length_range] at this
        exact this
      rw [e9, List.map_replicate]
      rfl
    | cell p ct =>
      obtain ⟨b, g1, g2⟩ := hta
      obtain ⟨k, hk, hft, ham⟩ := hf
      obtain ⟨hp, hkb⟩ := kds_at hk
      refine ⟨_, rfl, _, _, _, _, rfl, rfl, g1, at_k (k := 0) rfl rfl, ?_⟩
      refine ⟨_, rfl, rfl, _, rfl, ifF (by decide +kernel) ⟨_, rfl, rfl, _, rfl, ifT (by decide +kernel) ?_⟩⟩
      exact ⟨_, rfl, _, _, _, rfl, h1, rfl, _, rfl, _, _, _, _, rfl, rfl, g1, at_k (k := 1) rfl rfl, _, rfl, _, _, _, _, rfl, rfl, g1, at_k (k := 2) rfl rfl, g, sd, b, _, long, n, s', p, pms, S, ct, rfl, rfl, hp, hG, ok, by omega, g2, hkb ▸ hft, ham, q⟩
    | cells p sg o =>
      obtain ⟨k, hi, hj, hs⟩ := hf
      obtain ⟨hp, hkp⟩ := kds_at hi
      obtain ⟨ho, hko⟩ := kds_at hj
      have g1 : SqT K H ta [.str "cells", .int (p : Int), .str sg, .int (o : Int)] := hta
      refine ⟨_, rfl, _, _, _, _, rfl, rfl, g1, at_k (k := 0) rfl rfl, ?_⟩
      refine ⟨_, rfl, rfl, _, rfl, ifF (by decide +kernel) ⟨_, rfl, rfl, _, rfl, ifF (by decide +kernel) ⟨_, rfl, rfl, _, rfl, ifT (by decide +kernel) ?_⟩⟩⟩
      exact ⟨_, rfl, _, _, _, rfl, h1, rfl, _, rfl, _, _, _, _, rfl, rfl, g1, at_k (k := 1) rfl rfl, _, rfl, _, _, _, _, rfl, rfl, g1, at_k (k := 2) rfl rfl, _, rfl, _, _, _, _, rfl, rfl, g1, at_k (k := 3) rfl rfl, g, sd, _, _, sg, long, n, s', p, o, pms, S, rfl, rfl, rfl, hp, ho, hkp.trans hko.symm, hs, hG, ok, by omega, q⟩
    | neg t =>
      obtain ⟨b, g1, g2⟩ := hta
      have hdp : 2 ^ (t.dep + 1 + 1) = 2 ^ (t.dep + 1) * 2 := Nat.pow_succ ..
      have hSl : S.length + 2 ^ (t.dep + 1 + 1) ≤ 800 := hSl
      refine ⟨_, rfl, _, _, _, _, rfl, rfl, g1, at_k (k := 0) rfl rfl, ?_⟩
      refine ⟨_, rfl, rfl, _, rfl, ifF (by decide +kernel) ⟨_, rfl, rfl, _, rfl, ifF (by decide +kernel) ⟨_, rfl, rfl, _, rfl, ifF (by decide +kernel) ?_⟩⟩⟩
      refine ⟨_, rfl, _, _, _, rfl, h1, rfl, _, rfl, _, _, _, _, rfl, rfl, g1, at_k (k := 1) rfl rfl, g, sd, b, long, n, s', pms, S, t, rfl, hG, ok, by omega, g2, hf, (show t.dep < d by have : t.dep + 1 < d + 1 := hd; omega), fun r H2 e2 hG2 hr2 => ?_⟩
      refine ⟨_, rfl, rfl, _, rfl, ifT (by decide +kernel) ?_⟩
      refine ⟨_, rfl, _, rfl, ⟨_, lsOf hr2⟩, fun d2 nd2 => ?_⟩
      have hbl := bit_len (pms := pms) (long := long) (n := n) (s := s') t
      refine lc_it walk_list (fun i H' => Ex H2 H' ∧ H' d2 = some (.lst (((bitS pms long n s' (.neg t)).take i).map bI))) ⟨Ex.n nd2, upd_same⟩ (fun i H' hi hI => lsOf (hI.1 _ _ hr2)) (fun i x H' H3 hi hI hy => ?_) (fun H' hI => ?_)
      · obtain ⟨e3, hd3⟩ := hI
        obtain ⟨rfl, hx⟩ := hy
        obtain ⟨y, hy2, rfl⟩ := getB hx
        refine ⟨rfl, ?_⟩
        refine ⟨_, rfl, _, _, rfl, rfl, ?_⟩
        refine ⟨_, hd3, smlt (by rw [List.length_map, List.length_take, bit_len]; omega), e3.mut nd2, ?_⟩
        rw [upd_same, List.take_add_one, bit_neg, List.getElem?_map, hy2, List.map_append]
        cases y <;> rfl
      · obtain ⟨e3, hd3⟩ := hI
        rw [List.take_of_length_le (by rw [List.length_map, bit_len, bit_len]; exact Nat.le_refl _)] at hd3
        exact q d2 H' (e2.trans (.of e3)) (hG2.mono e3) hd3
    | both x y =>
      obtain ⟨b, c, g1, g2, g3⟩ := hta
      have hdd : max x.dep y.dep + 1 < d + 1 := hd
      have hSl : S.length + 2 ^ (max x.dep y.dep + 1 + 1) ≤ 800 := hSl
      have p3 : 2 ^ (max x.dep y.dep + 1 + 1) = 2 ^ (max x.dep y.dep + 1) * 2 := Nat.pow_succ ..
      have p4 : 2 ^ (x.dep + 1) ≤ 2 ^ (max x.dep y.dep + 1) := Nat.pow_le_pow_right (by decide) (by omega)
      have p5 : 2 ^ (y.dep + 1) ≤ 2 ^ (max x.dep y.dep + 1) := Nat.pow_le_pow_right (by decide) (by omega)
      have hse : seenM pms long n s' (.both x y) S = if lacks true (bitS pms long n s' x) = true then seenM pms long n s' x S else seenM pms long n s' y (seenM pms long n s' x S) := rfl
      refine ⟨_, rfl, _, _, _, _, rfl, rfl, g1, at_k (k := 0) rfl rfl, ?_⟩
      refine ⟨_, rfl, rfl, _, rfl, ifF (by decide +kernel) ⟨_, rfl, rfl, _, rfl, ifF (by decide +kernel) ⟨_, rfl, rfl, _, rfl, ifF (by decide +kernel) ?_⟩⟩⟩
      refine ⟨_, rfl, _, _, _, rfl, h1, rfl, _, rfl, _, _, _, _, rfl, rfl, g1, at_k (k := 1) rfl rfl, g, sd, b, long, n, s', pms, S, x, rfl, hG, ok, by omega, g2, hf.1, by omega, fun r H2 e2 hG2 hr2 => ?_⟩
      refine ⟨_, rfl, rfl, _, rfl, ifF (by decide +kernel) ?_⟩
      have ew : decide (V.str "both" = V.str "both") = true := by decide +kernel
      refine ⟨_, rfl, rfl, .inr ⟨_, rfl, _, rfl, _, _, rfl, .inl (lsOf hr2), rfl, bits_flat _, _, rfl, ?_⟩⟩
      rw [ew]
      have ein : (!inV (V.int (if true = true then 1 else 0)) ((bitS pms long n s' x).map bI)) = lacks true (bitS pms long n s' x) := in_bits true _
      refine ifB (fun h => ?_) (fun h => ?_)
      · have h := ein.symm.trans h
        rw [hse, iT h, both_first h] at q
        exact ⟨_, rfl, q r H2 e2 hG2 hr2⟩
      have h := ein.symm.trans h
      rw [hse, iF h] at q
      have hsl := seen_len (pms := pms) (long := long) (n := n) (s := s') (t := x) (S := S)
      obtain ⟨kv2, hd2⟩ := hG2.dict
      obtain ⟨dx2, pl2, nl2, _, h12, _⟩ := hG2.ex
      refine ⟨_, rfl, _, _, _, rfl, h12, rfl, _, rfl, _, _, _, _, rfl, rfl, exD_T g1 e2 h4, at_k (k := 2) rfl rfl, g, sd, c, long, n, s', pms, _, y, rfl, hG2, ok, by omega, g3.exD e2 h4, hf.2, by omega, fun r2 H3 e3 hG3 hr3 => ?_⟩
      have hr23 := e3 _ _ (fun z => by rw [z, hd2] at hr2; cases hr2) hr2
      refine ⟨_, rfl, rfl, _, rfl, ifT (by decide +kernel) ?_⟩
      refine ⟨_, rfl, _, rfl, _, _, _, _, rfl, lsOf hr23, lsOf hr3, fun d2 nd2 => ?_⟩
      refine lc_it (walk_zip (n := szS long n s') (by rw [List.length_map, List.length_map, bit_len, bit_len, Nat.min_self])) (fun i H' => Ex H3 H' ∧ H' d2 = some (.lst (((bitS pms long n s' (.both x y)).take i).map bI))) ⟨Ex.n nd2, upd_same⟩ (fun i H' hi hI => ⟨lsOf (hI.1 _ _ hr23), lsOf (hI.1 _ _ hr3)⟩) (fun i v H' H5 hi hI hy => ?_) (fun H' hI => ?_)
      · obtain ⟨e5, hd5⟩ := hI
        obtain ⟨T', x1, y1, rfl, nT', rfl, hx, hy⟩ := hy
        obtain ⟨bx, hbx, rfl⟩ := getB hx
        obtain ⟨by', hby, rfl⟩ := getB hy
        rw [bit_at hi] at hbx hby
        refine ⟨_, _, rfl, tpOf upd_same, rfl, _, _, rfl, _, _, rfl, rfl, rfl, ?_⟩
        refine ⟨_, rfl, _, rfl, _, _, rfl, rfl, .inl ⟨by cases bx <;> decide, by cases bx <;> decide⟩, ?_⟩
        refine ⟨_, Ex.n nT' _ _ hd5, smlt (by rw [List.length_map, List.length_take, bit_len]; omega), (e5.trans (Ex.n nT')).mut nd2, ?_⟩
        have eb : rowB (rowS pms (s' * long + i)) (.both x y) = if bx = true then by' else false := by
          rw [← Option.some.inj hbx, ← Option.some.inj hby]
          rfl
        rw [upd_same, List.take_add_one, bit_at hi, eb, List.map_append]
        cases bx <;> cases by' <;> rfl
      · obtain ⟨e5, hd5⟩ := hI
        rw [List.take_of_length_le (by rw [bit_len]; exact Nat.le_refl _)] at hd5
        exact q d2 H' ((e2.trans e3).trans (.of e5)) (hG3.mono e5) hd5
    | eith x y =>
      obtain ⟨b, c, g1, g2, g3⟩ := hta
      have hdd : max x.dep y.dep + 1 < d + 1 := hd
      have hSl : S.length + 2 ^ (max x.dep y.dep + 1 + 1) ≤ 800 := hSl
      have p3 : 2 ^ (max x.dep y.dep + 1 + 1) = 2 ^ (max x.dep y.dep + 1) * 2 := Nat.pow_succ ..
      have p4 : 2 ^ (x.dep + 1) ≤ 2 ^ (max x.dep y.dep + 1) := Nat.pow_le_pow_right (by decide) (by omega)
      have p5 : 2 ^ (y.dep + 1) ≤ 2 ^ (max x.dep y.dep + 1) := Nat.pow_le_pow_right (by decide) (by omega)
      have hse : seenM pms long n s' (.eith x y) S = if lacks false (bitS pms long n s' x) = true then seenM pms long n s' x S else seenM pms long n s' y (seenM pms long n s' x S) := rfl
      refine ⟨_, rfl, _, _, _, _, rfl, rfl, g1, at_k (k := 0) rfl rfl, ?_⟩
      refine ⟨_, rfl, rfl, _, rfl, ifF (by decide +kernel) ⟨_, rfl, rfl, _, rfl, ifF (by decide +kernel) ⟨_, rfl, rfl, _, rfl, ifF (by decide +kernel) ?_⟩⟩⟩
      refine ⟨_, rfl, _, _, _, rfl, h1, rfl, _, rfl, _, _, _, _, rfl, rfl, g1, at_k (k := 1) rfl rfl, g, sd, b, long, n, s', pms, S, x, rfl, hG, ok, by omega, g2, hf.1, by omega, fun r H2 e2 hG2 hr2 => ?_⟩
      refine ⟨_, rfl, rfl, _, rfl, ifF (by decide +kernel) ?_⟩
      have ew : decide (V.str "either" = V.str "both") = false := by decide +kernel
      refine ⟨_, rfl, rfl, .inr ⟨_, rfl, _, rfl, _, _, rfl, .inl (lsOf hr2), rfl, bits_flat _, _, rfl, ?_⟩⟩
      rw [ew]
      have ein : (!inV (V.int (if false = true then 1 else 0)) ((bitS pms long n s' x).map bI)) = lacks false (bitS pms long n s' x) := in_bits false _
      refine ifB (fun h => ?_) (fun h => ?_)
      · have h := ein.symm.trans h
        rw [hse, iT h, eith_first h] at q
        exact ⟨_, rfl, q r H2 e2 hG2 hr2⟩
      have h := ein.symm.trans h
      rw [hse, iF h] at q
      have hsl := seen_len (pms := pms) (long := long) (n := n) (s := s') (t := x) (S := S)
      obtain ⟨kv2, hd2⟩ := hG2.dict
      obtain ⟨dx2, pl2, nl2, _, h12, _⟩ := hG2.ex
      refine ⟨_, rfl, _, _, _, rfl, h12, rfl, _, rfl, _, _, _, _, rfl, rfl, exD_T g1 e2 h4, at_k (k := 2) rfl rfl, g, sd, c, long, n, s', pms, _, y, rfl, hG2, ok, by omega, g3.exD e2 h4, hf.2, by omega, fun r2 H3 e3 hG3 hr3 => ?_⟩
      have hr23 := e3 _ _ (fun z => by rw [z, hd2] at hr2; cases hr2) hr2
      refine ⟨_, rfl, rfl, _, rfl, ifF (by decide +kernel) ?_⟩
      refine ⟨_, rfl, _, rfl, _, _, _, _, rfl, lsOf hr23, lsOf hr3, fun d2 nd2 => ?_⟩
      refine lc_it (walk_zip (n := szS long n s') (by rw [List.length_map, List.length_map, bit_len, bit_len, Nat.min_self])) (fun i H' => Ex H3 H' ∧ H' d2 = some (.lst (((bitS pms long n s' (.eith x y)).take i).map bI))) ⟨Ex.n nd2, upd_same⟩ (fun i H' hi hI => ⟨lsOf (hI.1 _ _ hr23), lsOf (hI.1 _ _ hr3)⟩) (fun i v H' H5 hi hI hy => ?_) (fun H' hI => ?_)
      · obtain ⟨e5, hd5⟩ := hI
        obtain ⟨T', x1, y1, rfl, nT', rfl, hx, hy⟩ := hy
        obtain ⟨bx, hbx, rfl⟩ := getB hx
        obtain ⟨by', hby, rfl⟩ := getB hy
        rw [bit_at hi] at hbx hby
        refine ⟨_, _, rfl, tpOf upd_same, rfl, _, _, rfl, _, _, rfl, rfl, rfl, ?_⟩
        refine ⟨_, rfl, _, rfl, _, _, rfl, ?_⟩
        refine ⟨_, Ex.n nT' _ _ hd5, smlt (by rw [List.length_map, List.length_take, bit_len]; omega), (e5.trans (Ex.n nT')).mut nd2, ?_⟩
        have eb : rowB (rowS pms (s' * long + i)) (.eith x y) = if bx = true then true else by' := by
          rw [← Option.some.inj hbx, ← Option.some.inj hby]
          rfl
        rw [upd_same, List.take_add_one, bit_at hi, eb, List.map_append]
        cases bx <;> cases by' <;> rfl
      · obtain ⟨e5, hd5⟩ := hI
        rw [List.take_of_length_le (by rw [bit_len]; exact Nat.le_refl _)] at hd5
        exact q d2 H' ((e2.trans e3).trans (.of e5)) (hG3.mono e5) hd5
theorem ok_Glance_bitsN (T : Gf K mg CG CP upA) (D : Mfn K CG "bits" "Glance.bits" s_Glance_bits) (c_Glance_cell_bits : Met P w K mg base 12 CG "cell_bits" (sp_Glance_cell_bits K CG CP) []) (c_Glance_pair_bits : Met P w K mg base 12 CG "pair_bits" (sp_Glance_pair_bits K CG CP) []) (c_Glance_size : Met P w K mg base 1 CG "size" (sp_Glance_size K CG CP) []) : ∀ d : Nat, Met P w K mg base (13 + d) CG "bits" (sp_Glance_bits K CG CP d) []
  | 0 => ok_Glance_bits0 D
  | d + 1 => ok_Glance_bits T D c_Glance_cell_bits c_Glance_pair_bits c_Glance_size d (ok_Glance_bitsN T D c_Glance_cell_bits c_Glance_pair_bits c_Glance_size d)
end
end Pk
set_option Elab.async false
set_option linter.all false
set_option maxRecDepth 100000
set_option maxHeartbeats 4000000
set_option autoImplicit false
namespace Pk
open PySem PySem.Spec PyProof.Rows L2
open C8 (Cal Met Mak pe_c pe_mk pe_mt pe_mt0 pe_gc)
section
variable {P : Program} {w : World} {K : PySem.W.Frag} {mg : Str → Option Value} {base : Heap} {CG CP upA : Addr}
/-! ### glances, sieved -/
structure GAll (long n : Nat) (pms : List PM) : Prop where
  l1 : 1 ≤ long
  l2 : long ≤ 64
  n1 : n ≤ 100
  p1 : 1 ≤ pms.length
  p2 : pms.length ≤ 8
  ok : ∀ pm ∈ pms, pm.Ok long n
theorem GAll.at {long n : Nat} {pms : List PM} (g : GAll long n pms) {s : Nat} (h : s < nSt long n) : GOk long n pms s := ⟨g.l1, g.l2, g.n1, g.p1, g.p2, g.ok, h⟩
theorem GAll.ns {long n : Nat} {pms : List PM} (g : GAll long n pms) : nSt long n ≤ 100 := Nat.le_trans (nSt_le (by have := g.l1; omega)) g.n1
/-- a new glance at each stretch, nothing read -/
def GlsAt (CG PL : Addr) (H0 H : Hp) (long n : Nat) (pms : List PM) (gs : List V) : Prop := gs.length = nSt long n ∧ ∃ sd : Nat → Addr, (∀ s, s < nSt long n → ∃ g dx pl nl, gs[s]? = some (.ref g) ∧ H g = some (.ins CG dx (GlFs pl nl s (sd s))) ∧ H (sd s) = some (.dK []) ∧ NtsAt H long pms s nl ∧ H0 nl = none ∧ H0 (sd s) = none ∧ PL = pl) ∧
  ∀ s s', s < nSt long n → s' < nSt long n → sd s = sd s' → s = s'
def sp_glances (K : PySem.W.Frag) (CG CP : Addr) : Sp := fun vs H Q _ => ∃ (pl : Addr) (long n : Nat) (pms : List PM), vs = [.ref pl] ∧ PilsAt CP H long n pms pl ∧ GAll long n pms ∧
  ∀ p gs H2, H p = none → Ex H H2 → H2 p = some (.lst gs) → GlsAt CG pl H H2 long n pms gs → Q (.ref p) H2
/-- the notes of some pillars -/
def AnAt (H : Hp) (long n : Nat) (pms : List PM) (d : Addr) (xs : List V) : Prop := ∀ (j : Nat) (x : V), xs[j]? = some x → ∃ a notes, x = .ref a ∧ a ≠ d ∧ H a = some (.lst notes) ∧ notes.length = nSt long n ∧ ∀ s, s < nSt long n → ∃ q, notes[s]? = some (.ref q) ∧ H q = some (.tup (ntV long (pmAt pms j) s))
theorem AnAt.keep {H H' : Hp} {long n : Nat} {pms : List PM} {d : Addr} {xs : List V} (h : AnAt H long n pms d xs) (e1 : ∀ a ys, a ≠ d → H a = some (.lst ys) → H' a = some (.lst ys)) (e2 : ∀ a ys, H a = some (.tup ys) → H' a = some (.tup ys)) : AnAt H' long n pms d xs := fun j x hx => by
  obtain ⟨a, notes, h1, h2, h3, h4, h5⟩ := h j x hx
  refine ⟨a, notes, h1, h2, e1 _ _ h2 h3, h4, fun s hs => ?_⟩
  obtain ⟨q, g1, g2⟩ := h5 s hs
  exact ⟨q, g1, e2 _ _ g2⟩
theorem ok_glances (T : Gf K mg CG CP upA) (D : Dfn K mg "glances" s_glances) (c_Pillar_notes : Met P w K mg base 1 CP "notes" (sp_Pillar_notes K CP) []) (c_Glance : Mak P w K mg base 1 "Glance" CG (sp_Glance_init K CG CP) []) : Cal P w K mg base 3 "glances" (sp_glances K CG CP) [] := by
  refine cal_mk D sc_glances (fun _ _ _ _ _ _ us hl => match us, hl with | [_], _ => rfl) (fun vs H Q E h => ?_) (fun f cdv A outer s H vs Q E hr h => ?_)
  · obtain ⟨_, _, _, _, rfl, _⟩ := h; rfl
  · obtain ⟨pl, long, n, pms, rfl, hP, ga, q⟩ := h
    refine ⟨_, pss_cons (ps_set (i := 1) sc_glances.nd rfl (Or.inr rfl) (pe_lc (own := [("pillar", 2)]) (g := gName 2) (tt := tYes) (by rfl) sc_glances.nd (pi_list (pv 0)) (blkOk_by (N := N_glances) (sc := defScope s_glances) (by decide +kernel)) (fun _ _ _ _ _ => pg_name (i := 2) sc_glances.nd rfl (Or.inl rfl)) (fun _ _ _ _ _ => pts_nil) (fun _ _ _ _ _ => pe_mt0 c_Pillar_notes hr (by decide) (pv 2))))
      (pss_one (ps_ret (pe_lc (own := [("at", 3)]) (g := gName 3) (tt := tYes) (te := (tMake _ _ _ _ (tCons _ (tCons (tLc (iList K _) _ tYes (tOp (rIxL K) _ _) _) (tCons _ tNil))))) (by rfl) sc_glances.nd (pi_range1 (by rfl) T.range (pa_cons (pe_callB call_len_seq (by rfl) T.len (by decide +kernel) (pa_cons (pe_ix ix_list (pv 1) (pe_int) (fun _ _ => rfl)) pa_nil)) pa_nil)) (blkOk_by (N := N_glances) (sc := defScope s_glances) (by decide +kernel)) (fun _ _ _ _ _ => pg_name (i := 3) sc_glances.nd rfl (Or.inr rfl)) (fun _ _ _ _ _ => pts_nil) (fun _ _ _ _ _ => pe_mk c_Glance hr (by decide) (by rfl) (pa_cons (pv 0) (pa_cons (pe_lc (own := [("notes", 4)]) (g := gName 4) (tt := tYes) (te := (tOp (rIxL K) _ _)) (by rfl) sc_glances.nd (pi_list (pv 1)) (blkOk_by (by kernel_rfl)) (fun _ _ _ _ _ => pg_name (i := 4) sc_glances.nd rfl (Or.inl rfl)) (fun _ _ _ _ _ => pts_nil) (fun _ _ _ _ _ => pe_ix ix_list (pv 4) (pv 3) (fun _ _ => rfl))) (pa_cons (pv 3) pa_nil))))))), ?_⟩
    obtain ⟨ps, k1, k2, k3⟩ := id hP
    have hns := ga.ns
    have hp8 := ga.p2
    refine ⟨_, rfl, _, rfl, ⟨_, lsOf k1⟩, fun d nd => ?_⟩
    refine lc_it walk_list (fun i H' => Ex H H' ∧ ∃ xs, H' d = some (.lst xs) ∧ xs.length = i ∧ AnAt H' long n pms d xs) ⟨Ex.n nd, [], upd_same, rfl, fun j x hx => by cases hx⟩ (fun i H' hi hI => lsOf (hI.1 _ _ k1)) (fun i x H' H2 hi hI hy => ?_) (fun H' hI => ?_)
    · obtain ⟨e2, xs, hd, hxl, hA⟩ := hI
      obtain ⟨rfl, hx⟩ := hy
      have hip : i < pms.length := by omega
      obtain ⟨pa, g1, g2⟩ := k3 i _ (pm_at hip)
      obtain rfl : x = .ref pa := Option.some.inj (hx.symm.trans g1)
      have hP2 := g2.mono e2
      obtain ⟨dx2, r, nt, rows, notes, w1, _⟩ := hP2.ex
      refine ⟨rfl, ?_⟩
      refine ⟨_, rfl, _, _, _, rfl, w1, rfl, pa, long, n, pmAt pms i, rfl, hP2, fun p nts H3 np e3 hp hnl hnt => ?_⟩
      have hpd : p ≠ d := fun z => ne_of_none hd np z.symm
      have hd3 := e3 _ _ hd
      refine ⟨xs, hd3, smlt (by omega), (e2.trans e3).mut nd, xs ++ [.ref p], upd_same, by rw [List.length_append, hxl]; rfl, fun j x hj => ?_⟩
      rcases Nat.lt_or_ge j xs.length with hjl | hjl
      · rw [List.getElem?_append_left hjl] at hj
        exact (hA.keep (fun a ys n h => by rw [upd_ne n]; exact e3 _ _ h) (fun a ys h => tupK hd3 (e3 _ _ h))) j x hj
      · rw [List.getElem?_append_right hjl] at hj
        have hj0 : j - xs.length = 0 := by
          rcases Nat.eq_zero_or_pos (j - xs.length) with e | e
          · exact e
          · rw [List.getElem?_eq_none (by exact e)] at hj; cases hj
        rw [hj0] at hj
        have hji : j = i := by omega
        refine ⟨p, nts, (Option.some.inj hj).symm, hpd, by rw [upd_ne hpd]; exact hp, hnl, fun s hs => ?_⟩
        obtain ⟨q2, u1, u2⟩ := hnt s hs
        rw [hji]
        exact ⟨q2, u1, tupK hd3 u2⟩
    · obtain ⟨e2, xs, hd, hxl, hA⟩ := hI
      rw [k2] at hxl
      obtain ⟨x0, hx0⟩ : ∃ x0, xs[0]? = some x0 := ⟨_, List.getElem?_eq_getElem (by have := ga.p1; omega)⟩
      obtain ⟨a0, notes0, y1, y2, y3, y4, y5⟩ := hA 0 _ hx0
      rw [y1] at hx0
      refine ⟨_, rfl, _, _, _, _, rfl, rfl, lsOf hd, at_k (k := 0) hx0 rfl, _, _, rfl, .inl (lsOf y3), _, rfl, by omega, by omega, fun d2 nd2 => ?_⟩
      rw [y4]
      have hdd : d ≠ d2 := ne_of_none hd nd2
      refine lc_it (walk_range (lo := 0) (n := nSt long n)) (fun i H'' => Ex H' H'' ∧ ∃ (gs : List V) (sd : Nat → Addr), H'' d2 = some (.lst gs) ∧ gs.length = i ∧ (∀ s, s < i → ∃ g dx nl, gs[s]? = some (.ref g) ∧ H'' g = some (.ins CG dx (GlFs pl nl s (sd s))) ∧ H'' (sd s) = some (.dK []) ∧ NtsAt H'' long pms s nl ∧ nl ≠ d2 ∧ H' nl = none ∧ H' (sd s) = none) ∧ ∀ s s', s < i → s' < i → sd s = sd s' → s = s')
        ⟨Ex.n nd2, [], fun _ => 0, upd_same, rfl, fun s h => absurd h (Nat.not_lt_zero _), fun s _ h => absurd h (Nat.not_lt_zero _)⟩ (fun _ _ _ _ => trivial) (fun i x H'' H3 hi hI hy => ?_) (fun H'' hI => ?_)
      · obtain ⟨e3, gs, sd, hd2, hgl, hg, hinj⟩ := hI
        obtain ⟨rfl, rfl⟩ := hy
        refine ⟨rfl, ?_⟩
        refine ⟨_, rfl, _, rfl, _, rfl, ⟨_, lsOf (e3 _ _ hd)⟩, fun d3 nd3 => ?_⟩
        have h32 : d3 ≠ d2 := fun z => ne_of_none hd2 nd3 z.symm
        refine lc_it walk_list (fun j H4 => Ex H3 H4 ∧ ∃ ns, H4 d3 = some (.lst ns) ∧ ns.length = j ∧ ∀ k x, ns[k]? = some x → ∃ q, x = .ref q ∧ H4 q = some (.tup (ntV long (pmAt pms k) i))) ⟨Ex.n nd3, [], upd_same, rfl, fun k x h => by cases h⟩ (fun j H4 hj hJ => lsOf (hJ.1 _ _ (e3 _ _ hd))) (fun j x H4 H5 hj hJ hy => ?_) (fun H4 hJ => ?_)
        · obtain ⟨e4, ns, hd3, hnl, hn⟩ := hJ
          obtain ⟨rfl, hx⟩ := hy
          obtain ⟨a, notes, z1, z2, z3, z4, z5⟩ := hA j x hx
          subst z1
          obtain ⟨qa, u1, u2⟩ := z5 i hi
          refine ⟨rfl, ?_⟩
          refine ⟨_, rfl, _, rfl, _, _, _, _, rfl, rfl, lsOf (e4 _ _ (e3 _ _ z3)), at_k u1 (by omega), ?_⟩
          refine ⟨ns, hd3, smlt (by have := lt_of_at hx; omega), e4.mut nd3, ns ++ [.ref qa], upd_same, by rw [List.length_append, hnl]; rfl, fun k x hk => ?_⟩
          rcases Nat.lt_or_ge k ns.length with hkl | hkl
          · rw [List.getElem?_append_left hkl] at hk
            obtain ⟨q2, v1, v2⟩ := hn k x hk
            exact ⟨q2, v1, tupK hd3 v2⟩
          · rw [List.getElem?_append_right hkl] at hk
            have hk0 : k - ns.length = 0 := by
              rcases Nat.eq_zero_or_pos (k - ns.length) with e | e
              · exact e
              · rw [List.getElem?_eq_none (by exact e)] at hk; cases hk
            rw [hk0] at hk
            have hkj : k = j := by omega
            rw [hkj]
            exact ⟨qa, (Option.some.inj hk).symm, tupK hd3 (e4 _ _ (e3 _ _ u2))⟩
        · obtain ⟨e4, ns, hd3, hnl, hn⟩ := hJ
          have hnt4 : NtsAt H4 long pms i d3 := ⟨ns, hd3, by omega, fun k pm hk => by
            have hkl := lt_of_at hk
            have hkn : ns[k]? = some ns[k] := List.getElem?_eq_getElem (by omega)
            obtain ⟨q2, v1, v2⟩ := hn k _ hkn
            rw [pm_at hkl] at hk
            obtain rfl := Option.some.inj hk
            exact ⟨q2, by rw [hkn, v1], v2⟩⟩
          refine ⟨_, rfl, fun x dx nx ndx hdx => ?_⟩
          have e5 : Ex H4 (upd (upd H4 dx (.own x)) x (.ins CG dx [])) := by
            refine (Ex.n ndx).trans (Ex.n ?_)
            rw [upd_ne hdx.symm]
            exact nx
          refine ⟨x, dx, pl, d3, _, i, rfl, by omega, upd_same, fun sd2 H6 ns2 b6 hx6 hs6 => ⟨rfl, ?_⟩⟩
          have e6 : Ex H4 H6 := fun a o h => b6 a o (ne_of_none h nx) (e5 _ _ h)
          have hd26 := e6 _ _ (e4 _ _ hd2)
          have ns24 : H4 sd2 = none := Evl.fresh_back e5 ns2
          have ns23 : H3 sd2 = none := Evl.fresh_back e4 ns24
          have hsd2 : sd2 ≠ d2 := fun z => by rw [z, hd2] at ns23; cases ns23
          have hxd2 : x ≠ d2 := fun z => by rw [z, e4 _ _ hd2] at nx; cases nx
          refine ⟨gs, hd26, smlt (by omega), ((e3.trans e4).trans e6).mut nd2, gs ++ [.ref x], fun s => if s = i then sd2 else sd s, upd_same, by rw [List.length_append, hgl]; rfl, fun s hs => ?_, fun s s' hs hs' he => ?_⟩
          · have up : ∀ {nl s}, NtsAt H6 long pms s nl → nl ≠ d2 → NtsAt (upd H6 d2 (.lst (gs ++ [.ref x]))) long pms s nl := fun h hne => by
              obtain ⟨ns, u1, u2, u3⟩ := h
              refine ⟨ns, by rw [upd_ne hne]; exact u1, u2, fun k pm hk => ?_⟩
              obtain ⟨q2, v1, v2⟩ := u3 k pm hk
              exact ⟨q2, v1, tupK hd26 v2⟩
            rcases Nat.lt_or_ge s i with h | h
            · obtain ⟨g, dx9, nl, m1, m2, m3, m4, m5, m7, m6⟩ := hg s h
              have hsi : s ≠ i := by omega
              dsimp only
              rw [if_neg hsi]
              refine ⟨g, dx9, nl, by rw [List.getElem?_append_left (by omega)]; exact m1, ?_, ?_, up ((m4.mono e4).mono e6) m5, m5, m7, m6⟩
              · rw [upd_ne (fun z => by rw [z, hd2] at m2; cases m2)]
                exact e6 _ _ (e4 _ _ m2)
              · rw [upd_ne (fun z => by rw [z, hd2] at m3; cases m3)]
                exact e6 _ _ (e4 _ _ m3)
            · obtain rfl : s = i := by omega
              dsimp only
              rw [if_pos rfl]
              refine ⟨x, dx, d3, by rw [List.getElem?_append_right (by omega), hgl, Nat.sub_self]; rfl, by rw [upd_ne hxd2]; exact hx6, by rw [upd_ne hsd2]; exact hs6, up (hnt4.mono e6) h32, h32, Evl.fresh_back e3 nd3, Evl.fresh_back e3 ns23⟩
          · have old : ∀ s, s < i → sd s ≠ sd2 := fun s h z => by
              obtain ⟨g, dx9, nl, m1, m2, m3, _⟩ := hg s h
              rw [z, ns23] at m3
              cases m3
            dsimp only at he
            by_cases c1 : s = i
            · by_cases c2 : s' = i
              · omega
              · rw [if_pos c1, if_neg c2] at he
                exact absurd he.symm (old s' (by omega))
            · by_cases c2 : s' = i
              · rw [if_neg c1, if_pos c2] at he
                exact absurd he (old s (by omega))
              · rw [if_neg c1, if_neg c2] at he
                exact hinj s s' (by omega) (by omega) he
      · obtain ⟨e3, gs, sd, hd2, hgl, hg, hinj⟩ := hI
        refine q d2 gs H'' (Evl.fresh_back e2 nd2) (e2.trans e3) hd2 ⟨hgl, sd, fun s hs => ?_, hinj⟩
        obtain ⟨g, dx9, nl, m1, m2, m3, m4, m5, m7, m6⟩ := hg s hs
        exact ⟨g, dx9, pl, nl, m1, m2, m3, m4, Evl.fresh_back e2 m7, Evl.fresh_back e2 m6, rfl⟩
end
end Pk
set_option Elab.async false
set_option linter.all false
set_option maxRecDepth 100000
set_option maxHeartbeats 4000000
set_option autoImplicit false
namespace Pk
open PySem PySem.Spec PyProof.Rows L2
open C8 (Cal Met Mak pe_c pe_mk pe_mt pe_mt0 pe_gc)
section
variable {P : Program} {w : World} {K : PySem.W.Frag} {mg : Str → Option Value} {base : Heap} {CG CP upA : Addr}
/-! ### sieved -/
theorem GlAt.raw {H : Hp} {long n s : Nat} {pms : List PM} {g sd dx pl nl : Addr} (hP : PilsAt CP H long n pms pl) (h1 : H g = some (.ins CG dx (GlFs pl nl s sd))) (h2 : H sd = some (.dK [])) (h3 : NtsAt H long pms s nl) : GlAt CG CP H long n pms s g sd [] :=
  ⟨dx, pl, nl, [], h1, hP, h3, h2, rfl, fun p h => by cases h⟩
theorem fm_snoc {α : Type} (f : Nat → List α) (i : Nat) : (List.range (i + 1)).flatMap f = (List.range i).flatMap f ++ f i := by
  rw [List.range_succ, List.flatMap_append]
  simp
theorem fm_len {α : Type} {f : Nat → List α} {b : Nat} : ∀ {i : Nat}, (∀ s, s < i → (f s).length ≤ b) → ((List.range i).flatMap f).length ≤ i * b
  | 0, _ => Nat.zero_le _
  | i + 1, h => by
    have h1 := fm_len (i := i) fun s hs => h s (by omega)
    have h2 := h i (by omega)
    rw [fm_snoc, List.length_append, Nat.succ_mul]
    omega
/-- the glances that are still as they were made -/
structure GlRest (CG PL : Addr) (H : Hp) (long n : Nat) (pms : List PM) (gs : List V) (sd : Nat → Addr) (i : Nat) (ms : List Addr) : Prop where
  ex : ∀ s, i ≤ s → s < nSt long n → ∃ g dx nl, gs[s]? = some (.ref g) ∧ H g = some (.ins CG dx (GlFs PL nl s (sd s))) ∧ H (sd s) = some (.dK []) ∧ NtsAt H long pms s nl ∧ nl ∉ ms
theorem GlRest.mono {PL : Addr} {H H' : Hp} {long n i : Nat} {pms : List PM} {gs : List V} {sd : Nat → Addr} {ms : List Addr} (h : GlRest CG PL H long n pms gs sd i ms) (e : Ex H H') : GlRest CG PL H' long n pms gs sd i ms := ⟨fun s h1 h2 => by
  obtain ⟨g, dx, nl, g1, g2, g3, g4, g5⟩ := h.ex s h1 h2
  exact ⟨g, dx, nl, g1, e _ _ g2, e _ _ g3, g4.mono e, g5⟩⟩
theorem GlRest.next {PL : Addr} {H : Hp} {long n i : Nat} {pms : List PM} {gs : List V} {sd : Nat → Addr} {ms : List Addr} (h : GlRest CG PL H long n pms gs sd i ms) : GlRest CG PL H long n pms gs sd (i + 1) ms := ⟨fun s h1 h2 => h.ex s (by omega) h2⟩
theorem GlRest.dict {PL : Addr} {H H' : Hp} {long n i : Nat} {pms : List PM} {gs : List V} {sd : Nat → Addr} {ms : List Addr} {kvs : List (Key × V)} (h : GlRest CG PL H long n pms gs sd (i + 1) ms) (e : ExB (sd i) H H') (hd : H (sd i) = some (.dK kvs)) (hi : i < nSt long n) (inj : ∀ s s', s < nSt long n → s' < nSt long n → sd s = sd s' → s = s') : GlRest CG PL H' long n pms gs sd (i + 1) ms := ⟨fun s h1 h2 => by
  obtain ⟨g, dx, nl, g1, g2, g3, g4, g5⟩ := h.ex s h1 h2
  exact ⟨g, dx, nl, g1, e _ _ (fun z => by rw [z, hd] at g2; cases g2) g2, e _ _ (fun z => by
    have := inj s i h2 hi z
    omega) g3, g4.monoD e hd, g5⟩⟩
/-- a list of ours grows -/
theorem GlRest.list {PL m : Addr} {H : Hp} {long n i : Nat} {pms : List PM} {gs : List V} {sd : Nat → Addr} {ms : List Addr} {xs ys : List V} (h : GlRest CG PL H long n pms gs sd i ms) (hm : m ∈ ms) (hx : H m = some (.lst xs)) : GlRest CG PL (upd H m (.lst ys)) long n pms gs sd i ms := ⟨fun s h1 h2 => by
  obtain ⟨g, dx, nl, g1, g2, g3, g4, g5⟩ := h.ex s h1 h2
  refine ⟨g, dx, nl, g1, ?_, ?_, ?_, g5⟩
  · rw [upd_ne (fun z => by rw [z, hx] at g2; cases g2)]
    exact g2
  · rw [upd_ne (fun z => by rw [z, hx] at g3; cases g3)]
    exact g3
  · obtain ⟨ns, u1, u2, u3⟩ := g4
    refine ⟨ns, by rw [upd_ne (fun z => g5 (by rw [z]; exact hm))]; exact u1, u2, fun k pm hk => ?_⟩
    obtain ⟨q, v1, v2⟩ := u3 k pm hk
    exact ⟨q, v1, tupK hx v2⟩⟩
def sp_sieved (K : PySem.W.Frag) (CG CP : Addr) (d : Nat) : Sp := fun vs H Q _ => ∃ (pl ta : Addr) (long n : Nat) (pms : List PM) (t : RT), vs = [.ref pl, .ref ta] ∧ PilsAt CP H long n pms pl ∧ GAll long n pms ∧ RTAt K H t ta ∧ RFit (kdsOf pms) t ∧ t.dep < d ∧ 2 ^ (t.dep + 1) ≤ 800 ∧
  ∀ p m r xs H2, Ex H H2 → H2 m = some (.lst ((maskM pms long n t).map bI)) → H2 r = some (.lst xs) → PairsAt H2 (pairM pms long n t) xs → H2 p = some (.tup [.ref m, .ref r]) → Q (.ref p) H2
theorem ok_sieved (T : Gf K mg CG CP upA) (D : Dfn K mg "sieved" s_sieved) (c_glances : Cal P w K mg base 3 "glances" (sp_glances K CG CP) []) (d : Nat) (c_Glance_bits : Met P w K mg base (13 + d) CG "bits" (sp_Glance_bits K CG CP d) []) (c_Glance_places_seen : Met P w K mg base 1 CG "places_seen" (sp_Glance_places_seen K CG CP) []) : Cal P w K mg base (13 + d + 1) "sieved" (sp_sieved K CG CP d) [] := by
  refine cal_mk D sc_sieved (fun _ _ _ _ _ _ us hl => match us, hl with | [_, _], _ => rfl) (fun vs H Q E h => ?_) (fun f cdv A outer s H vs Q E hr h => ?_)
  · obtain ⟨_, _, _, _, _, _, rfl, _⟩ := h; rfl
  · obtain ⟨pl, ta, long, n, pms, t, rfl, hP, ga, hta, hf, hd, hpw, q⟩ := h
    refine ⟨_, pss_cons (ps_set (i := 2) sc_sieved.nd rfl (Or.inl rfl) (pe_lst (pa_nil)))
      (pss_cons (ps_set (i := 3) sc_sieved.nd rfl (Or.inl rfl) (pe_lst (pa_nil)))
      (pss_cons (ps_for PassesOwn.never rfl (pi_list (pe_c c_glances hr (by omega) (by rfl) (pa_cons (pv 0) pa_nil))) (pg_name (i := 4) sc_sieved.nd rfl (Or.inl rfl))
        (pss_cons (ps_expr (pe_bm PySem.F.plainAttrs_list PySem.F.slot_list_extend PySem.F.type_list_extend mt_extend (pv 2) (pa_cons (pe_mt c_Glance_bits hr (by omega) (pv 4) (pa_cons (pv 1) pa_nil)) pa_nil)))
        (pss_one (ps_expr (pe_bm PySem.F.plainAttrs_list PySem.F.slot_list_extend PySem.F.type_list_extend mt_extend (pv 3) (pa_cons (pe_mt0 c_Glance_places_seen hr (by omega) (pv 4)) pa_nil))))))
      (pss_one (ps_ret (pe_tup (pa_cons (pv 2) (pa_cons (pv 3) pa_nil))))))), ?_⟩
    have hns := ga.ns
    have hslen : ∀ s, (seenM pms long n s t []).length ≤ 800 := fun s => by
      have := seen_len (pms := pms) (long := long) (n := n) (s := s) (t := t) (S := [])
      rw [List.length_nil] at this
      omega
    have hblen : ∀ s, (bitS pms long n s t).length ≤ 64 := fun s => by
      rw [bit_len]
      exact Nat.le_trans (Nat.min_le_left ..) ga.l2
    refine ⟨Nat.zero_le _, fun m nm => ?_⟩
    have e1 := Ex.n (o := .lst []) nm
    refine ⟨Nat.zero_le _, fun r nr => ?_⟩
    have hmr : m ≠ r := ne_of_none upd_same nr
    have e2 := e1.trans (Ex.n (o := .lst []) nr)
    have hm2 : (upd (upd H m (.lst [])) r (.lst [])) m = some (.lst []) := by
      rw [upd_ne hmr]
      exact upd_same
    have nr0 : H r = none := Evl.fresh_back e1 nr
    refine ⟨_, rfl, pl, long, n, pms, rfl, hP.mono e2, ga, fun p0 gs H2 np0 e3 hp0 hgs => ?_⟩
    have hm3 := e3 _ _ hm2
    have hr3 := e3 _ _ (show (upd (upd H m (.lst [])) r (.lst [])) r = some (.lst []) from upd_same)
    have e23 := e2.trans e3
    obtain ⟨hgl, sd, hg, hinj⟩ := hgs
    have hsd0 : ∀ s, s < nSt long n → H (sd s) = none := fun s hs => by
      obtain ⟨g, dx, pl', nl, g1, g2, g3, g4, g5, g6, e9⟩ := hg s hs
      exact Evl.fresh_back e2 g6
    have hR0 : GlRest CG pl H2 long n pms gs sd 0 [m, r] := ⟨fun s _ hs => by
      obtain ⟨g, dx, pl', nl, g1, g2, g3, g4, g5, g6, e9⟩ := hg s hs
      refine ⟨g, dx, nl, g1, by rw [e9]; exact g2, g3, g4, fun z => ?_⟩
      rcases List.mem_cons.mp z with z | z
      · rw [z, hm2] at g5; cases g5
      · rw [List.mem_singleton.mp z, upd_same] at g5; cases g5⟩
    have hgmr : p0 ≠ m ∧ p0 ≠ r := ⟨(fun z => by rw [z, hm2] at np0; cases np0), (fun z => by rw [z, upd_same] at np0; cases np0)⟩
    refine ⟨_, rfl, ⟨_, lsOf hp0⟩, for_it walk_list (fun i σ' H' => Ex H H' ∧ H' p0 = some (.lst gs) ∧ H' m = some (.lst (((List.range i).flatMap fun s => bitS pms long n s t).map bI)) ∧ (∃ xs, H' r = some (.lst xs) ∧ PairsAt H' ((List.range i).flatMap fun s => (seenM pms long n s t []).map fun p => (p, s)) xs) ∧ GlRest CG pl H' long n pms gs sd i [m, r] ∧ ∃ y4, σ' = [some (.ref pl), some (.ref ta), some (.ref m), some (.ref r), y4])
      ⟨e23, hp0, hm3, ⟨[], hr3, PairsAt.nil⟩, hR0, none, rfl⟩ (fun i σ' H' _ hI => lsOf hI.2.1) (fun i x σ' H' H3 hi hI hy => ?_) (fun σ' H' hI => ?_)⟩
    · obtain ⟨e4, hp4, hm4, ⟨xs, hr4, hxs⟩, hR, y4, rfl⟩ := hI
      obtain ⟨rfl, hx⟩ := hy
      have hin : i < nSt long n := by omega
      obtain ⟨g, dx, nl, g1, g2, g3, g4, g5⟩ := hR.ex i (Nat.le_refl _) hin
      obtain rfl : x = .ref g := Option.some.inj (hx.symm.trans g1)
      have hG := GlAt.raw (hP.mono e4) g2 g3 g4
      refine ⟨_, rfl, .inl ⟨rfl, _, .inl (.inl hm4)⟩, _, rfl, _, _, _, rfl, g2, rfl, _, rfl, g, sd i, ta, long, n, i, pms, [], t, rfl, hG, ga.at hin, by rw [List.length_nil]; omega, hta.ex e4, hf, hd, fun p5 H5 b5 hG5 hp5 => ?_⟩
      have hmsd : ∀ {a : Addr} {o : HO}, H3 a = some o → (∀ k, o ≠ .dK k) → H5 a = some o := fun h hne => b5 _ _ (fun z => by
        rw [z, g3] at h
        exact hne _ (Option.some.inj h).symm) h
      have hm5 := hmsd hm4 (fun _ z => by cases z)
      have hr5 := hmsd hr4 (fun _ z => by cases z)
      have hp05 := hmsd hp4 (fun _ z => by cases z)
      have e5 : Ex H H5 := fun a o h => b5 a o (ne_of_none h (hsd0 i hin)) (e4 _ _ h)
      have hR5 := hR.next.dict b5 g3 hin hinj
      have hml : (((List.range i).flatMap fun s => bitS pms long n s t).map bI).length ≤ 6400 := by
        rw [List.length_map]
        have := fm_len (f := fun s => bitS pms long n s t) (b := 64) (i := i) fun s _ => hblen s
        omega
      have hb64 := hblen i
      refine ⟨_, _, _, _, rfl, rfl, hm5, hp5, sml (by simp only [List.length_map] at hml ⊢; omega), ?_⟩
      have emask : ((List.range i).flatMap fun s => bitS pms long n s t).map bI ++ (bitS pms long n i t).map bI = ((List.range (i + 1)).flatMap fun s => bitS pms long n s t).map bI := by
        rw [fm_snoc, List.map_append]
      have emask2 : HO.lst (((List.range i).flatMap fun s => bitS pms long n s t).map bI ++ (bitS pms long n i t).map bI) = HO.lst (((List.range (i + 1)).flatMap fun s => bitS pms long n s t).map bI) := congrArg HO.lst emask
      rw [emask2]
      have hR6 := hR5.list (m := m) (ys := ((List.range (i + 1)).flatMap fun s => bitS pms long n s t).map bI) (by simp) hm5
      have e6 : Ex H (upd H5 m (.lst (((List.range (i + 1)).flatMap fun s => bitS pms long n s t).map bI))) := e5.mut nm
      have hm6 : (upd H5 m (.lst (((List.range (i + 1)).flatMap fun s => bitS pms long n s t).map bI))) m = some (.lst (((List.range (i + 1)).flatMap fun s => bitS pms long n s t).map bI)) := upd_same
      have hr6 : (upd H5 m (.lst (((List.range (i + 1)).flatMap fun s => bitS pms long n s t).map bI))) r = some (.lst xs) := by
        rw [upd_ne hmr.symm]
        exact hr5
      have hp06 : (upd H5 m (.lst (((List.range (i + 1)).flatMap fun s => bitS pms long n s t).map bI))) p0 = some (.lst gs) := by
        rw [upd_ne hgmr.1]
        exact hp05
      have hxs6 : PairsAt (upd H5 m (.lst (((List.range (i + 1)).flatMap fun s => bitS pms long n s t).map bI))) ((List.range i).flatMap fun s => (seenM pms long n s t []).map fun p => (p, s)) xs := hxs.keep fun p ys h => tupK hm5 (hmsd h (fun _ z => by cases z))
      -- the glance read
      obtain ⟨dx5, pl5, nl5, kv5, w1, w2, w3, w4, w5, w6⟩ := hG5.ex
      have hg6 : (upd H5 m (.lst (((List.range (i + 1)).flatMap fun s => bitS pms long n s t).map bI))) g = some (.ins CG dx5 (GlFs pl5 nl5 i (sd i))) := by
        rw [upd_ne (fun z => by rw [z, hm5] at w1; cases w1)]
        exact w1
      have hsd6 : (upd H5 m (.lst (((List.range (i + 1)).flatMap fun s => bitS pms long n s t).map bI))) (sd i) = some (.dK kv5) := by
        rw [upd_ne (fun z => by rw [z, hm5] at w4; cases w4)]
        exact w4
      generalize upd H5 m (.lst (((List.range (i + 1)).flatMap fun s => bitS pms long n s t).map bI)) = H6 at *
      have hmany : (seenM pms long n i t []).length ≤ 1000 := Nat.le_trans (hslen i) (by decide)
      refine ⟨_, rfl, .inl ⟨rfl, _, .inl (.inl hr6)⟩, _, rfl, _, _, _, rfl, hg6, rfl, g, sd i, i, seenM pms long n i t [], kv5, dx5, pl5, nl5, rfl, hg6, hsd6, w5, hmany, fun p7 ys H7 np7 e7 hp7 hys => ?_⟩
      have hxl := hxs6.1
      have hpl := fm_len (f := fun s => (seenM pms long n s t []).map fun p => (p, s)) (b := 800) (i := i) fun s _ => by rw [List.length_map]; exact hslen s
      have hyl := hys.1
      have := hslen i
      rw [List.length_map] at hyl
      have hr7 := e7 _ _ hr6
      refine ⟨_, _, _, _, rfl, rfl, hr7, hp7, sml (by omega), (e6.trans e7).mut nr0, ?_, ?_, ⟨xs ++ ys, upd_same, ?_⟩, (hR6.mono e7).list (by simp) hr7, _, rfl⟩
      · rw [upd_ne hgmr.2]
        exact e7 _ _ hp06
      · rw [upd_ne hmr]
        exact e7 _ _ hm6
      · rw [fm_snoc]
        exact ((hxs6.keep fun p zs h => e7 _ _ h).app hys).keep fun p zs h => tupK hr7 h
    · obtain ⟨e4, hp4, hm4, ⟨xs, hr4, hxs⟩, hR, y4, rfl⟩ := hI
      rw [hgl] at hm4 hxs
      refine ⟨_, rfl, _, rfl, Nat.le_of_ble_eq_true rfl, fun p5 np5 => ?_⟩
      have e5 := Ex.n (o := .tup [.ref m, .ref r]) np5
      exact q p5 m r xs _ (e4.trans e5) (e5 _ _ hm4) (e5 _ _ hr4) (hxs.keep fun p ys h => e5 _ _ h) upd_same
end
end Pk
set_option Elab.async false
set_option linter.all false
set_option maxRecDepth 100000
set_option maxHeartbeats 4000000
set_option autoImplicit false
namespace Pk
open PySem PySem.Spec PyProof.Rows L2
open C8 (Cal Met Mak pe_c pe_mk pe_mt pe_mt0 pe_gc)
section
variable {P : Program} {w : World} {K : PySem.W.Frag} {mg : Str → Option Value} {base : Heap} {CG CP upA : Addr}
/-! ### rows_picked, picked -/
def RowsAt (H : Hp) (rows : List (List V)) (xs : List V) : Prop := xs.length = rows.length ∧ ∀ (i : Nat) (r : List V), rows[i]? = some r → ∃ q, xs[i]? = some (.ref q) ∧ H q = some (.tup r)
theorem RowsAt.keep {H H' : Hp} {ps : List (List V)} {xs : List V} (h : RowsAt H ps xs) (e : ∀ p ys, H p = some (.tup ys) → H' p = some (.tup ys)) : RowsAt H' ps xs := ⟨h.1, fun i r hr => by
  obtain ⟨p, h1, h2⟩ := h.2 i r hr
  exact ⟨p, h1, e _ _ h2⟩⟩
theorem RowsAt.app {H : Hp} {ps qs : List (List V)} {xs ys : List V} (h : RowsAt H ps xs) (g : RowsAt H qs ys) : RowsAt H (ps ++ qs) (xs ++ ys) := by
  refine ⟨by rw [List.length_append, List.length_append, h.1, g.1], fun i p hp => ?_⟩
  rcases Nat.lt_or_ge i ps.length with hi | hi
  · rw [List.getElem?_append_left hi] at hp
    rw [List.getElem?_append_left (by rw [h.1]; exact hi)]
    exact h.2 i p hp
  · rw [List.getElem?_append_right hi] at hp
    rw [List.getElem?_append_right (by rw [h.1]; exact hi), h.1]
    exact g.2 _ p hp
theorem RowsAt.one {H : Hp} {r : List V} {q : Addr} (h : H q = some (.tup r)) : RowsAt H [r] [.ref q] := ⟨rfl, fun i r hr => by
  cases i with
  | zero => obtain rfl := Option.some.inj hr; exact ⟨q, rfl, h⟩
  | succ i => cases hr⟩
theorem RowsAt.nil {H : Hp} : RowsAt H [] [] := ⟨rfl, fun i r hr => by cases hr⟩
/-- the rows that bits tell -/
def pickR (l : List Bool) (f : Nat → List V) (k : Nat) : List (List V) := ((List.range k).filter fun j => (l[j]?).getD false).map f
theorem pickR_succ (l : List Bool) (f : Nat → List V) (k : Nat) : pickR l f (k + 1) = pickR l f k ++ if (l[k]?).getD false = true then [f k] else [] := by
  unfold pickR
  rw [List.range_succ, List.filter_append, List.map_append]
  congr 1
  rw [List.filter_cons]
  split <;> rfl
theorem pickR_len (l : List Bool) (f : Nat → List V) (k : Nat) : (pickR l f k).length ≤ k := by
  unfold pickR
  rw [List.length_map]
  exact Nat.le_trans (List.length_filter_le _ _) (by rw [List.length_range]; exact Nat.le_refl _)
theorem row_get {pms : List PM} {k j : Nat} (h : j < pms.length) : (rowS pms k)[j]? = some (cel (rowS pms k) j) := by
  rw [cel_row h]
  unfold rowS
  rw [List.getElem?_map, pm_at h]
  rfl
theorem row_len (pms : List PM) (k : Nat) : (rowS pms k).length = pms.length := List.length_map ..
def rngV (m : Nat) : List V := (List.range m).map fun i : Nat => V.int (i : Int)
theorem rng_get {m i : Nat} {x : V} (h : (rngV m)[i]? = some x) : i < m ∧ x = .int (i : Int) := by
  unfold rngV at h
  rw [List.getElem?_map] at h
  rcases Nat.lt_or_ge i m with hi | hi
  · rw [List.getElem?_range hi] at h
    exact ⟨hi, (Option.some.inj h).symm⟩
  · rw [List.getElem?_eq_none (by rw [List.length_range]; exact hi)] at h
    cases h
theorem dec_bI (b : Bool) : decide (bI b = V.int 1) = b := by cases b <;> decide
def sp_rows_picked (K : PySem.W.Frag) (CG CP : Addr) : Sp := fun vs H Q _ => ∃ (g sd bl ql : Addr) (long n s : Nat) (pms : List PM) (l : List Bool), vs = [.ref g, .ref bl, .ref ql] ∧ GlAt CG CP H long n pms s g sd [] ∧ GOk long n pms s ∧ SqL K H bl (l.map bI) ∧ l.length = szS long n s ∧ SqL K H ql (rngV pms.length) ∧
  ∀ p xs S' H2, ExB sd H H2 → GlAt CG CP H2 long n pms s g sd S' → S'.length ≤ 8 → H2 p = some (.lst xs) → RowsAt H2 (pickR l (fun i => rowS pms (s * long + i)) l.length) xs → Q (.ref p) H2
theorem ok_rows_picked (T : Gf K mg CG CP upA) (D : Dfn K mg "rows_picked" s_rows_picked) (c_Glance_had : Met P w K mg base 11 CG "had" (sp_Glance_had K CG CP) []) : Cal P w K mg base 12 "rows_picked" (sp_rows_picked K CG CP) [] := by
  refine cal_mk D sc_rows_picked (fun _ _ _ _ _ _ us hl => match us, hl with | [_, _, _], _ => rfl) (fun vs H Q E h => ?_) (fun f cdv A outer s H vs Q E hr h => ?_)
  · obtain ⟨_, _, _, _, _, _, _, _, _, rfl, _⟩ := h; rfl
  · obtain ⟨g, sd, bl, ql, long, n, s', pms, l, rfl, hG, ok, hbl, hlen, hql, q⟩ := h
    refine ⟨_, pss_cons (ps_set (i := 3) sc_rows_picked.nd rfl (Or.inr rfl) (pe_lc (own := [("place", 4)]) (g := gName 4) (tt := tYes) (by rfl) sc_rows_picked.nd (pi_list (pv 2)) (blkOk_by (N := N_rows_picked) (sc := defScope s_rows_picked) (by decide +kernel)) (fun _ _ _ _ _ => pg_name (i := 4) sc_rows_picked.nd rfl (Or.inl rfl)) (fun _ _ _ _ _ => pts_nil) (fun _ _ _ _ _ => pe_mt c_Glance_had hr (by decide) (pv 0) (pa_cons (pv 4) pa_nil))))
      (pss_one (ps_ret (pe_lc (own := [("k", 5), ("bit", 6)]) (g := gTup K 2 _) (te := (tCB (rTupS K) (tCons (tLc (iList K _) _ tYes (tOp (rIxL K) _ _) _) tNil))) (by rfl) sc_rows_picked.nd (pi_enum (by rfl) T.enumerate (pa_cons (pv 1) pa_nil)) (blkOk_by (N := N_rows_picked) (sc := defScope s_rows_picked) (by decide +kernel)) (fun _ _ _ _ _ => pg_tup (by rfl) (pgs_cons (pg_name (i := 5) sc_rows_picked.nd rfl (Or.inr rfl)) (pgs_cons (pg_name (i := 6) sc_rows_picked.nd rfl (Or.inl rfl)) pgs_nil))) (fun _ _ _ _ _ => pts_one (pt_cmpR op_eq (pv 6) (pe_int) (nomark _))) (fun _ _ _ _ _ => pe_callTy call_tuple_of (by rfl) T.tuple (by decide +kernel) (pa_cons (pe_lc (own := [("column", 7)]) (g := gName 7) (tt := tYes) (te := (tOp (rIxL K) _ _)) (by rfl) sc_rows_picked.nd (pi_list (pv 3)) (blkOk_by (by kernel_rfl)) (fun _ _ _ _ _ => pg_name (i := 7) sc_rows_picked.nd rfl (Or.inl rfl)) (fun _ _ _ _ _ => pts_nil) (fun _ _ _ _ _ => pe_ix ix_list (pv 7) (pv 5) (fun _ _ => rfl))) pa_nil))))), ?_⟩
    obtain ⟨dx, pl, nl, kvs0, h1, h2, h3, h4, h5, h6⟩ := hG.ex
    have hp8 := ok.p2
    have hszl := ok.szl
    refine ⟨_, rfl, _, rfl, ⟨_, hql⟩, fun d nd => ?_⟩
    have hdsd : d ≠ sd := fun z => by rw [z, h4] at nd; cases nd
    refine lc_it walk_list (fun i H' => ExB sd H H' ∧ ∃ cols kvs, H' d = some (.lst cols) ∧ cols.length = i ∧ H' sd = some (.dK kvs) ∧ kvs.map Prod.fst = (List.range i).map (fun p : Nat => (Sum.inl (p : Int) : Key)) ∧
      ∀ j, j < i → ∃ lj, cols[j]? = some (.ref lj) ∧ valV kvs (.inl (j : Int)) = some (.ref lj) ∧ H' lj = some (.lst (stP pms long s' j)) ∧ lj ≠ d)
      ⟨(ExB.r sd H).new nd, [], kvs0, upd_same, rfl, by rw [upd_ne hdsd.symm]; exact h4, h5, fun j h => absurd h (Nat.not_lt_zero _)⟩ (fun i H' hi hI => exD_L hql hI.1 h4) (fun i x H' H2 hi hI hy => ?_) (fun H' hI => ?_)
    · obtain ⟨e2, cols, kvs, hd, hcl, hk, hkeys, hcols⟩ := hI
      obtain ⟨rfl, hx⟩ := hy
      obtain ⟨him, rfl⟩ := rng_get hx
      have hG2 : GlAt CG CP H2 long n pms s' g sd (List.range i) := ⟨dx, pl, nl, kvs, e2 _ _ (fun z => by rw [z, h4] at h1; cases h1) h1, h2.monoD e2 h4, h3.monoD e2 h4, hk, hkeys, fun p hp => by
        obtain ⟨lj, u1, u2, u3, u4⟩ := hcols p (List.mem_range.mp hp)
        exact ⟨lj, u2, u3⟩⟩
      obtain ⟨dx2, pl2, nl2, _, w1, _⟩ := hG2.ex
      refine ⟨rfl, ?_⟩
      refine ⟨_, rfl, _, _, _, rfl, w1, rfl, _, rfl, g, sd, _, long, n, s', i, pms, List.range i, rfl, rfl, him, hG2, ok, by rw [List.length_range]; omega, fun lj H3 b3 hG3 hlj hnew => ?_⟩
      obtain ⟨u1, u2⟩ := hnew kvs hk (by simp)
      have hd3 := b3 _ _ hdsd hd
      have hljd : lj ≠ d := fun z => by rw [z, hd] at u1; cases u1
      refine ⟨cols, hd3, smlt (by omega), (e2.trans b3).new nd, cols ++ [.ref lj], kvs ++ [(.inl (i : Int), .ref lj)], upd_same, by rw [List.length_append, hcl]; rfl, by rw [upd_ne hdsd.symm]; exact u2, ?_, fun j hj => ?_⟩
      · rw [List.map_append, hkeys, List.range_succ, List.map_append]
        rfl
      · rcases Nat.lt_or_ge j i with h | h
        · obtain ⟨l9, v1, v2, v3, v4⟩ := hcols j h
          exact ⟨l9, by rw [List.getElem?_append_left (by omega)]; exact v1, val_app v2, by rw [upd_ne v4]; exact b3 _ _ (fun z => by rw [z, hk] at v3; cases v3) v3, v4⟩
        · obtain rfl : j = i := by omega
          refine ⟨lj, by rw [List.getElem?_append_right (by omega), hcl, Nat.sub_self]; rfl, val_new (val_none hkeys (by simp)), by rw [upd_ne hljd]; exact hlj, hljd⟩
    · obtain ⟨e2, cols, kvs, hd, hcl, hk, hkeys, hcols⟩ := hI
      have hlr : (rngV pms.length).length = pms.length := by unfold rngV; rw [List.length_map, List.length_range]
      rw [hlr] at hcl hkeys hcols
      have hG2 : GlAt CG CP H' long n pms s' g sd (List.range pms.length) := ⟨dx, pl, nl, kvs, e2 _ _ (fun z => by rw [z, h4] at h1; cases h1) h1, h2.monoD e2 h4, h3.monoD e2 h4, hk, hkeys, fun p hp => by
        obtain ⟨lj, u1, u2, u3, u4⟩ := hcols p (List.mem_range.mp hp)
        exact ⟨lj, u2, u3⟩⟩
      refine ⟨_, rfl, _, _, rfl, exD_L hbl e2 h4, fun d2 nd2 => ?_⟩
      refine lc_it walk_enum (fun i H'' => Ex H' H'' ∧ ∃ xs, H'' d2 = some (.lst xs) ∧ RowsAt H'' (pickR l (fun i => rowS pms (s' * long + i)) i) xs) ⟨Ex.n nd2, [], upd_same, RowsAt.nil⟩ (fun i H'' hi hI => exL (exD_L hbl e2 h4) hI.1) (fun i x H'' H3 hi hI hy => ?_) (fun H'' hI => ?_)
      · obtain ⟨e3, xs, hd2, hxs⟩ := hI
        obtain ⟨T', x1, y1, rfl, nT', rfl, hx1, hy1⟩ := hy
        obtain rfl := Option.some.inj hx1
        obtain ⟨b, hb, rfl⟩ := getB hy1
        have hil : i < szS long n s' := by rw [← hlen]; exact lt_of_at hb
        have hxl := hxs.1
        have hpl := pickR_len l (fun i => rowS pms (s' * long + i)) i
        have eT := Ex.n (o := .tup [V.int ((i : Nat) : Int), bI b]) nT'
        have hd2T := eT _ _ hd2
        refine ⟨_, _, rfl, tpOf upd_same, rfl, _, _, rfl, _, _, rfl, rfl, rfl, ?_⟩
        refine ⟨_, rfl, rfl, _, rfl, ?_⟩
        have hdec : decide (bI b = V.int 1) = b := dec_bI b
        refine ifB (fun hb1 => ?_) (fun hb1 => ?_)
        · have hbt : b = true := hdec.symm.trans hb1
          refine ⟨_, rfl, _, rfl, ⟨_, lsOf (eT _ _ (e3 _ _ hd))⟩, fun d3 nd3 => ?_⟩
          refine lc_it walk_list (fun j H4 => Ex (upd H'' T' (.tup [V.int ((i : Nat) : Int), bI b])) H4 ∧ H4 d3 = some (.lst ((rowS pms (s' * long + i)).take j))) ⟨Ex.n nd3, upd_same⟩ (fun j H4 hj hJ => lsOf (hJ.1 _ _ (eT _ _ (e3 _ _ hd)))) (fun j x H4 H5 hj hJ hy => ?_) (fun H4 hJ => ?_)
          · obtain ⟨e4, hd3⟩ := hJ
            obtain ⟨rfl, hx⟩ := hy
            have hjm : j < pms.length := by rw [← hcl]; exact hj
            obtain ⟨lj, v1, v2, v3, v4⟩ := hcols j hjm
            obtain rfl : x = .ref lj := Option.some.inj (hx.symm.trans v1)
            refine ⟨rfl, ?_⟩
            refine ⟨_, rfl, _, rfl, _, _, _, _, rfl, rfl, lsOf (e4 _ _ (eT _ _ (e3 _ _ v3))), at_k (st_get ok hjm hil) rfl, ?_⟩
            refine ⟨_, hd3, smlt (by rw [List.length_take]; omega), e4.mut nd3, ?_⟩
            rw [upd_same, List.take_add_one, row_get hjm]
            rfl
          · obtain ⟨e4, hd3⟩ := hJ
            rw [List.take_of_length_le (by rw [row_len, hcl]; exact Nat.le_refl _)] at hd3
            refine ⟨_, _, rfl, .inl ⟨lsOf hd3, fun p4 np4 => ?_⟩⟩
            have e5 := e4.trans (Ex.n (o := .tup (rowS pms (s' * long + i))) np4)
            have hd25 := e5 _ _ hd2T
            refine ⟨xs, hd25, smlt (by omega), ((e3.trans eT).trans e5).mut nd2, xs ++ [.ref p4], upd_same, ?_⟩
            rw [pickR_succ, hb, hbt]
            exact (hxs.keep fun p ys h => tupK hd25 (e5 _ _ (eT _ _ h))).app (RowsAt.one (tupK hd25 upd_same))
        · have hbf : b = false := hdec.symm.trans hb1
          refine ⟨e3.trans eT, xs, hd2T, ?_⟩
          rw [pickR_succ, hb, hbf]
          show RowsAt _ (pickR l (fun i => rowS pms (s' * long + i)) i ++ []) xs
          rw [List.append_nil]
          subst hbf
          exact hxs.keep fun p ys h => eT _ _ h
      · obtain ⟨e3, xs, hd2, hxs⟩ := hI
        rw [List.length_map] at hxs
        exact q d2 xs _ H'' (e2.trans (.of e3)) (hG2.mono e3) (by rw [List.length_range]; exact hp8) hd2 hxs
end
end Pk
set_option Elab.async false
set_option linter.all false
set_option maxRecDepth 100000
set_option maxHeartbeats 4000000
set_option autoImplicit false
namespace Pk
open PySem PySem.Spec PyProof.Rows L2
open C8 (Cal Met Mak pe_c pe_mk pe_mt pe_mt0 pe_gc)
section
variable {P : Program} {w : World} {K : PySem.W.Frag} {mg : Str → Option Value} {base : Heap} {CG CP upA : Addr}
/-! ### picked -/
theorem pickR_add (mask : List Bool) (f : Nat → List V) (a m : Nat) (l : List Bool) (hl : ∀ j, j < m → l[j]? = mask[a + j]?) : pickR mask f (a + m) = pickR mask f a ++ pickR l (fun j => f (a + j)) m := by
  unfold pickR
  rw [List.range_add, List.filter_append, List.map_append, List.filter_map, List.map_map]
  congr 1
  have : (List.range m).filter ((fun j => (mask[j]?).getD false) ∘ (fun x => a + x)) = (List.range m).filter fun j => (l[j]?).getD false := by
    refine List.filter_congr fun j hj => ?_
    show (mask[a + j]?).getD false = (l[j]?).getD false
    rw [hl j (List.mem_range.mp hj)]
  rw [this]
  rfl
theorem pickR_none {l : List Bool} {f : Nat → List V} {m : Nat} (h : lacks true l = true) : pickR l f m = [] := by
  unfold pickR
  rw [List.filter_eq_nil_iff.mpr]
  · rfl
  · intro j _
    cases e : l[j]? with
    | none => exact fun z => by cases z
    | some b =>
      have := lacks_all h b (List.mem_of_getElem? e)
      rw [this]
      exact fun z => by cases z
def sp_picked (K : PySem.W.Frag) (CG CP : Addr) : Sp := fun vs H Q _ => ∃ (pl mk ql : Addr) (long n : Nat) (pms : List PM) (mask : List Bool), vs = [.ref pl, .ref mk, .ref ql] ∧ PilsAt CP H long n pms pl ∧ GAll long n pms ∧ SqL K H mk (mask.map bI) ∧ mask.length = n ∧ SqL K H ql (rngV pms.length) ∧
  ∀ p fl r xs H2, Ex H H2 → H2 fl = some (.lst xs) → RowsAt H2 (pickR mask (rowS pms) n) xs → H2 p = some (.tup [.ref fl, .ref r]) → Q (.ref p) H2
theorem ok_picked (T : Gf K mg CG CP upA) (D : Dfn K mg "picked" s_picked) (c_glances : Cal P w K mg base 3 "glances" (sp_glances K CG CP) []) (c_Glance_size : Met P w K mg base 1 CG "size" (sp_Glance_size K CG CP) []) (c_rows_picked : Cal P w K mg base 12 "rows_picked" (sp_rows_picked K CG CP) []) (c_Glance_places_seen : Met P w K mg base 1 CG "places_seen" (sp_Glance_places_seen K CG CP) []) : Cal P w K mg base 13 "picked" (sp_picked K CG CP) [] := by
  refine cal_mk D sc_picked (fun _ _ _ _ _ _ us hl => match us, hl with | [_, _, _], _ => rfl) (fun vs H Q E h => ?_) (fun f cdv A outer s H vs Q E hr h => ?_)
  · obtain ⟨_, _, _, _, _, _, _, rfl, _⟩ := h; rfl
  · obtain ⟨pl, mk, ql, long, n, pms, mask, rfl, hP, ga, hmk, hml, hql, q⟩ := h
    refine ⟨_, pss_cons (ps_set (i := 3) sc_picked.nd rfl (Or.inl rfl) (pe_lst (pa_nil)))
      (pss_cons (ps_set (i := 4) sc_picked.nd rfl (Or.inl rfl) (pe_lst (pa_nil)))
      (pss_cons (ps_set (i := 5) sc_picked.nd rfl (Or.inl rfl) (pe_int))
      (pss_cons (ps_for PassesOwn.never rfl (pi_list (pe_c c_glances hr (by decide) (by rfl) (pa_cons (pv 0) pa_nil))) (pg_name (i := 6) sc_picked.nd rfl (Or.inl rfl))
        (pss_cons (ps_set (i := 7) sc_picked.nd rfl (Or.inl rfl) (pv 5))
        (pss_cons (ps_aug (i := 5) sc_picked.nd rfl (.inl rfl) (pe_mt0 c_Glance_size hr (by decide) (pv 6)) ip_add)
        (pss_cons (ps_set (i := 8) sc_picked.nd rfl (Or.inl rfl) (pe_slice sl_list (pv 1) (po_some (pv 7)) (po_some (pv 5))))
        (pss_one (ps_if (pt_cmpR op_in_seq (pe_int) (pv 8) rfl) (pss_cons (ps_expr (pe_bm PySem.F.plainAttrs_list PySem.F.slot_list_extend PySem.F.type_list_extend mt_extend (pv 3) (pa_cons (pe_c c_rows_picked hr (by decide) (by rfl) (pa_cons (pv 6) (pa_cons (pv 8) (pa_cons (pv 2) pa_nil)))) pa_nil)))
          (pss_one (ps_expr (pe_bm PySem.F.plainAttrs_list PySem.F.slot_list_extend PySem.F.type_list_extend mt_extend (pv 4) (pa_cons (pe_mt0 c_Glance_places_seen hr (by decide) (pv 6)) pa_nil))))) (pss_nil)))))))
      (pss_one (ps_ret (pe_tup (pa_cons (pv 3) (pa_cons (pv 4) pa_nil)))))))), ?_⟩
    have hns := ga.ns
    have hn1 := ga.n1
    refine ⟨Nat.zero_le _, fun m nm => ?_⟩
    have e1 := Ex.n (o := .lst []) nm
    refine ⟨Nat.zero_le _, fun r nr => ?_⟩
    have hmr : m ≠ r := ne_of_none upd_same nr
    have e2 := e1.trans (Ex.n (o := .lst []) nr)
    have hm2 : (upd (upd H m (.lst [])) r (.lst [])) m = some (.lst []) := by
      rw [upd_ne hmr]
      exact upd_same
    have nr0 : H r = none := Evl.fresh_back e1 nr
    refine ⟨_, rfl, pl, long, n, pms, rfl, hP.mono e2, ga, fun p0 gs H2 np0 e3 hp0 hgs => ?_⟩
    have hm3 := e3 _ _ hm2
    have hr3 := e3 _ _ (show (upd (upd H m (.lst [])) r (.lst [])) r = some (.lst []) from upd_same)
    have e23 := e2.trans e3
    obtain ⟨hgl, sd, hg, hinj⟩ := hgs
    have hsd0 : ∀ s, s < nSt long n → H (sd s) = none := fun s hs => by
      obtain ⟨g, dx, pl', nl, g1, g2, g3, g4, g5, g6, e9⟩ := hg s hs
      exact Evl.fresh_back e2 g6
    have hR0 : GlRest CG pl H2 long n pms gs sd 0 [m, r] := ⟨fun s _ hs => by
      obtain ⟨g, dx, pl', nl, g1, g2, g3, g4, g5, g6, e9⟩ := hg s hs
      refine ⟨g, dx, nl, g1, by rw [e9]; exact g2, g3, g4, fun z => ?_⟩
      rcases List.mem_cons.mp z with z | z
      · rw [z, hm2] at g5; cases g5
      · rw [List.mem_singleton.mp z, upd_same] at g5; cases g5⟩
    have hgmr : p0 ≠ m ∧ p0 ≠ r := ⟨(fun z => by rw [z, hm2] at np0; cases np0), (fun z => by rw [z, upd_same] at np0; cases np0)⟩
    refine ⟨_, rfl, ⟨_, lsOf hp0⟩, for_it walk_list (fun i σ' H' => Ex H H' ∧ H' p0 = some (.lst gs) ∧ (∃ xs, H' m = some (.lst xs) ∧ RowsAt H' (pickR mask (rowS pms) (min (i * long) n)) xs) ∧ (∃ ys, H' r = some (.lst ys) ∧ ys.length ≤ i * 8) ∧ GlRest CG pl H' long n pms gs sd i [m, r] ∧ ∃ y6 y7 y8, σ' = [some (.ref pl), some (.ref mk), some (.ref ql), some (.ref m), some (.ref r), some (.int ((min (i * long) n : Nat) : Int)), y6, y7, y8])
      ⟨e23, hp0, ⟨[], hm3, ?_⟩, ⟨[], hr3, Nat.zero_le _⟩, hR0, none, none, none, ?_⟩ (fun i σ' H' _ hI => lsOf hI.2.1) (fun i x σ' H' H3 hi hI hy => ?_) (fun σ' H' hI => ?_)⟩
    · rw [Nat.zero_mul, Nat.zero_min]
      exact RowsAt.nil
    · rw [Nat.zero_mul, Nat.zero_min]
      rfl
    · obtain ⟨e4, hp4, ⟨xs, hm4, hxs⟩, ⟨ys, hr4, hys⟩, hR, y6, y7, y8, rfl⟩ := hI
      obtain ⟨rfl, hx⟩ := hy
      have hin : i < nSt long n := by omega
      have hlt := nSt_lt (by have := ga.l1; omega) hin
      have hmin : min (i * long) n = i * long := Nat.min_eq_left (Nat.le_of_lt hlt)
      have hmin2 : min ((i + 1) * long) n = i * long + szS long n i := by
        unfold szS
        rw [Nat.succ_mul]
        omega
      have hsz64 := (ga.at hin).szl
      have hszn : i * long + szS long n i ≤ n := by
        unfold szS
        omega
      obtain ⟨g, dx, nl, g1, g2, g3, g4, g5⟩ := hR.ex i (Nat.le_refl _) hin
      obtain rfl : x = .ref g := Option.some.inj (hx.symm.trans g1)
      have hG := GlAt.raw (hP.mono e4) g2 g3 g4
      rw [hmin] at hxs ⊢
      refine ⟨_, rfl, ?_⟩
      refine ⟨_, rfl, _, rfl, _, _, _, rfl, g2, rfl, g, sd i, long, n, i, pms, [], rfl, hG, ga.at hin, fun H5 e5 => ?_⟩
      refine ⟨_, _, rfl, rfl, ?_⟩
      have e45 := e4.trans e5
      have hcut : cutV (mask.map bI) (some ((i * long : Nat) : Int)) (some (((i * long : Nat) : Int) + (szS long n i : Int))) = ((mask.drop (i * long)).take (szS long n i)).map bI := by
        rw [show ((i * long : Nat) : Int) + (szS long n i : Int) = ((i * long + szS long n i : Nat) : Int) by omega, cut_nat _ (Nat.le_add_right ..), Nat.add_sub_cancel_left, List.map_take, List.map_drop]
      refine ⟨_, rfl, _, rfl, _, rfl, _, rfl, _, rfl, _, _, rfl, exL hmk e45, fun p6 np6 => ?_⟩
      have hll : ((mask.drop (i * long)).take (szS long n i)).length = szS long n i := by
        rw [List.length_take, List.length_drop]
        omega
      have hcut2 : HO.lst (cutV (mask.map bI) (some ((i * long : Nat) : Int)) (some (((i * long : Nat) : Int) + (szS long n i : Int)))) = HO.lst (((mask.drop (i * long)).take (szS long n i)).map bI) := congrArg HO.lst hcut
      rw [hcut2]
      have e6 := e5.trans (Ex.n (o := .lst (((mask.drop (i * long)).take (szS long n i)).map bI)) np6)
      have hp66 : (upd H5 p6 (.lst (((mask.drop (i * long)).take (szS long n i)).map bI))) p6 = some (.lst (((mask.drop (i * long)).take (szS long n i)).map bI)) := upd_same
      generalize upd H5 p6 (.lst (((mask.drop (i * long)).take (szS long n i)).map bI)) = H6 at *
      have hget : ∀ j, j < szS long n i → ((mask.drop (i * long)).take (szS long n i))[j]? = mask[i * long + j]? := fun j hj => by
        rw [List.getElem?_take_of_lt hj, List.getElem?_drop]
      have hadd := pickR_add mask (rowS pms) (i * long) (szS long n i) _ hget
      generalize hl : (mask.drop (i * long)).take (szS long n i) = l at *
      have e46 := e4.trans e6
      have hR6 := (hR.mono e6).next
      have hns2 : i * 8 ≤ 800 := by omega
      refine ⟨_, rfl, _, _, rfl, .inl (lsOf hp66), rfl, bits_flat _, _, rfl, ?_⟩
      have ein : inV (V.int 1) (l.map bI) = !lacks true l := by
        rw [← in_bits true l]
        show inV (bI true) (l.map bI) = _
        cases inV (bI true) (l.map bI) <;> rfl
      refine ifB (fun hb => ?_) (fun hb => ?_)
      · refine ⟨_, rfl, .inl ⟨rfl, _, .inl (.inl (e6 _ _ hm4))⟩, _, rfl, _, rfl, _, rfl, g, sd i, p6, ql, long, n, i, pms, l, rfl, hG.mono e6, ga.at hin, lsOf hp66, hll, exL hql e46, fun p7 zs S' H7 b7 hG7 hS8 hp7 hzs => ?_⟩
        have hsd6 : H6 (sd i) = some (.dK []) := e6 _ _ g3
        have keep : ∀ {a : Addr} {o : HO}, H6 a = some o → (∀ k, o ≠ .dK k) → H7 a = some o := fun h hne => b7 _ _ (fun z => by
          rw [z, hsd6] at h
          exact hne _ (Option.some.inj h).symm) h
        have hm7 := keep (e6 _ _ hm4) (fun _ z => by cases z)
        have hr7 := keep (e6 _ _ hr4) (fun _ z => by cases z)
        have hp07 := keep (e6 _ _ hp4) (fun _ z => by cases z)
        have e7 : Ex H H7 := fun a o h => b7 a o (ne_of_none h (hsd0 i hin)) (e46 _ _ h)
        have hR7 := hR6.dict b7 hsd6 hin hinj
        have hxl := hxs.1
        have hpl := pickR_len mask (rowS pms) (i * long)
        have hzl := hzs.1
        have hpl2 := pickR_len l (fun j => rowS pms (i * long + j)) l.length
        refine ⟨_, _, _, _, rfl, rfl, hm7, hp7, sml (by omega), ?_⟩
        have e8 : Ex H (upd H7 m (.lst (xs ++ zs))) := e7.mut nm
        have hm8 : (upd H7 m (.lst (xs ++ zs))) m = some (.lst (xs ++ zs)) := upd_same
        have hr8 : (upd H7 m (.lst (xs ++ zs))) r = some (.lst ys) := by
          rw [upd_ne hmr.symm]
          exact hr7
        have hp08 : (upd H7 m (.lst (xs ++ zs))) p0 = some (.lst gs) := by
          rw [upd_ne hgmr.1]
          exact hp07
        have hR8 := hR7.list (m := m) (ys := xs ++ zs) (by simp) hm7
        have hrows8 : RowsAt (upd H7 m (.lst (xs ++ zs))) (pickR mask (rowS pms) (min ((i + 1) * long) n)) (xs ++ zs) := by
          rw [hmin2, hadd]
          rw [hll] at hzs
          exact ((hxs.keep fun p ks h => keep (e6 _ _ h) (fun _ z => by cases z)).app hzs).keep fun p ks h => tupK hm7 h
        obtain ⟨dx9, pl9, nl9, kv9, w1, w2, w3, w4, w5, w6⟩ := hG7.ex
        have hg8 : (upd H7 m (.lst (xs ++ zs))) g = some (.ins CG dx9 (GlFs pl9 nl9 i (sd i))) := by
          rw [upd_ne (fun z => by rw [z, hm7] at w1; cases w1)]
          exact w1
        have hs8 : (upd H7 m (.lst (xs ++ zs))) (sd i) = some (.dK kv9) := by
          rw [upd_ne (fun z => by rw [z, hm7] at w4; cases w4)]
          exact w4
        generalize upd H7 m (.lst (xs ++ zs)) = H8 at *
        refine ⟨_, rfl, .inl ⟨rfl, _, .inl (.inl hr8)⟩, _, rfl, _, _, _, rfl, hg8, rfl, g, sd i, i, S', kv9, dx9, pl9, nl9, rfl, hg8, hs8, w5, by omega, fun p9 ws H9 np9 e9 hp9 hws => ?_⟩
        have hwl := hws.1
        rw [List.length_map] at hwl
        have hr9 := e9 _ _ hr8
        refine ⟨_, _, _, _, rfl, rfl, hr9, hp9, sml (by omega), (e8.trans e9).mut nr0, ?_, ⟨xs ++ zs, ?_, ?_⟩, ⟨ys ++ ws, upd_same, by rw [List.length_append]; omega⟩, (hR8.mono e9).list (by simp) hr9, some (.ref g), some (.int ((i * long : Nat) : Int)), some (.ref p6), ?_⟩
        · rw [upd_ne hgmr.2]
          exact e9 _ _ hp08
        · rw [upd_ne hmr]
          exact e9 _ _ hm8
        · exact hrows8.keep fun p ks h => tupK hr9 (e9 _ _ h)
        · rw [hmin2]
          rfl
      · have hlk : lacks true l = true := by
          have hb : inV (V.int 1) (l.map bI) = false := hb
          rw [ein] at hb
          cases e : lacks true l with
          | true => rfl
          | false => rw [e] at hb; cases hb
        refine ⟨e46, e6 _ _ hp4, ⟨xs, e6 _ _ hm4, ?_⟩, ⟨ys, e6 _ _ hr4, by omega⟩, hR6, some (.ref g), some (.int ((i * long : Nat) : Int)), some (.ref p6), ?_⟩
        · rw [hmin2, hadd, pickR_none hlk, List.append_nil]
          exact hxs.keep fun p ks h => e6 _ _ h
        · rw [hmin2]
          rfl
    · obtain ⟨e4, hp4, ⟨xs, hm4, hxs⟩, ⟨ys, hr4, hys⟩, hR, y6, y7, y8, rfl⟩ := hI
      have hfin : min (gs.length * long) n = n := by
        rw [hgl]
        have : n ≤ nSt long n * long := by
          rcases Nat.lt_or_ge (nSt long n * long) n with h | h
          · exact absurd (nSt_of (by have := ga.l1; omega) h) (Nat.lt_irrefl _)
          · exact h
        omega
      rw [hfin] at hxs
      refine ⟨_, rfl, _, rfl, Nat.le_of_ble_eq_true rfl, fun p5 np5 => ?_⟩
      have e5 := Ex.n (o := .tup [.ref m, .ref r]) np5
      exact q p5 m r xs _ (e4.trans e5) (e5 _ _ hm4) (hxs.keep fun p ys h => e5 _ _ h) upd_same
end
end Pk
set_option Elab.async false
set_option linter.all false
set_option maxRecDepth 100000
set_option maxHeartbeats 4000000
set_option autoImplicit false
namespace Pk
open PySem PySem.Spec PyProof.Rows L2
/-! ### the law's state -/
/-- the heap without the law's state -/
def rmS (sd c : Addr) (H : Hp) : Hp := fun a => if a = sd ∨ a = c then none else H a
theorem rmS_get {sd c a : Addr} {H : Hp} {o : HO} (h : rmS sd c H a = some o) : H a = some o ∧ a ≠ sd ∧ a ≠ c := by
  unfold rmS at h
  by_cases e : a = sd ∨ a = c
  · rw [if_pos e] at h; cases h
  · rw [if_neg e] at h
    exact ⟨h, fun z => e (.inl z), fun z => e (.inr z)⟩
theorem rmS_of {sd c a : Addr} {H : Hp} {o : HO} (h : H a = some o) (n1 : a ≠ sd) (n2 : a ≠ c) : rmS sd c H a = some o := by
  unfold rmS
  rw [if_neg (fun z => z.elim n1 n2)]
  exact h
theorem rmS_ex {sd c : Addr} {H : Hp} : Ex (rmS sd c H) H := fun a o h => (rmS_get h).1
def ExS (sd c : Addr) (H H' : Hp) : Prop := Ex (rmS sd c H) (rmS sd c H')
theorem ExS.r (sd c : Addr) (H : Hp) : ExS sd c H H := Ex.r _
theorem ExS.trans {sd c : Addr} {H H1 H2 : Hp} (a : ExS sd c H H1) (b : ExS sd c H1 H2) : ExS sd c H H2 := Evl.Ex.trans a b
theorem ExS.of {sd c : Addr} {H H1 : Hp} (e : Ex H H1) : ExS sd c H H1 := fun a o h => by
  obtain ⟨h1, h2, h3⟩ := rmS_get h
  exact rmS_of (e _ _ h1) h2 h3
theorem ExS.atD {sd c : Addr} {H H1 : Hp} (e : ExS sd c H H1) (o : HO) : ExS sd c H (upd H1 sd o) := fun a u h => by
  obtain ⟨h1, h2, h3⟩ := rmS_get (e _ _ h)
  exact rmS_of (by rw [upd_ne h2]; exact h1) h2 h3
theorem ExS.atC {sd c : Addr} {H H1 : Hp} (e : ExS sd c H H1) (o : HO) : ExS sd c H (upd H1 c o) := fun a u h => by
  obtain ⟨h1, h2, h3⟩ := rmS_get (e _ _ h)
  exact rmS_of (by rw [upd_ne h3]; exact h1) h2 h3
/-- what was made since may change -/
theorem ExS.mut {sd c p : Addr} {H H1 : Hp} {o : HO} (e : ExS sd c H H1) (h : H p = none) : ExS sd c H (upd H1 p o) := fun a u z => by
  obtain ⟨g1, g2, g3⟩ := rmS_get z
  obtain ⟨h1, h2, h3⟩ := rmS_get (e _ _ z)
  exact rmS_of (by rw [upd_ne (ne_of_none g1 h)]; exact h1) h2 h3
theorem ExS.back {sd c p : Addr} {H H1 : Hp} (e : ExS sd c H H1) (h : rmS sd c H1 p = none) (n1 : p ≠ sd) (n2 : p ≠ c) : H p = none := by
  cases g : H p with
  | none => rfl
  | some o =>
    rw [e p o (rmS_of g n1 n2)] at h
    cases h
structure LSt (H : Hp) (sd c : Addr) (n : Nat) : Prop where
  ne : sd ≠ c
  ex : ∃ (ns : List Int) (t : Nat), H sd = some (.dK [(.inr "cells", .ref c), (.inr "turn", .int (t : Int))]) ∧ H c = some (.lst (ns.map V.int)) ∧ 1 ≤ ns.length ∧ ns.length ≤ 100 ∧ t ≤ n
theorem LSt.up {H : Hp} {sd c : Addr} {n m : Nat} (h : LSt H sd c n) (e : n ≤ m) : LSt H sd c m := by
  obtain ⟨ns, t, h1, h2, h3, h4, h5⟩ := h.ex
  exact ⟨h.ne, ns, t, h1, h2, h3, h4, Nat.le_trans h5 e⟩
theorem LSt.mono {H H' : Hp} {sd c : Addr} {n : Nat} (h : LSt H sd c n) (e : Ex H H') : LSt H' sd c n := by
  obtain ⟨ns, t, h1, h2, h3, h4, h5⟩ := h.ex
  exact ⟨h.ne, ns, t, e _ _ h1, e _ _ h2, h3, h4, h5⟩
theorem LSt.mut {H : Hp} {sd c p : Addr} {n : Nat} {o : HO} (h : LSt H sd c n) (n1 : p ≠ sd) (n2 : p ≠ c) : LSt (upd H p o) sd c n := by
  obtain ⟨ns, t, h1, h2, h3, h4, h5⟩ := h.ex
  exact ⟨h.ne, ns, t, by rw [upd_ne n1.symm]; exact h1, by rw [upd_ne n2.symm]; exact h2, h3, h4, h5⟩
theorem LSt.fresh {H : Hp} {sd c p : Addr} {n : Nat} (h : LSt H sd c n) (np : H p = none) : p ≠ sd ∧ p ≠ c := by
  obtain ⟨ns, t, h1, h2, h3, h4, h5⟩ := h.ex
  exact ⟨(fun z => by rw [z, h1] at np; cases np), (fun z => by rw [z, h2] at np; cases np)⟩
/-! ### a text so many times -/
section
variable {X : Cx}
theorem op_repS : OpR X (binaryOp .Mult) (fun x y H Q => x = .str "a" ∧ y = .int 20 ∧ Q (.str "aaaaaaaaaaaaaaaaaaaa") H) := by
  intro pins s σ H x y v u Q I rx ry h
  obtain ⟨rfl, rfl, q⟩ := h
  obtain ⟨t, rfl⟩ := rx
  obtain ⟨t', rfl⟩ := ry
  refine PySem.P.mul_str (by decide) (fun _ _ => by decide +kernel) (fun _ _ => by decide +kernel) ?_
  rw [if_neg (by decide), if_neg (by decide +kernel)]
  have e : (⟨(List.replicate (20 : Int).toNat (Str.ofString "a").cps).foldl (· ++ ·) #[]⟩ : Str) = "aaaaaaaaaaaaaaaaaaaa" := by decide +kernel
  rw [e]
  exact ⟨by decide +kernel, .str "aaaaaaaaaaaaaaaaaaaa", H, I.tok _, ⟨s.toks, rfl⟩, q⟩
end
end Pk
set_option Elab.async false
set_option linter.all false
set_option maxRecDepth 100000
set_option maxHeartbeats 4000000
set_option autoImplicit false
namespace Pk
open PySem PySem.Spec PyProof.Rows L2
open C8 (Cal Met Mak pe_c pe_mk pe_mt pe_mt0 pe_gc)
section
variable {P : Program} {w : World} {K : PySem.W.Frag} {mg : Str → Option Value} {base : Heap} {CG CP upA : Addr}
/-! ### _law_begin, _law_take, _law_number, _law_text -/
theorem cut_to (xs : List V) (k : Nat) : cutV xs none (some (k : Int)) = xs.take k := by
  unfold cutV
  rw [HT.sIx_nat]
  rcases Nat.le_total k xs.length with h | h
  · rw [Nat.min_eq_left h]
    show (xs.drop 0).take (k - 0) = _
    rw [List.drop_zero, Nat.sub_zero]
  · rw [Nat.min_eq_right h]
    show (xs.drop 0).take (xs.length - 0) = _
    rw [List.drop_zero, Nat.sub_zero, List.take_of_length_le (Nat.le_refl _), List.take_of_length_le h]
theorem eqv_nil {ns : List Int} : PyData.eqv (.list (ns.map .int)) (.list []) = ns.isEmpty := by
  cases ns <;> simp [PyData.eqv, PyData.eqvAll]
def sp_law_begin (K : PySem.W.Frag) : Sp := fun vs H Q _ => ∃ (a : Addr) (ns : List Int), vs = [.ref a] ∧ SqL K H a (ns.map V.int) ∧ ∀ sd c H2, Ex H H2 → LSt H2 sd c 0 → Q (.ref sd) H2
theorem ok_law_begin (T : Gf K mg CG CP upA) (D : Dfn K mg "_law_begin" s_law_begin)  : Cal P w K mg base 1 "_law_begin" (sp_law_begin K) [] := by
  refine cal_mk D sc_law_begin (fun _ _ _ _ _ _ us hl => match us, hl with | [_], _ => rfl) (fun vs H Q E h => ?_) (fun f cdv A outer s H vs Q E hr h => ?_)
  · obtain ⟨_, _, rfl, _⟩ := h; rfl
  · obtain ⟨a, ns, rfl, hS, q⟩ := h
    refine ⟨_, pss_cons (ps_set (i := 1) sc_law_begin.nd rfl (Or.inl rfl) (pe_callTy call_list_of (by rfl) T.list (by decide +kernel) (pa_cons (pe_slice sl_list (pv 0) (po_none) (po_some (pe_int))) pa_nil)))
      (Evl.pss_cut (ps_if (pt_cmpR (op_eqD hr.units) (pv 1) (pe_lst (pa_nil)) (nomark _)) (pss_one (ps_set (i := 1) sc_law_begin.nd rfl (Or.inl rfl) (pe_lst (pa_cons (pe_int) pa_nil)))) (pss_nil))
      (pss_one (ps_ret (pe_disp (pps_cons (pe_str) (pv 1) (pps_cons (pe_str) (pe_int) (pps_nil))) (by rfl) (by rfl) (fun z => by cases z) (by decide))))), ?_⟩
    refine ⟨_, rfl, _, rfl, _, _, rfl, hS, fun p np => ?_⟩
    have hcut : cutV (ns.map V.int) none (some 63) = (ns.take 63).map V.int := by
      rw [show (63 : Int) = ((63 : Nat) : Int) from rfl, cut_to, List.map_take]
    have hcut2 : HO.lst (cutV (ns.map V.int) none (some 63)) = HO.lst ((ns.take 63).map V.int) := congrArg HO.lst hcut
    rw [hcut2]
    refine ⟨_, _, rfl, .inl (lsOf upd_same), fun p2 np2 => ?_⟩
    have e2 := (Ex.n (o := .lst ((ns.take 63).map V.int)) np).trans (Ex.n (o := .lst ((ns.take 63).map V.int)) np2)
    have hp2 : (upd (upd H p (.lst ((ns.take 63).map V.int))) p2 (.lst ((ns.take 63).map V.int))) p2 = some (.lst ((ns.take 63).map V.int)) := upd_same
    generalize upd (upd H p (.lst ((ns.take 63).map V.int))) p2 (.lst ((ns.take 63).map V.int)) = H2 at e2 hp2
    have fin : ∀ (c : Addr) (ms : List Int) (H3 : Hp), Ex H H3 → H3 c = some (.lst (ms.map V.int)) → 1 ≤ ms.length → ms.length ≤ 100 →
        (tRet (tDisp [(tC (.str "cells"), tVar 1), (tC (.str "turn"), tC (.int 0))]) { nx := fun x H' => Q .non H', rt := Q }) [some (.ref a), some (.ref c)] H3 := fun c ms H3 e3 hc h1 h2 => by
      refine fun d nd => ?_
      refine ⟨_, rfl, upd_same, [(.inr "cells", .ref c), (.inr "turn", .int 0)], rfl, (by show 2 ≤ 15; decide), ?_⟩
      have hcd : c ≠ d := ne_of_none hc nd
      refine q d c _ ((e3.trans (Ex.n nd)).mut (Evl.fresh_back e3 nd)) ⟨hcd.symm, ms, 0, ?_, ?_, h1, h2, Nat.le_refl _⟩
      · rw [upd_same]
        rfl
      · rw [upd_ne hcd, upd_ne hcd]
        exact hc
    refine ⟨fun σ' H' => ∃ (c : Addr) (ms : List Int), σ' = [some (.ref a), some (.ref c)] ∧ Ex H H' ∧ H' c = some (.lst (ms.map V.int)) ∧ 1 ≤ ms.length ∧ ms.length ≤ 100, ?_, ?_⟩
    · refine ⟨_, rfl, Nat.zero_le _, fun p3 np3 => ?_⟩
      refine ⟨_, _, dp_lints (lsOf (Ex.n np3 _ _ hp2)), .lst (lsOf upd_same) .nil, PySem.W.ke_shaped_ints _, PySem.W.ke_shaped_ints [], _, rfl, ?_⟩
      rw [eqv_nil]
      refine ifB (fun h => ?_) (fun h => ?_)
      · refine ⟨Nat.le_of_ble_eq_true rfl, fun p4 np4 => ?_⟩
        exact ⟨p4, [7], rfl, (e2.trans (Ex.n np3)).trans (Ex.n np4), upd_same, by decide, by decide⟩
      · refine ⟨p2, ns.take 63, rfl, e2.trans (Ex.n np3), Ex.n np3 _ _ hp2, ?_, by rw [List.length_take]; omega⟩
        cases hn : ns.take 63 with
        | nil => rw [hn] at h; cases h
        | cons _ _ => exact Nat.succ_le_succ (Nat.zero_le _)
    · rintro σ' H' ⟨c, ms, rfl, e3, hc, h1, h2⟩
      exact fin c ms H' e3 hc h1 h2
def sp_law_take (K : PySem.W.Frag) : Sp := fun vs H Q _ => ∃ (sd c : Addr) (m : Int) (n : Nat), vs = [.ref sd, .int m] ∧ LSt H sd c n ∧ n ≤ 1000000 ∧ 1 ≤ m ∧ m ≤ 1000000000 ∧
  ∀ k H2, 0 ≤ k → k < m → ExS sd c H H2 → LSt H2 sd c (n + 1) → Q (.int k) H2
theorem key_ct : (Sum.inr "cells" : Key) ≠ .inr "turn" := by
  intro h
  injection h with h
  exact absurd h (by decide +kernel)
theorem ok_law_take (T : Gf K mg CG CP upA) (D : Dfn K mg "_law_take" s_law_take)  : Cal P w K mg base 1 "_law_take" (sp_law_take K) [] := by
  refine cal_mk D sc_law_take (fun _ _ _ _ _ _ us hl => match us, hl with | [_, _], _ => rfl) (fun vs H Q E h => ?_) (fun f cdv A outer s H vs Q E hr h => ?_)
  · obtain ⟨_, _, _, _, rfl, _⟩ := h; rfl
  · obtain ⟨sd, c, m, n, rfl, hL, hn, hm1, hm2, q⟩ := h
    refine ⟨_, pss_cons (ps_set (i := 2) sc_law_take.nd rfl (Or.inl rfl) (pe_op op_add (pe_dget (hu_of hr) (pv 0) (pe_str) (fun _ _ => rfl)) (pe_int)))
      (pss_cons (ps_dput (hu_of hr) (pv 0) (pe_str) (pv 2) rfl)
      (pss_cons (ps_set (i := 3) sc_law_take.nd rfl (Or.inl rfl) (pe_op op_mod (pv 2) (pe_callB call_len_seq (by rfl) T.len (by decide +kernel) (pa_cons (pe_dget (hu_of hr) (pv 0) (pe_str) (fun _ _ => rfl)) pa_nil))))
      (pss_cons (ps_set (i := 4) sc_law_take.nd rfl (Or.inl rfl) (pe_ix ix_list (pe_dget (hu_of hr) (pv 0) (pe_str) (fun _ _ => rfl)) (pv 3) (fun _ _ => rfl)))
      (pss_cons (ps_if (pt_cmpR op_ge (pv 4) (pe_op op_pow (pe_int) (pe_int)) (nomark _)) (pss_cons (ps_asg (pe_callB call_divmod (by rfl) T.divmod (by decide +kernel) (pa_cons (pv 4) (pa_cons (pv 1) pa_nil))) (pg_tup (by rfl) (pgs_cons (pg_sub (pe_dget (hu_of hr) (pv 0) (pe_str) (fun _ _ => rfl)) (pv 3) set_list) (pgs_cons (pg_name (i := 5) sc_law_take.nd rfl (Or.inl rfl)) pgs_nil))))
        (pss_one (ps_ret (pv 5)))) (pss_nil))
      (pss_cons (ps_set (i := 6) sc_law_take.nd rfl (Or.inl rfl) (pe_op op_mod (pe_op op_mul (pe_op op_add (pe_op op_add (pe_op op_mod (pv 4) (pe_int)) (pe_op op_mul (pe_op op_mul (pv 2) (pv 2)) (pe_int))) (pe_int)) (pe_int)) (pe_int)))
      (pss_cons (ps_set (i := 6) sc_law_take.nd rfl (Or.inl rfl) (pe_op op_mod (pe_op op_mul (pv 6) (pv 6)) (pe_int)))
      (pss_one (ps_ret (pe_op op_mod (pe_op op_fdiv (pe_op op_mod (pe_op op_mul (pe_op op_add (pv 6) (pe_op op_mul (pv 2) (pe_int))) (pe_int)) (pe_int)) (pe_int)) (pv 1)))))))))), ?_⟩
    obtain ⟨ns, t, h1, h2, h3, h4, h5⟩ := hL.ex
    have hne := hL.ne
    have vt : valV [((Sum.inr "cells" : Key), V.ref c), (.inr "turn", .int (t : Int))] (.inr "turn") = some (.int (t : Int)) := by
      rw [valV_neg key_ct]
      exact valV_pos rfl
    have hd1 := DGet.k h1 (k := .inr "turn")
    rw [vt] at hd1
    refine ⟨_, rfl, _, _, rfl, hd1, _, _, rfl, rfl, ?_⟩
    refine ⟨_, rfl, _, rfl, _, _, rfl, DPut.k h1 (k := .inr "turn") (by show 2 < _; exact smlt (by decide)), ?_⟩
    have hput : putK [((Sum.inr "cells" : Key), V.ref c), (.inr "turn", .int (t : Int))] (.inr "turn") (.int ((t : Int) + 1)) = [(.inr "cells", .ref c), (.inr "turn", .int ((t + 1 : Nat) : Int))] := by
      unfold putK
      rw [if_pos (by
        rw [List.any_eq_true]
        exact ⟨(.inr "turn", .int (t : Int)), by simp, decide_eq_true rfl⟩)]
      show [if _ then _ else _, if _ then _ else _] = _
      rw [if_neg key_ct, if_pos rfl]
      rfl
    have hput2 : HO.dK (putK [((Sum.inr "cells" : Key), V.ref c), (.inr "turn", .int (t : Int))] (.inr "turn") (.int ((t : Int) + 1))) = .dK [(.inr "cells", .ref c), (.inr "turn", .int ((t + 1 : Nat) : Int))] := congrArg HO.dK hput
    rw [hput2]
    have hs3 : (upd H sd (.dK [(.inr "cells", .ref c), (.inr "turn", .int ((t + 1 : Nat) : Int))])) sd = some (.dK [(.inr "cells", .ref c), (.inr "turn", .int ((t + 1 : Nat) : Int))]) := upd_same
    have hc3 : (upd H sd (.dK [(.inr "cells", .ref c), (.inr "turn", .int ((t + 1 : Nat) : Int))])) c = some (.lst (ns.map V.int)) := by
      rw [upd_ne hne.symm]
      exact h2
    have e3 : ExS sd c H (upd H sd (.dK [(.inr "cells", .ref c), (.inr "turn", .int ((t + 1 : Nat) : Int))])) := (ExS.r sd c H).atD _
    generalize upd H sd (.dK [(.inr "cells", .ref c), (.inr "turn", .int ((t + 1 : Nat) : Int))]) = H3 at hs3 hc3 e3
    have hd2 := DGet.k hs3 (k := .inr "cells")
    have vc : valV [((Sum.inr "cells" : Key), V.ref c), (.inr "turn", .int ((t + 1 : Nat) : Int))] (.inr "cells") = some (.ref c) := valV_pos rfl
    rw [vc] at hd2
    refine ⟨_, rfl, _, rfl, _, _, rfl, hd2, _, _, rfl, .inl (lsOf hc3), _, _, rfl, rfl, (by rw [List.length_map]; omega), ?_⟩
    obtain ⟨j, hj1, hj2⟩ : ∃ j : Nat, ((t : Int) + 1) % (((ns.map V.int).length : Nat) : Int) = (j : Int) ∧ j < ns.length := by
      rw [List.length_map]
      have g1 := Int.emod_nonneg ((t : Int) + 1) (show ((ns.length : Nat) : Int) ≠ 0 by omega)
      have g2 := Int.emod_lt_of_pos ((t : Int) + 1) (show (0 : Int) < ((ns.length : Nat) : Int) by omega)
      exact ⟨(((t : Int) + 1) % ((ns.length : Nat) : Int)).toNat, by omega, by omega⟩
    have hat : (ns.map V.int)[j]? = some (.int ns[j]) := by rw [List.getElem?_map, List.getElem?_eq_getElem hj2]; rfl
    rw [show (fun i j => V.int (i % j)) ((t : Int) + 1) (((ns.map V.int).length : Nat) : Int) = V.int (j : Int) from congrArg V.int hj1]
    refine ⟨_, rfl, _, _, rfl, hd2, _, rfl, _, _, _, _, rfl, rfl, lsOf hc3, at_k hat rfl, ?_⟩
    refine ⟨_, rfl, _, _, rfl, rfl, ⟨by decide, by decide, by decide⟩, _, _, rfl, rfl, _, rfl, ?_⟩
    refine ifB (fun hb => ?_) (fun hb => ?_)
    · refine ⟨_, rfl, _, rfl, _, _, rfl, ⟨by omega, by omega⟩, fun p np => ?_⟩
      have hpc : c ≠ p := ne_of_none hc3 np
      have hps : sd ≠ p := ne_of_none hs3 np
      have e4 := e3.trans (ExS.of (Ex.n (o := .tup [.int (ns[j] / m), .int (ns[j] % m)]) np))
      have hs4 : (upd H3 p (.tup [.int (ns[j] / m), .int (ns[j] % m)])) sd = some (.dK [(.inr "cells", .ref c), (.inr "turn", .int ((t + 1 : Nat) : Int))]) := by rw [upd_ne hps]; exact hs3
      have hc4 : (upd H3 p (.tup [.int (ns[j] / m), .int (ns[j] % m)])) c = some (.lst (ns.map V.int)) := by rw [upd_ne hpc]; exact hc3
      have hd3 := DGet.k hs4 (k := .inr "cells")
      rw [vc] at hd3
      refine ⟨_, _, rfl, tpOf upd_same, rfl, _, _, rfl, ?_⟩
      refine ⟨_, rfl, _, _, rfl, hd3, _, rfl, _, _, _, j, rfl, rfl, hc4, ?_, _, _, rfl, rfl, ?_⟩
      · unfold ixN
        rw [if_pos (by omega), List.length_map, if_pos (by omega), Int.toNat_natCast]
      refine ⟨_, rfl, ?_⟩
      have hset : (ns.map V.int).set j (.int (ns[j] / m)) = (ns.set j (ns[j] / m)).map V.int := by rw [List.map_set]
      refine q _ _ (Int.emod_nonneg _ (by omega)) (Int.emod_lt_of_pos _ (by omega)) (e4.atC _) ⟨hne, ns.set j (ns[j] / m), t + 1, ?_, ?_, by rw [List.length_set]; exact h3, by rw [List.length_set]; exact h4, by omega⟩
      · rw [upd_ne hne]
        exact hs4
      · rw [upd_same, ← hset]
    · have ht1 : ((t : Int) + 1) ≤ 1000001 := by omega
      have ht0 : (0 : Int) ≤ (t : Int) + 1 := by omega
      refine ⟨_, rfl, _, _, rfl, rfl, (show (0 : Int) < 2147483629 by decide), _, rfl, _, rfl, _, _, rfl, rfl, .inl ⟨by omega, by omega⟩, _, _, rfl, rfl, .inr ⟨by decide, by decide⟩, _, _, rfl, rfl, _, _, rfl, rfl, _, _, rfl, rfl, .inr ⟨by decide, by decide⟩, _, _, rfl, rfl, (show (0 : Int) < 2147483647 by decide), ?_⟩
      generalize hx : (ns[j] % 2147483629 + ((t : Int) + 1) * ((t : Int) + 1) * 7919 + 11) * 48271 % 2147483647 = x
      have hx0 : 0 ≤ x ∧ x < 2147483647 := by
        rw [← hx]
        exact ⟨Int.emod_nonneg _ (by decide), Int.emod_lt_of_pos _ (by decide)⟩
      refine ⟨_, rfl, _, rfl, _, _, rfl, rfl, .inl ⟨?_, ?_⟩, _, _, rfl, rfl, (show (0 : Int) < 2147483587 by decide), ?_⟩
      · show (-(2 ^ 64) : Int) < (ns[j] % 2147483629 + ((t : Int) + 1) * ((t : Int) + 1) * 7919 + 11) * 48271 % 2147483647
        rw [hx]
        omega
      · show (ns[j] % 2147483629 + ((t : Int) + 1) * ((t : Int) + 1) * 7919 + 11) * 48271 % 2147483647 < (2 ^ 64 : Int)
        rw [hx]
        omega
      refine ⟨_, rfl, _, rfl, _, _, rfl, rfl, .inr ⟨by decide, by decide⟩, _, _, rfl, rfl, _, _, rfl, rfl, .inr ⟨by decide, by decide⟩, _, _, rfl, rfl, (show (0 : Int) < 2147483629 by decide), _, _, rfl, rfl, ⟨by decide, by decide⟩, _, rfl, _, _, rfl, rfl, (show (0 : Int) < m by omega), ?_⟩
      refine q _ _ (Int.emod_nonneg _ (by omega)) (Int.emod_lt_of_pos _ (by omega)) e3 ⟨hne, ns, t + 1, hs3, hc3, h3, h4, by omega⟩
end
end Pk
set_option Elab.async false
set_option linter.all false
set_option maxRecDepth 100000
set_option maxHeartbeats 4000000
set_option autoImplicit false
namespace Pk
open PySem PySem.Spec PyProof.Rows L2
open C8 (Cal Met Mak pe_c pe_mk pe_mt pe_mt0 pe_gc)
section
variable {P : Program} {w : World} {K : PySem.W.Frag} {mg : Str → Option Value} {base : Heap} {CG CP upA : Addr}
/-! ### _law_number, _law_kinds, _law_shape -/
theorem pickL {xs : List V} {p : V → Prop} (h : ∀ x ∈ xs, p x) {i : Int} (h0 : 0 ≤ i) (h1 : i < (xs.length : Int)) : ∃ x, atI xs i = some x ∧ p x := by
  obtain ⟨k, rfl⟩ : ∃ k : Nat, i = (k : Int) := ⟨i.toNat, by omega⟩
  have hk : k < xs.length := by omega
  exact ⟨xs[k], atI_nat (List.getElem?_eq_getElem hk), h _ (List.getElem_mem hk)⟩
theorem pickI {ns : List Int} {p : Int → Prop} (h : ∀ x ∈ ns, p x) {i : Int} (h0 : 0 ≤ i) (h1 : i < (ns.length : Int)) : ∃ x, atI (ns.map V.int) i = some (.int x) ∧ p x := by
  obtain ⟨k, rfl⟩ : ∃ k : Nat, i = (k : Int) := ⟨i.toNat, by omega⟩
  have hk : k < ns.length := by omega
  exact ⟨ns[k], atI_nat (by rw [List.getElem?_map, List.getElem?_eq_getElem hk]; rfl), h _ (List.getElem_mem hk)⟩
def sp_law_number (K : PySem.W.Frag) : Sp := fun vs H Q _ => ∃ (sd c : Addr) (n : Nat), vs = [.ref sd] ∧ LSt H sd c n ∧ n ≤ 900000 ∧ ∀ i H2, NumOk i → ExS sd c H H2 → LSt H2 sd c (n + 10) → Q (.int i) H2
theorem ok_law_number (T : Gf K mg CG CP upA) (D : Dfn K mg "_law_number" s_law_number) (c_law_take : Cal P w K mg base 1 "_law_take" (sp_law_take K) []) : Cal P w K mg base 2 "_law_number" (sp_law_number K) [] := by
  refine cal_mk D sc_law_number (fun _ _ _ _ _ _ us hl => match us, hl with | [_], _ => rfl) (fun vs H Q E h => ?_) (fun f cdv A outer s H vs Q E hr h => ?_)
  · obtain ⟨_, _, _, rfl, _⟩ := h; rfl
  · obtain ⟨sd, c, n, rfl, hL, hn, q⟩ := h
    refine ⟨_, pss_cons (ps_set (i := 1) sc_law_number.nd rfl (Or.inl rfl) (pe_c c_law_take hr (by decide) (by rfl) (pa_cons (pv 0) (pa_cons (pe_int) pa_nil))))
      (pss_cons (ps_set (i := 2) sc_law_number.nd rfl (Or.inl rfl) (pe_c c_law_take hr (by decide) (by rfl) (pa_cons (pv 0) (pa_cons (pe_int) pa_nil))))
      (Evl.pss_cut (ps_if (pt_cmpR op_eq (pv 1) (pe_int) (nomark _)) (pss_one (ps_set (i := 2) sc_law_number.nd rfl (Or.inl rfl) (pe_ix ix_list (pe_lst (pa_cons (pe_int) (pa_cons (pe_int) (pa_cons (pe_int) (pa_cons (pe_int) (pa_cons (pe_int) (pa_cons (pe_int) (pa_cons (pe_int) (pa_cons (pe_int) (pa_cons (pe_op op_sub (pe_op op_pow (pe_int) (pe_int)) (pe_int)) (pa_cons (pe_op op_pow (pe_int) (pe_int)) (pa_cons (pe_int) (pa_cons (pe_int) pa_nil))))))))))))) (pv 2) (fun _ _ => rfl)))) (pss_nil))
      (Evl.pss_cut (ps_if (pt_cmpR op_eq (pv 1) (pe_int) (nomark _)) (pss_one (ps_set (i := 2) sc_law_number.nd rfl (Or.inl rfl) (pe_op op_add (pe_op op_mul (pe_c c_law_take hr (by decide) (by rfl) (pa_cons (pv 0) (pa_cons (pe_op op_pow (pe_int) (pe_int)) pa_nil))) (pe_op op_pow (pe_int) (pe_int))) (pe_c c_law_take hr (by decide) (by rfl) (pa_cons (pv 0) (pa_cons (pe_op op_pow (pe_int) (pe_int)) pa_nil)))))) (pss_nil))
      (Evl.pss_cut (ps_if (pt_cmpR op_eq (pv 1) (pe_int) (nomark _)) (pss_one (ps_set (i := 2) sc_law_number.nd rfl (Or.inl rfl) (pe_c c_law_take hr (by decide) (by rfl) (pa_cons (pv 0) (pa_cons (pe_int) pa_nil))))) (pss_nil))
      (pss_one (ps_ret (pe_op op_mul (pv 2) (pe_ix ix_list (pe_lst (pa_cons (pe_int) (pa_cons (pe_un un_neg (pe_int)) pa_nil))) (pe_c c_law_take hr (by decide) (by rfl) (pa_cons (pv 0) (pa_cons (pe_int) pa_nil))) (fun _ _ => rfl))))))))), ?_⟩
    refine ⟨_, rfl, sd, c, 6, n, rfl, hL, by omega, by decide, by decide, fun way H1 w0 w1 e1 L1 => ?_⟩
    refine ⟨_, rfl, sd, c, 12, n + 1, rfl, L1, by omega, by decide, by decide, fun x2 H2 x0 x1 e2 L2 => ?_⟩
    have e12 := e1.trans e2
    refine ⟨fun σ' H' => ∃ x : Int, σ' = [some (.ref sd), some (.int way), some (.int x)] ∧ 0 ≤ x ∧ x < 1000000000000000000 ∧ ExS sd c H H' ∧ LSt H' sd c (n + 2), ?_, ?_⟩
    · refine ⟨_, rfl, rfl, _, rfl, ifB (fun _ => ?_) (fun _ => ⟨x2, rfl, x0, by omega, e12, L2⟩)⟩
      refine ⟨_, _, rfl, rfl, ⟨by decide, by decide, by decide⟩, _, _, rfl, rfl, _, _, rfl, rfl, ⟨by decide, by decide, by decide⟩, Nat.le_of_ble_eq_true rfl, fun p np => ?_⟩
      obtain ⟨x, hx, hxb⟩ := pickI (ns := [0, 1, 63, 64, 127, 128, 8191, 8192, 999999999999999999, 100000000000000000, 255, 256]) (p := fun x => 0 ≤ x ∧ x < 1000000000000000000) (by decide) x0 (by show x2 < 12; exact x1)
      obtain ⟨f1, f2⟩ := L2.fresh np
      exact ⟨_, rfl, _, _, _, _, rfl, rfl, lsOf upd_same, hx, x, rfl, hxb.1, hxb.2, e12.trans (.of (Ex.n np)), L2.mut f1 f2⟩
    rintro σ' H3 ⟨x3, rfl, b0, b1, e3, L3⟩
    refine ⟨fun σ' H' => ∃ x : Int, σ' = [some (.ref sd), some (.int way), some (.int x)] ∧ 0 ≤ x ∧ x < 1000000000000000000 ∧ ExS sd c H H' ∧ LSt H' sd c (n + 4), ?_, ?_⟩
    · refine ⟨_, rfl, rfl, _, rfl, ifB (fun _ => ?_) (fun _ => ⟨x3, rfl, b0, b1, e3, L3.up (by omega)⟩)⟩
      refine ⟨_, rfl, _, _, rfl, rfl, ⟨by decide, by decide, by decide⟩, sd, c, _, n + 2, rfl, L3, by omega, by decide, by decide, fun u H4 u0 u1 e4 L4 => ?_⟩
      have u1 : u < 1000000000 := u1
      refine ⟨_, _, rfl, rfl, ⟨by decide, by decide, by decide⟩, _, _, rfl, rfl, .inl ⟨by omega, by omega⟩, _, rfl, _, _, rfl, rfl, ⟨by decide, by decide, by decide⟩, sd, c, _, n + 2 + 1, rfl, L4, by omega, by decide, by decide, fun v H5 v0 v1 e5 L5 => ?_⟩
      have v1 : v < 1000000000 := v1
      refine ⟨_, _, rfl, rfl, u * 1000000000 + v, rfl, by omega, by omega, (e3.trans e4).trans e5, L5⟩
    rintro σ' H6 ⟨x6, rfl, c0, c1, e6, L6⟩
    refine ⟨fun σ' H' => ∃ x : Int, σ' = [some (.ref sd), some (.int way), some (.int x)] ∧ 0 ≤ x ∧ x < 1000000000000000000 ∧ ExS sd c H H' ∧ LSt H' sd c (n + 5), ?_, ?_⟩
    · refine ⟨_, rfl, rfl, _, rfl, ifB (fun _ => ?_) (fun _ => ⟨x6, rfl, c0, c1, e6, L6.up (by omega)⟩)⟩
      exact ⟨_, rfl, sd, c, 2000, n + 4, rfl, L6, by omega, by decide, by decide, fun v H5 v0 v1 e5 L5 => ⟨v, rfl, v0, by omega, e6.trans e5, L5⟩⟩
    rintro σ' H7 ⟨x7, rfl, d0, d1, e7, L7⟩
    refine ⟨_, rfl, _, rfl, Nat.le_of_ble_eq_true rfl, fun p np => ?_⟩
    obtain ⟨f1, f2⟩ := L7.fresh np
    have L8 := L7.mut (o := .lst [.int 1, .int (-1)]) f1 f2
    have e8 := e7.trans (ExS.of (Ex.n (o := .lst [.int 1, .int (-1)]) np))
    refine ⟨_, rfl, sd, c, 2, n + 5, rfl, L8, by omega, by decide, by decide, fun v H9 v0 v1 e9 L9 => ?_⟩
    obtain ⟨y, hy, hyb⟩ := pickI (ns := [1, -1]) (p := fun x => x = 1 ∨ x = -1) (by decide) v0 (by show v < 2; exact v1)
    have hp9 : H9 p = some (.lst [.int 1, .int (-1)]) := (rmS_get (e9 _ _ (rmS_of upd_same f1 f2))).1
    refine ⟨_, _, _, _, rfl, rfl, lsOf hp9, hy, _, _, rfl, rfl, .inl ⟨by omega, by omega⟩, ?_⟩
    refine q _ H9 ?_ (e8.trans e9) (L9.up (by omega))
    unfold NumOk
    rcases hyb with rfl | rfl
    · show -1000000000000000000 < x7 * 1 ∧ x7 * 1 < 1000000000000000000
      omega
    · show -1000000000000000000 < x7 * -1 ∧ x7 * -1 < 1000000000000000000
      omega
/-- the kinds' names -/
def kdV (b : Bool) : V := .str (kdS b)
def sp_law_kinds (K : PySem.W.Frag) : Sp := fun vs H Q _ => ∃ (sd c : Addr) (n : Nat), vs = [.ref sd] ∧ LSt H sd c n ∧ n ≤ 900000 ∧ ∀ (p : Addr) (ks : List Bool) (H2 : Hp), 1 ≤ ks.length → ks.length ≤ 8 → ExS sd c H H2 → LSt H2 sd c (n + 20) → H p = none → H2 p = some (.lst (ks.map kdV)) → Q (.ref p) H2
theorem ok_law_kinds (T : Gf K mg CG CP upA) (D : Dfn K mg "_law_kinds" s_law_kinds) (c_law_take : Cal P w K mg base 1 "_law_take" (sp_law_take K) []) : Cal P w K mg base 2 "_law_kinds" (sp_law_kinds K) [] := by
  refine cal_mk D sc_law_kinds (fun _ _ _ _ _ _ us hl => match us, hl with | [_], _ => rfl) (fun vs H Q E h => ?_) (fun f cdv A outer s H vs Q E hr h => ?_)
  · obtain ⟨_, _, _, rfl, _⟩ := h; rfl
  · obtain ⟨sd, c, n, rfl, hL, hn, q⟩ := h
    refine ⟨_, Evl.pss_cut (ps_set (i := 1) sc_law_kinds.nd rfl (Or.inl rfl) (pe_ifExp (pt_cmpR op_eq (pe_c c_law_take hr (by decide) (by rfl) (pa_cons (pv 0) (pa_cons (pe_int) pa_nil))) (pe_int) (nomark _)) (pe_op op_add (pe_int) (pe_c c_law_take hr (by decide) (by rfl) (pa_cons (pv 0) (pa_cons (pe_int) pa_nil)))) (pe_op op_add (pe_int) (pe_c c_law_take hr (by decide) (by rfl) (pa_cons (pv 0) (pa_cons (pe_int) pa_nil))))))
      (pss_one (ps_ret (pe_lc (own := [("_law_turn", 2)]) (g := gName 2) (tt := tYes) (te := (tOp (rIxL K) _ _)) (by rfl) sc_law_kinds.nd (pi_range1 (by rfl) T.range (pa_cons (pv 1) pa_nil)) (blkOk_by (N := N_law_kinds) (sc := defScope s_law_kinds) (by decide +kernel)) (fun _ _ _ _ _ => pg_name (i := 2) sc_law_kinds.nd rfl (Or.inl rfl)) (fun _ _ _ _ _ => pts_nil) (fun _ _ _ _ _ => pe_ix ix_list (pe_lst (pa_cons (pe_str) (pa_cons (pe_str) pa_nil))) (pe_op op_fdiv (pe_c c_law_take hr (by decide) (by rfl) (pa_cons (pv 0) (pa_cons (pe_int) pa_nil))) (pe_int)) (fun _ _ => rfl))))), ?_⟩
    refine ⟨fun σ' H' => ∃ m : Nat, σ' = [some (.ref sd), some (.int (m : Int)), none] ∧ 1 ≤ m ∧ m ≤ 8 ∧ ExS sd c H H' ∧ LSt H' sd c (n + 2), ?_, ?_⟩
    · refine ⟨_, rfl, sd, c, 8, n, rfl, hL, by omega, by decide, by decide, fun u H1 u0 u1 e1 L1 => ?_⟩
      refine ⟨rfl, _, rfl, ifB (fun _ => ?_) (fun _ => ?_)⟩
      · refine ⟨_, rfl, sd, c, 2, n + 1, rfl, L1, by omega, by decide, by decide, fun v H2 v0 v1 e2 L2 => ?_⟩
        exact ⟨_, _, rfl, rfl, (7 + v).toNat, by rw [Int.toNat_of_nonneg (by omega)]; rfl, by omega, by omega, e1.trans e2, L2⟩
      · refine ⟨_, rfl, sd, c, 4, n + 1, rfl, L1, by omega, by decide, by decide, fun v H2 v0 v1 e2 L2 => ?_⟩
        exact ⟨_, _, rfl, rfl, (1 + v).toNat, by rw [Int.toNat_of_nonneg (by omega)]; rfl, by omega, by omega, e1.trans e2, L2⟩
    rintro σ' H2 ⟨m, rfl, m1, m2, e2, L2⟩
    refine ⟨_, rfl, _, rfl, by omega, by omega, fun d nd => ?_⟩
    obtain ⟨d1, d2⟩ := L2.fresh nd
    have hHd : H d = none := by
      cases g : H d with
      | none => rfl
      | some o =>
        have := (rmS_get (e2 d o (rmS_of g d1 d2))).1
        rw [this] at nd
        cases nd
    refine lc_it (walk_range (lo := 0) (n := m)) (fun i H' => ExS sd c H H' ∧ LSt H' sd c (n + 2 + i) ∧ ∃ ks : List Bool, H' d = some (.lst (ks.map kdV)) ∧ ks.length = i) ⟨e2.trans (.of (Ex.n nd)), L2.mut d1 d2, [], upd_same, rfl⟩ (fun _ _ _ _ => trivial) (fun i x H' H3 hi hI hy => ?_) (fun H' hI => ?_)
    · obtain ⟨e3, L3, ks, hd, hkl⟩ := hI
      obtain ⟨rfl, rfl⟩ := hy
      refine ⟨rfl, ?_⟩
      refine ⟨Nat.le_of_ble_eq_true rfl, fun p np => ?_⟩
      obtain ⟨f1, f2⟩ := L3.fresh np
      have e4 := e3.trans (ExS.of (Ex.n (o := .lst [.str "number", .str "text"]) np))
      have L4 := L3.mut (o := .lst [.str "number", .str "text"]) f1 f2
      have hd4 := Ex.n (o := .lst [.str "number", .str "text"]) np _ _ hd
      refine ⟨_, rfl, sd, c, 3, n + 2 + i, rfl, L4, by omega, by decide, by decide, fun v H5 v0 v1 e5 L5 => ?_⟩
      have hp5 : H5 p = some (.lst [.str "number", .str "text"]) := (rmS_get (e5 _ _ (rmS_of upd_same f1 f2))).1
      have hd5 := (rmS_get (e5 _ _ (rmS_of hd4 d1 d2))).1
      have hv2 : v / 2 = 0 ∨ v / 2 = 1 := by omega
      have hat : ∃ b : Bool, atI [V.str "number", V.str "text"] (v / 2) = some (kdV b) := by
        rcases hv2 with e | e
        · exact ⟨true, at_k (k := 0) rfl (by rw [e]; rfl)⟩
        · exact ⟨false, at_k (k := 1) rfl (by rw [e]; rfl)⟩
      obtain ⟨b, hb⟩ := hat
      refine ⟨_, _, rfl, rfl, ⟨by decide, by decide⟩, _, _, _, _, rfl, rfl, lsOf hp5, hb, ?_⟩
      refine ⟨_, hd5, smlt (by rw [List.length_map]; omega), (e4.trans e5).mut hHd, (L5.up (by omega)).mut d1 d2, ks ++ [b], ?_, by rw [List.length_append, hkl]; rfl⟩
      rw [upd_same, List.map_append]
      rfl
    · obtain ⟨e3, L3, ks, hd, hkl⟩ := hI
      exact q d ks H' (by omega) (by omega) e3 (L3.up (by omega)) hHd hd
def sp_law_shape (K : PySem.W.Frag) : Sp := fun vs H Q _ => ∃ (sd c : Addr) (n : Nat), vs = [.ref sd] ∧ LSt H sd c n ∧ n ≤ 900000 ∧ ∀ (p : Addr) (many long : Nat) (H2 : Hp), many ≤ 100 → 1 ≤ long → long ≤ 64 → ExS sd c H H2 → LSt H2 sd c (n + 20) → H2 p = some (.tup [.int (many : Int), .int (long : Int)]) → p ≠ sd → p ≠ c → Q (.ref p) H2
theorem LSt.keep {H H' : Hp} {sd c a : Addr} {n : Nat} {o : HO} (h : LSt H sd c n) (e : ExS sd c H H') (ha : H a = some o) (n1 : a ≠ sd) (n2 : a ≠ c) : H' a = some o := (rmS_get (e _ _ (rmS_of ha n1 n2))).1
theorem ok_law_shape (T : Gf K mg CG CP upA) (D : Dfn K mg "_law_shape" s_law_shape) (c_law_take : Cal P w K mg base 1 "_law_take" (sp_law_take K) []) : Cal P w K mg base 2 "_law_shape" (sp_law_shape K) [] := by
  refine cal_mk D sc_law_shape (fun _ _ _ _ _ _ us hl => match us, hl with | [_], _ => rfl) (fun vs H Q E h => ?_) (fun f cdv A outer s H vs Q E hr h => ?_)
  · obtain ⟨_, _, _, rfl, _⟩ := h; rfl
  · obtain ⟨sd, c, n, rfl, hL, hn, q⟩ := h
    refine ⟨_, pss_cons (ps_set (i := 1) sc_law_shape.nd rfl (Or.inl rfl) (pe_ix ix_list (pe_lst (pa_cons (pe_c c_law_take hr (by decide) (by rfl) (pa_cons (pv 0) (pa_cons (pe_int) pa_nil))) (pa_cons (pe_c c_law_take hr (by decide) (by rfl) (pa_cons (pv 0) (pa_cons (pe_int) pa_nil))) (pa_cons (pe_op op_add (pe_int) (pe_c c_law_take hr (by decide) (by rfl) (pa_cons (pv 0) (pa_cons (pe_int) pa_nil)))) pa_nil)))) (pe_c c_law_take hr (by decide) (by rfl) (pa_cons (pv 0) (pa_cons (pe_int) pa_nil))) (fun _ _ => rfl)))
      (pss_cons (ps_set (i := 2) sc_law_shape.nd rfl (Or.inl rfl) (pe_ix ix_list (pe_lst (pa_cons (pe_op op_add (pe_int) (pe_c c_law_take hr (by decide) (by rfl) (pa_cons (pv 0) (pa_cons (pe_int) pa_nil)))) (pa_cons (pe_op op_add (pe_int) (pe_c c_law_take hr (by decide) (by rfl) (pa_cons (pv 0) (pa_cons (pe_int) pa_nil)))) (pa_cons (pe_op op_add (pe_int) (pe_c c_law_take hr (by decide) (by rfl) (pa_cons (pv 0) (pa_cons (pe_int) pa_nil)))) pa_nil)))) (pe_c c_law_take hr (by decide) (by rfl) (pa_cons (pv 0) (pa_cons (pe_int) pa_nil))) (fun _ _ => rfl)))
      (Evl.pss_cut (ps_if (pt_cmpR op_eq (pe_c c_law_take hr (by decide) (by rfl) (pa_cons (pv 0) (pa_cons (pe_int) pa_nil))) (pe_int) (nomark _)) (pss_cons (ps_set (i := 1) sc_law_shape.nd rfl (Or.inl rfl) (pe_op op_add (pe_int) (pe_c c_law_take hr (by decide) (by rfl) (pa_cons (pv 0) (pa_cons (pe_int) pa_nil)))))
        (pss_one (ps_set (i := 2) sc_law_shape.nd rfl (Or.inl rfl) (pe_callB (call_max2 rfl) (by rfl) T.max (by decide +kernel) (pa_cons (pe_int) (pa_cons (pv 2) pa_nil)))))) (pss_nil))
      (pss_one (ps_ret (pe_tup (pa_cons (pe_callB (call_max2 rfl) (by rfl) T.max (by decide +kernel) (pa_cons (pv 1) (pa_cons (pe_ix ix_list (pe_lst (pa_cons (pe_int) (pa_cons (pe_int) (pa_cons (pe_int) (pa_cons (pe_int) pa_nil))))) (pe_c c_law_take hr (by decide) (by rfl) (pa_cons (pv 0) (pa_cons (pe_int) pa_nil))) (fun _ _ => rfl)) pa_nil))) (pa_cons (pv 2) pa_nil))))))), ?_⟩
    refine ⟨_, rfl, sd, c, 4, n, rfl, hL, by omega, by decide, by decide, fun a1 H1 a10 a11 e1 L1 => ?_⟩
    refine ⟨_, rfl, sd, c, 13, n + 1, rfl, L1, by omega, by decide, by decide, fun a2 H2 a20 a21 e2 L2 => ?_⟩
    refine ⟨_, rfl, sd, c, 20, n + 2, rfl, L2, by omega, by decide, by decide, fun a3 H3 a30 a31 e3 L3 => ?_⟩
    refine ⟨_, _, rfl, rfl, Nat.le_of_ble_eq_true rfl, fun p np => ?_⟩
    obtain ⟨f1, f2⟩ := L3.fresh np
    have L4 := L3.mut (o := .lst ([a1, a2, 3 + a3].map V.int)) f1 f2
    have e4 := ((e1.trans e2).trans e3).trans (ExS.of (Ex.n (o := .lst ([a1, a2, 3 + a3].map V.int)) np))
    refine ⟨_, rfl, sd, c, 3, n + 3, rfl, L4, by omega, by decide, by decide, fun a4 H5 a40 a41 e5 L5 => ?_⟩
    have hp5 : H5 p = some (.lst ([a1, a2, 3 + a3].map V.int)) := L4.keep e5 upd_same f1 f2
    obtain ⟨many, hm, hmb⟩ := pickI (ns := [a1, a2, 3 + a3]) (p := fun x => 0 ≤ x ∧ x < 30) (fun x hx => by
      simp only [List.mem_cons, List.not_mem_nil, or_false] at hx
      rcases hx with rfl | rfl | rfl <;> omega) a40 (by show a4 < 3; exact a41)
    refine ⟨_, _, _, _, rfl, rfl, lsOf hp5, hm, ?_⟩
    have e45 := e4.trans e5
    refine ⟨_, rfl, sd, c, 4, n + 4, rfl, L5, by omega, by decide, by decide, fun b1 H6 b10 b11 e6 L6 => ?_⟩
    refine ⟨_, _, rfl, rfl, _, rfl, sd, c, 9, n + 5, rfl, L6, by omega, by decide, by decide, fun b2 H7 b20 b21 e7 L7 => ?_⟩
    refine ⟨_, _, rfl, rfl, _, rfl, sd, c, 2, n + 6, rfl, L7, by omega, by decide, by decide, fun b3 H8 b30 b31 e8 L8 => ?_⟩
    refine ⟨_, _, rfl, rfl, Nat.le_of_ble_eq_true rfl, fun p2 np2 => ?_⟩
    obtain ⟨g1, g2⟩ := L8.fresh np2
    have L9 := L8.mut (o := .lst ([1 + b1, 1 + b2, 63 + b3].map V.int)) g1 g2
    have e9 := (((e45.trans e6).trans e7).trans e8).trans (ExS.of (Ex.n (o := .lst ([1 + b1, 1 + b2, 63 + b3].map V.int)) np2))
    refine ⟨_, rfl, sd, c, 3, n + 7, rfl, L9, by omega, by decide, by decide, fun b4 HA b40 b41 eA LA => ?_⟩
    have hp2A : HA p2 = some (.lst ([1 + b1, 1 + b2, 63 + b3].map V.int)) := L9.keep eA upd_same g1 g2
    obtain ⟨long, hl, hlb⟩ := pickI (ns := [1 + b1, 1 + b2, 63 + b3]) (p := fun x => 1 ≤ x ∧ x ≤ 64) (fun x hx => by
      simp only [List.mem_cons, List.not_mem_nil, or_false] at hx
      rcases hx with rfl | rfl | rfl <;> omega) b40 (by show b4 < 3; exact b41)
    refine ⟨_, _, _, _, rfl, rfl, lsOf hp2A, hl, ?_⟩
    have eA0 := e9.trans eA
    refine ⟨fun σ' H' => ∃ many long : Int, σ' = [some (.ref sd), some (.int many), some (.int long)] ∧ 0 ≤ many ∧ many ≤ 70 ∧ 1 ≤ long ∧ long ≤ 64 ∧ ExS sd c H H' ∧ LSt H' sd c (n + 10), ?_, ?_⟩
    · refine ⟨_, rfl, sd, c, 8, n + 8, rfl, LA, by omega, by decide, by decide, fun b5 HB b50 b51 eB LB => ?_⟩
      refine ⟨rfl, _, rfl, ifB (fun _ => ?_) (fun _ => ⟨many, long, rfl, hmb.1, by omega, hlb.1, hlb.2, eA0.trans eB, LB.up (by omega)⟩)⟩
      refine ⟨_, rfl, sd, c, 31, n + 9, rfl, LB, by omega, by decide, by decide, fun b6 HC b60 b61 eC LC => ?_⟩
      refine ⟨_, _, rfl, rfl, ?_⟩
      refine ⟨_, rfl, _, _, rfl, ?_⟩
      exact ⟨40 + b6, if long > 5 then long else 5, rfl, by omega, by omega, by split <;> omega, by split <;> omega, (eA0.trans eB).trans eC, LC⟩
    rintro σ' HD ⟨many, long, rfl, m0, m1, l0, l1, eD, LD⟩
    refine ⟨_, rfl, Nat.le_of_ble_eq_true rfl, fun p3 np3 => ?_⟩
    obtain ⟨k1, k2⟩ := LD.fresh np3
    have LE := LD.mut (o := .lst ([5, 2, 3, 0].map V.int)) k1 k2
    have eE := eD.trans (ExS.of (Ex.n (o := .lst ([5, 2, 3, 0].map V.int)) np3))
    refine ⟨_, rfl, sd, c, 4, n + 10, rfl, LE, by omega, by decide, by decide, fun b7 HF b70 b71 eF LF => ?_⟩
    have hp3 : HF p3 = some (.lst ([5, 2, 3, 0].map V.int)) := LE.keep eF upd_same k1 k2
    obtain ⟨y, hy, hyb⟩ := pickI (ns := [5, 2, 3, 0]) (p := fun x => 0 ≤ x ∧ x ≤ 5) (by decide) b70 (by show b7 < 4; exact b71)
    refine ⟨_, _, _, _, rfl, rfl, lsOf hp3, hy, _, _, rfl, _, rfl, Nat.le_of_ble_eq_true rfl, fun p4 np4 => ?_⟩
    obtain ⟨j1, j2⟩ := LF.fresh np4
    have hmx : 0 ≤ (if y > many then y else many) ∧ (if y > many then y else many) ≤ 100 := by
      split <;> omega
    refine q p4 (if y > many then y else many).toNat long.toNat _ (by omega) (by omega) (by omega) ((eE.trans eF).trans (.of (Ex.n np4))) ((LF.mut j1 j2).up (by omega)) ?_ j1 j2
    rw [upd_same, Int.toNat_of_nonneg hmx.1, Int.toNat_of_nonneg (by omega)]
end
end Pk
set_option Elab.async false
set_option linter.all false
set_option maxRecDepth 100000
set_option maxHeartbeats 4000000
set_option autoImplicit false
namespace Pk
open PySem PySem.Spec PyProof.Rows L2
open C8 (Cal Met Mak pe_c pe_mk pe_mt pe_mt0 pe_gc)
section
variable {P : Program} {w : World} {K : PySem.W.Frag} {mg : Str → Option Value} {base : Heap} {CG CP upA : Addr}
/-! ### _law_text, _law_near, _law_cell_test -/
def txB (z : Str) : Bool := decide (z.length ≤ 20) && z.cps.toList.all fun c => decide (c ∈ sgL)
theorem txB_ok {z : Str} (h : txB z = true) : TxtOk z := by
  unfold txB at h
  rw [Bool.and_eq_true] at h
  exact ⟨of_decide_eq_true h.1, fun c hc => of_decide_eq_true (List.all_eq_true.mp h.2 c hc)⟩
def lwW : List Str := ["a", "", "aa", "b", "ab", "~", " ", "zz top", "Aa", "0", "aaaaaaaaaaaaaaaaaaaa", "the twenty signs of "]
theorem lwW_ok : ∀ z ∈ lwW, TxtOk z := by
  have : lwW.all txB = true := by decide +kernel
  exact fun z hz => txB_ok (List.all_eq_true.mp this z hz)
def lwS : Str := " !\"#$&'()*+,-./0123456789:;<=>?@ABCXYZ[]^_`abcxyz{|}~"
theorem lwS_ok : ∀ c ∈ lwS.cps.toList, c ∈ sgL := by
  have : lwS.cps.toList.all (fun c => decide (c ∈ sgL)) = true := by decide +kernel
  exact fun c hc => of_decide_eq_true (List.all_eq_true.mp this c hc)
theorem lwS_len : lwS.length = 53 := by decide +kernel
theorem join_ch (cs : List Nat) : Txt.join (⟨#[]⟩ : Str) (cs.map fun c => (⟨#[c]⟩ : Str)) = ⟨cs.toArray⟩ := by
  have h := SX.join_S [] (cs.map fun c => [c])
  have e1 : (cs.map fun c => [c]).map SX.S = cs.map fun c => (⟨#[c]⟩ : Str) := by
    rw [List.map_map]
    rfl
  rw [e1] at h
  refine h.trans ?_
  have e2 : ∀ cs : List Nat, TL.joinL [] (cs.map fun c => [c]) = cs := by
    intro cs
    induction cs with
    | nil => rfl
    | cons a r ih =>
      cases r with
      | nil => rfl
      | cons b r =>
        show [a] ++ ([] ++ TL.joinL [] ((b :: r).map fun c => [c])) = _
        rw [ih]
        rfl
  rw [e2]
theorem cut20 : cutS "the twenty signs of it" none (some 20) = "the twenty signs of " := by decide +kernel
theorem ne_emp : (Str.ofString "") = (⟨#[]⟩ : Str) := by decide +kernel
def sp_law_text (K : PySem.W.Frag) : Sp := fun vs H Q _ => ∃ (sd c : Addr) (n : Nat), vs = [.ref sd] ∧ LSt H sd c n ∧ n ≤ 900000 ∧ ∀ z H2, TxtOk z → ExS sd c H H2 → LSt H2 sd c (n + 30) → Q (.str z) H2
theorem ok_law_text (T : Gf K mg CG CP upA) (D : Dfn K mg "_law_text" s_law_text) (c_law_take : Cal P w K mg base 1 "_law_take" (sp_law_take K) []) : Cal P w K mg base 2 "_law_text" (sp_law_text K) [] := by
  refine cal_mk D sc_law_text (fun _ _ _ _ _ _ us hl => match us, hl with | [_], _ => rfl) (fun vs H Q E h => ?_) (fun f cdv A outer s H vs Q E hr h => ?_)
  · obtain ⟨_, _, _, rfl, _⟩ := h; rfl
  · obtain ⟨sd, c, n, rfl, hL, hn, q⟩ := h
    refine ⟨_, pss_cons (ps_set (i := 1) sc_law_text.nd rfl (Or.inl rfl) (pe_lst (pa_cons (pe_str) (pa_cons (pe_str) (pa_cons (pe_str) (pa_cons (pe_str) (pa_cons (pe_str) (pa_cons (pe_str) (pa_cons (pe_str) (pa_cons (pe_str) (pa_cons (pe_str) (pa_cons (pe_str) (pa_cons (pe_op op_repS (pe_str) (pe_int)) (pa_cons (pe_slice sl_str (pe_str) (po_none) (po_some (pe_int))) pa_nil))))))))))))))
      (pss_cons (ps_if (pt_cmpR op_gt (pe_c c_law_take hr (by decide) (by rfl) (pa_cons (pv 0) (pa_cons (pe_int) pa_nil))) (pe_int) (nomark _)) (pss_one (ps_ret (pe_ix ix_list (pv 1) (pe_c c_law_take hr (by decide) (by rfl) (pa_cons (pv 0) (pa_cons (pe_int) pa_nil))) (fun _ _ => rfl)))) (pss_nil))
      (pss_cons (ps_set (i := 2) sc_law_text.nd rfl (Or.inr rfl) (pe_str))
      (pss_one (ps_ret (pe_join (pe_str) (pe_lc (own := [("_law_turn", 3)]) (g := gName 3) (tt := tYes) (te := (tOp (rIxS) _ _)) (by rfl) sc_law_text.nd (pi_range1 (by rfl) T.range (pa_cons (pe_c c_law_take hr (by decide) (by rfl) (pa_cons (pv 0) (pa_cons (pe_int) pa_nil))) pa_nil)) (blkOk_by (N := N_law_text) (sc := defScope s_law_text) (by decide +kernel)) (fun _ _ _ _ _ => pg_name (i := 3) sc_law_text.nd rfl (Or.inl rfl)) (fun _ _ _ _ _ => pts_nil) (fun _ _ _ _ _ => pe_ix ix_str (pv 2) (pe_c c_law_take hr (by decide) (by rfl) (pa_cons (pv 0) (pa_cons (pe_callB call_len_str (by rfl) T.len (by decide +kernel) (pa_cons (pv 2) pa_nil)) pa_nil))) (fun _ _ => rfl)))))))), ?_⟩
    refine ⟨rfl, rfl, _, rfl, _, rfl, (by decide +kernel), ?_⟩
    rw [cut20]
    refine ⟨Nat.le_of_ble_eq_true rfl, fun p np => ?_⟩
    obtain ⟨f1, f2⟩ := hL.fresh np
    have e1 := ExS.of (sd := sd) (c := c) (Ex.n (o := .lst (lwW.map V.str)) np)
    have L1 := hL.mut (o := .lst (lwW.map V.str)) f1 f2
    refine ⟨_, rfl, sd, c, 4, n, rfl, L1, by omega, by decide, by decide, fun u H2 u0 u1 e2 L2 => ?_⟩
    have hp2 : H2 p = some (.lst (lwW.map V.str)) := L1.keep e2 upd_same f1 f2
    refine ⟨_, _, rfl, rfl, _, rfl, ifB (fun _ => ?_) (fun _ => ?_)⟩
    · refine ⟨_, rfl, _, rfl, sd, c, 12, n + 1, rfl, L2, by omega, by decide, by decide, fun v H3 v0 v1 e3 L3 => ?_⟩
      have hp3 := L2.keep e3 hp2 f1 f2
      obtain ⟨x, hx, z, hz, rfl⟩ := pickL (xs := lwW.map V.str) (p := fun x => ∃ z, TxtOk z ∧ x = .str z) (fun x hx => by
        obtain ⟨z, hz, rfl⟩ := List.mem_map.mp hx
        exact ⟨z, lwW_ok z hz, rfl⟩) v0 (by show v < 12; exact v1)
      exact ⟨_, _, _, _, rfl, rfl, lsOf hp3, hx, q z H3 hz ((e1.trans e2).trans e3) (L3.up (by omega))⟩
    · refine ⟨⟨_, rfl⟩, _, rfl, sd, c, 21, n + 1, rfl, L2, by omega, by decide, by decide, fun m H3 m0 m1 e3 L3 => ?_⟩
      refine ⟨_, rfl, by omega, by omega, fun d nd => ?_⟩
      obtain ⟨d1, d2⟩ := L3.fresh nd
      have e13 := (e1.trans e2).trans e3
      refine lc_it (walk_range (lo := 0) (n := m.toNat)) (fun i H' => ExS sd c H3 H' ∧ LSt H' sd c (n + 2 + i) ∧ ∃ cs : List Nat, H' d = some (.lst (cs.map fun c => V.str ⟨#[c]⟩)) ∧ cs.length = i ∧ ∀ c ∈ cs, c ∈ sgL) ⟨.of (Ex.n nd), L3.mut d1 d2, [], upd_same, rfl, fun c h => by cases h⟩ (fun _ _ _ _ => trivial) (fun i x H' H4 hi hI hy => ?_) (fun H' hI => ?_)
      · obtain ⟨e4, L4, cs, hd, hcl, hcs⟩ := hI
        obtain ⟨rfl, rfl⟩ := hy
        refine ⟨rfl, ?_⟩
        refine ⟨_, rfl, _, rfl, _, rfl, _, rfl, (by decide +kernel), sd, c, _, n + 2 + i, rfl, L4, by omega, (by decide +kernel), (by decide +kernel), fun v H5 v0 v1 e5 L5 => ?_⟩
        have v1 : v < (lwS.length : Int) := v1
        have hd5 := (rmS_get (e5 _ _ (rmS_of hd d1 d2))).1
        obtain ⟨k, rfl⟩ : ∃ k : Nat, v = (k : Int) := ⟨v.toNat, by omega⟩
        have hk : k < lwS.cps.toList.length := by rw [← str_len]; omega
        refine ⟨lwS, _, lwS.cps.toList[k], rfl, rfl, (by decide +kernel), atI_nat (List.getElem?_eq_getElem hk), ?_⟩
        refine ⟨_, hd5, smlt (by rw [List.length_map]; omega), (e4.trans e5).mut nd, (L5.up (by omega)).mut d1 d2, cs ++ [lwS.cps.toList[k]], ?_, by rw [List.length_append, hcl]; rfl, fun c hc => ?_⟩
        · rw [upd_same, List.map_append]
          rfl
        · rcases List.mem_append.mp hc with hc | hc
          · exact hcs c hc
          · rw [List.mem_singleton.mp hc]
            exact lwS_ok _ (List.getElem_mem hk)
      · obtain ⟨e4, L4, cs, hd, hcl, hcs⟩ := hI
        refine ⟨_, d, cs.map fun c => (⟨#[c]⟩ : Str), rfl, rfl, .inl (lsOf (by rw [hd, List.map_map]; rfl)), ?_, ?_⟩
        · have : ((cs.map fun c => (⟨#[c]⟩ : Str)).map (·.length)).sum ≤ cs.length := by
            rw [List.map_map]
            have e : cs.map ((fun z : Str => z.length) ∘ fun c => (⟨#[c]⟩ : Str)) = List.replicate cs.length 1 := by
              rw [← List.map_const']
              rfl
            rw [e, List.sum_replicate_nat]
            omega
          have hl0 : (Str.ofString "").length = 0 := by decide +kernel
          rw [hl0, Nat.mul_zero]
          omega
        · rw [ne_emp, join_ch]
          refine q _ H' ⟨?_, fun c hc => hcs c hc⟩ (e13.trans e4) (L4.up (by omega))
          show cs.toArray.size ≤ 20
          rw [List.size_toArray]
          omega
theorem kd_text (b : Bool) : decide (kdV b = V.str "text") = !b := by cases b <;> decide +kernel
theorem kd_number (b : Bool) : decide (kdV b = V.str "number") = b := by cases b <;> decide +kernel
theorem layAll {ds : List PyData} (h : ∀ d ∈ ds, d.canLay0 = true) : PyData.canLayAll0 ds = true := by
  induction ds with
  | nil => simp [PyData.canLayAll0]
  | cons d r ih =>
    simp only [PyData.canLayAll0, Bool.and_eq_true]
    exact ⟨h d (List.mem_cons_self ..), ih fun x hx => h x (List.mem_cons_of_mem _ hx)⟩
theorem depAll {ds : List PyData} {n : Nat} (h : ∀ d ∈ ds, d.depth ≤ n) : PyData.depthAll ds ≤ n := by
  induction ds with
  | nil => simp [PyData.depthAll]
  | cons d r ih =>
    simp only [PyData.depthAll]
    have h1 := h d (List.mem_cons_self ..)
    have h2 := ih fun x hx => h x (List.mem_cons_of_mem _ hx)
    omega
theorem flat_shaped {ds : List PyData} (h : ∀ d ∈ ds, d.canLay0 = true ∧ d.depth = 0) : SeqAt.shaped (.list ds) = true := by
  have h1 := layAll fun d hd => (h d hd).1
  have h2 := depAll (n := 0) fun d hd => Nat.le_of_eq (h d hd).2
  simp only [SeqAt.shaped, PyData.canLay0, PyData.depth, h1, Bool.true_and]
  exact decide_eq_true (by omega)
theorem txt_lay {z : Str} (h : TxtOk z) : (PyData.str z).canLay0 = true := by
  have h1 : sgL.all (fun c => decide (c < 0x110000)) = true := by decide +kernel
  simp only [PyData.canLay0, PyData.strOk]
  rw [← Array.all_toList]
  exact List.all_eq_true.mpr fun c hc => List.all_eq_true.mp h1 c (h.2 c hc)
theorem kn_eqv {b : Bool} {cs : List V} (h : ∀ c ∈ cs, CK b c ∧ c ≠ .non) : ∃ ds, (∀ (K : PySem.W.Frag) (H : Hp), DpAll K H cs ds) ∧ SeqAt.shaped (.list ds) = true ∧ PyData.eqv (.list ds) (.list []) = cs.isEmpty := by
  cases b with
  | true =>
    have : ∃ ns : List Int, cs = ns.map V.int := by
      induction cs with
      | nil => exact ⟨[], rfl⟩
      | cons c r ih =>
        obtain ⟨h1, h2⟩ := h c (List.mem_cons_self ..)
        obtain ⟨ns, hn⟩ := ih (fun x hx => h x (List.mem_cons_of_mem _ hx))
        cases (show NumC c from h1) with
        | non => exact absurd rfl h2
        | @int i h1 => exact ⟨i :: ns, by rw [hn]; rfl⟩
    obtain ⟨ns, rfl⟩ := this
    refine ⟨ns.map .int, fun _ _ => dp_ints ns, PySem.W.ke_shaped_ints ns, ?_⟩
    rw [eqv_nil]
    cases ns <;> rfl
  | false =>
    have : ∃ ns : List Str, cs = ns.map V.str ∧ ∀ z ∈ ns, TxtOk z := by
      induction cs with
      | nil => exact ⟨[], rfl, fun _ h => by cases h⟩
      | cons c r ih =>
        obtain ⟨h1, h2⟩ := h c (List.mem_cons_self ..)
        obtain ⟨ns, hn, ht⟩ := ih (fun x hx => h x (List.mem_cons_of_mem _ hx))
        have h1 : TxtC c := h1
        cases h1 with
        | non => exact absurd rfl h2
        | @str i h1 =>
          refine ⟨i :: ns, by rw [hn]; rfl, fun z hz => ?_⟩
          rcases List.mem_cons.mp hz with rfl | hz
          · assumption
          · exact ht z hz
    obtain ⟨ns, rfl, ht⟩ := this
    have dpS : ∀ (K : PySem.W.Frag) (H : Hp) (ns : List Str), DpAll K H (ns.map V.str) (ns.map .str) := fun K H ns => by
      induction ns with
      | nil => exact .nil
      | cons a r ih => exact .cons (.str a) ih
    refine ⟨ns.map .str, fun K H => dpS K H ns, flat_shaped fun d hd => ?_, by cases ns <;> simp [PyData.eqv, PyData.eqvAll]⟩
    obtain ⟨z, hz, rfl⟩ := List.mem_map.mp hd
    exact ⟨txt_lay (ht z hz), by simp [PyData.depth]⟩
theorem kn_ck {b : Bool} {cells : List V} (h : ∀ c ∈ cells, CK b c) : ∀ c ∈ kn cells, CK b c ∧ c ≠ .non := fun c hc => by
  obtain ⟨h1, h2⟩ := List.mem_filter.mp hc
  exact ⟨h c h1, of_decide_eq_false (nT h2)⟩
theorem rm_l {K : PySem.W.Frag} {sd c a : Addr} {H : Hp} {xs : List V} (h : H a = some (.lst xs)) (n1 : a ≠ sd) (n2 : a ≠ c) : SqL K (rmS sd c H) a xs := lsOf (rmS_of h n1 n2)
theorem bnF {b : Bool} (h : (!b) = true) : b = false := by cases b; rfl; cases h
theorem bnT {b : Bool} (h : (!b) = false) : b = true := by cases b; cases h; rfl
def sp_law_near (K : PySem.W.Frag) : Sp := fun vs H Q _ => ∃ (sd c cl : Addr) (b : Bool) (cells : List V) (n : Nat), vs = [.ref sd, kdV b, .ref cl] ∧ LSt H sd c n ∧ n ≤ 800000 ∧ SqL K (rmS sd c H) cl cells ∧ (∀ x ∈ cells, CK b x) ∧ cells.length ≤ 100 ∧
  ∀ v H2, KdV b v → ExS sd c H H2 → LSt H2 sd c (n + 40) → Q v H2
theorem ok_law_near (T : Gf K mg CG CP upA) (D : Dfn K mg "_law_near" s_law_near) (c_law_take : Cal P w K mg base 1 "_law_take" (sp_law_take K) []) (c_law_text : Cal P w K mg base 2 "_law_text" (sp_law_text K) []) (c_law_number : Cal P w K mg base 2 "_law_number" (sp_law_number K) []) : Cal P w K mg base 3 "_law_near" (sp_law_near K) [] := by
  refine cal_mk D sc_law_near (fun _ _ _ _ _ _ us hl => match us, hl with | [_, _, _], _ => rfl) (fun vs H Q E h => ?_) (fun f cdv A outer s H vs Q E hr h => ?_)
  · obtain ⟨_, _, _, _, _, _, rfl, _⟩ := h; rfl
  · obtain ⟨sd, c, cl, b, cells, n, rfl, hL, hn, hS, hck, hlen, q⟩ := h
    refine ⟨_, pss_cons (ps_setLc (i := 3) (own := [("_law_cell", 5)]) (g := gName 5) (by rfl) sc_law_near.nd rfl rfl (sw_true rfl rfl rfl (by decide +kernel)) (pi_list (pv 2)) (blkOk_by (N := N_law_near) (sc := defScope s_law_near) (by decide +kernel)) (fun _ _ _ _ _ => pg_name (i := 5) sc_law_near.nd rfl (Or.inl rfl)) (fun _ _ _ _ _ => pts_one (pt_cmpR op_notN (pv 5) pe_non (nomark _))) (fun _ _ _ _ _ => pv 5))
      (pss_cons (ps_set (i := 4) sc_law_near.nd rfl (Or.inl rfl) (pe_c c_law_take hr (by decide) (by rfl) (pa_cons (pv 0) (pa_cons (pe_int) pa_nil))))
      (pss_cons (ps_if (PW.pt (pw_or (pt_cmpR (op_eqD hr.units) (pv 3) (pe_lst (pa_nil)) (nomark _)) (pw_or1 (pt_cmpR op_eq (pv 4) (pe_int) (nomark _))))) (pss_one (ps_ret (pe_ifExp (pt_cmpR op_eq (pv 1) (pe_str) (nomark _)) (pe_c c_law_text hr (by decide) (by rfl) (pa_cons (pv 0) pa_nil)) (pe_c c_law_number hr (by decide) (by rfl) (pa_cons (pv 0) pa_nil))))) (pss_nil))
      (pss_cons (ps_set (i := 5) sc_law_near.nd rfl (Or.inl rfl) (pe_ix ix_list (pv 3) (pe_c c_law_take hr (by decide) (by rfl) (pa_cons (pv 0) (pa_cons (pe_callB call_len_seq (by rfl) T.len (by decide +kernel) (pa_cons (pv 3) pa_nil)) pa_nil))) (fun _ _ => rfl)))
      (pss_cons (ps_if (pt_cmpR op_eq (pv 4) (pe_int) (nomark _)) (pss_one (ps_ret (pv 5))) (pss_nil))
      (pss_cons (ps_if (pt_cmpR op_eq (pv 1) (pe_str) (nomark _)) (pss_one (ps_ret (pe_ix ix_list (pe_lst (pa_cons (pe_slice sl_str (pv 5) (po_none) (po_some (pe_un un_neg (pe_int)))) (pa_cons (pe_slice sl_str (pe_op op_add_str (pv 5) (pe_str)) (po_none) (po_some (pe_int))) pa_nil))) (pe_op op_sub (pv 4) (pe_int)) (fun _ _ => rfl)))) (pss_nil))
      (pss_one (ps_ret (pe_op op_add (pv 5) (pe_op op_mul (pe_ix ix_list (pe_lst (pa_cons (pe_int) (pa_cons (pe_un un_neg (pe_int)) pa_nil))) (pe_op op_sub (pv 4) (pe_int)) (fun _ _ => rfl)) (pe_callTy call_int1 (by rfl) T.int (by decide +kernel) (pa_cons (pe_cmpR op_lt (pe_callB call_abs (by rfl) T.abs (by decide +kernel) (pa_cons (pv 5) pa_nil)) (pe_op op_pow (pe_int) (pe_int)) (nomark _)) pa_nil))))))))))), ?_⟩
    refine ⟨_, rfl, _, rfl, ⟨_, exL hS rmS_ex⟩, fun d nd => ?_⟩
    obtain ⟨d1, d2⟩ := hL.fresh nd
    refine lc_it walk_list (fun i H' => Ex H H' ∧ H' d = some (.lst (kn (cells.take i)))) ⟨Ex.n nd, upd_same⟩ (fun i H' hi hI => exL hS (Evl.Ex.trans rmS_ex hI.1)) (fun i x H' H2 hi hI hy => ?_) (fun H' hI => ?_)
    · obtain ⟨e2, hd⟩ := hI
      obtain ⟨rfl, hx⟩ := hy
      have ek : kn (cells.take (i + 1)) = kn (cells.take i) ++ kn [x] := by
        unfold kn
        rw [List.take_add_one, hx, List.filter_append]
        rfl
      have hle : (kn (cells.take i)).length ≤ 100 := Nat.le_trans (List.length_filter_le _ _) (by rw [List.length_take]; omega)
      refine ⟨rfl, ?_⟩
      refine ⟨_, rfl, rfl, _, rfl, ?_⟩
      refine ifB (fun hn => ?_) (fun hn => ?_)
      · refine ⟨_, rfl, _, hd, smlt (by omega), e2.mut nd, ?_⟩
        rw [upd_same, ek]
        have : kn [x] = [x] := by unfold kn; rw [List.filter_cons, if_pos hn]; rfl
        rw [this]
      · refine ⟨e2, ?_⟩
        rw [hd, ek]
        have : kn [x] = [] := by unfold kn; rw [List.filter_cons, if_neg (by rw [hn]; decide)]; rfl
        rw [this, List.append_nil]
    · obtain ⟨e2, hd⟩ := hI
      rw [List.take_length] at hd
      have hkn := kn_ck hck
      have hkl : (kn cells).length ≤ 100 := Nat.le_trans (List.length_filter_le _ _) hlen
      refine ⟨_, rfl, sd, c, 4, n, rfl, hL.mono e2, by omega, by decide, by decide, fun way H3 w0 w1 e3 L3 => ?_⟩
      have hd3 : H3 d = some (.lst (kn cells)) := (hL.mono e2).keep e3 hd d1 d2
      have e03 := (ExS.of e2).trans e3
      refine ⟨_, rfl, Nat.zero_le _, fun p np => ?_⟩
      obtain ⟨f1, f2⟩ := L3.fresh np
      have eP := Ex.n (o := HO.lst []) np
      obtain ⟨ds, hds, hsh, hev⟩ := kn_eqv hkn
      have e04 := e03.trans (ExS.of eP)
      have L4 := L3.mono eP
      have hd4 := eP _ _ hd3
      refine ⟨_, _, .lst (lsOf hd4) (hds _ _), .lst (lsOf upd_same) .nil, hsh, PySem.W.ke_shaped_ints [], _, rfl, ?_⟩
      rw [hev]
      generalize upd H3 p (.lst []) = H4 at e04 L4 hd4
      refine ifB (fun h0 => ?_) (fun h0 => ?_)
      · refine ⟨_, rfl, rfl, _, rfl, ?_⟩
        rw [kd_text]
        refine ifB (fun hb => ?_) (fun hb => ?_)
        · have hb' : b = false := bnF hb
          refine ⟨_, rfl, sd, c, n + 1, rfl, L4, by omega, fun z H5 hz e5 L5 => q _ H5 ?_ (e04.trans e5) (L5.up (by omega))⟩
          rw [hb']
          exact ⟨z, rfl⟩
        · have hb' : b = true := bnT hb
          refine ⟨_, rfl, sd, c, n + 1, rfl, L4, by omega, fun z H5 hz e5 L5 => q _ H5 ?_ (e04.trans e5) (L5.up (by omega))⟩
          rw [hb']
          exact ⟨z, rfl⟩
      refine ⟨_, rfl, rfl, _, rfl, ?_⟩
      refine ifB (fun h3 => ?_) (fun h3 => ?_)
      · refine ⟨_, rfl, rfl, _, rfl, ?_⟩
        rw [kd_text]
        refine ifB (fun hb => ?_) (fun hb => ?_)
        · have hb' : b = false := bnF hb
          refine ⟨_, rfl, sd, c, n + 1, rfl, L4, by omega, fun z H5 hz e5 L5 => q _ H5 ?_ (e04.trans e5) (L5.up (by omega))⟩
          rw [hb']
          exact ⟨z, rfl⟩
        · have hb' : b = true := bnT hb
          refine ⟨_, rfl, sd, c, n + 1, rfl, L4, by omega, fun z H5 hz e5 L5 => q _ H5 ?_ (e04.trans e5) (L5.up (by omega))⟩
          rw [hb']
          exact ⟨z, rfl⟩
      have hk1 : 1 ≤ (kn cells).length := by
        cases hk : kn cells with
        | nil => rw [hk] at h0; cases h0
        | cons _ _ => exact Nat.succ_le_succ (Nat.zero_le _)
      refine ⟨_, rfl, _, rfl, _, rfl, _, _, rfl, .inl (lsOf hd4), sd, c, _, n + 1, rfl, L4, by omega, by omega, by omega, fun j H6 j0 j1 e6 L6 => ?_⟩
      have hd6 := L4.keep e6 hd4 d1 d2
      have e06 := e04.trans e6
      obtain ⟨x, hx, hxp⟩ := pickL hkn j0 j1
      refine ⟨_, _, _, _, rfl, rfl, lsOf hd6, hx, ?_⟩
      have hxk : KdV b x := by
        obtain ⟨h1, h2⟩ := hxp
        cases b with
        | true =>
          have h1 : NumC x := h1
          cases h1 with
          | non => exact absurd rfl h2
          | @int i h1 => exact ⟨i, rfl⟩
        | false =>
          have h1 : TxtC x := h1
          cases h1 with
          | non => exact absurd rfl h2
          | @str i h1 => exact ⟨i, rfl⟩
      refine ⟨_, rfl, rfl, _, rfl, ifB (fun _ => ?_) (fun hw => ?_)⟩
      · exact ⟨_, rfl, q _ H6 hxk e06 (L6.up (by omega))⟩
      have hw0 : way ≠ 0 := fun z => by
        rw [z] at hw
        cases hw
      have hw3 : way ≠ 3 := fun z => by
        rw [z] at h3
        cases h3
      refine ⟨_, rfl, rfl, _, rfl, ?_⟩
      rw [kd_text]
      refine ifB (fun hb => ?_) (fun hb => ?_)
      · have hb' : b = false := bnF hb
        subst hb'
        have hz20 : ∃ z, x = .str z ∧ z.length ≤ 20 := by
          obtain ⟨h1, h2⟩ := hxp
          have h1 : TxtC x := h1
          cases h1 with
          | non => exact absurd rfl h2
          | @str i g1 => exact ⟨i, rfl, g1.1⟩
        obtain ⟨z, rfl, hz⟩ := hz20
        refine ⟨_, rfl, _, rfl, _, rfl, _, rfl, ?_, _, rfl, _, _, rfl, rfl, ?_, _, rfl, _, rfl, ?_, Nat.le_of_ble_eq_true rfl, fun p np => ?_⟩
        · exact Nat.le_trans hz (by decide)
        · have ha : (Str.ofString "a").length = 1 := by decide +kernel
          rw [ha]
          exact Nat.le_trans (Nat.add_le_add_right hz 1) (by decide)
        · have ha : (Str.ofString "a").length = 1 := by decide +kernel
          have e1 : (z ++ Str.ofString "a").length = z.length + (Str.ofString "a").length := Array.size_append
          rw [e1, ha]
          exact Nat.le_trans (Nat.add_le_add_right hz 1) (by decide)
        obtain ⟨f1, f2⟩ := L6.fresh np
        have eQ := Ex.n (o := HO.lst ([cutS z none (some (-1)), cutS (z ++ "a") none (some 20)].map V.str)) np
        have hat : ∃ y, atI ([cutS z none (some (-1)), cutS (z ++ "a") none (some 20)].map V.str) (way - 1) = some (.str y) := by
          rcases (show way = 1 ∨ way = 2 by omega) with rfl | rfl
          · exact ⟨_, rfl⟩
          · exact ⟨_, rfl⟩
        obtain ⟨y, hy⟩ := hat
        refine ⟨_, rfl, _, _, rfl, rfl, _, _, _, _, rfl, rfl, lsOf upd_same, hy, ?_⟩
        exact q _ _ ⟨y, rfl⟩ (e06.trans (ExS.of eQ)) ((L6.mono eQ).up (by omega))
      · have hb' : b = true := bnT hb
        subst hb'
        obtain ⟨i, rfl⟩ := hxk
        refine ⟨_, rfl, _, rfl, Nat.le_of_ble_eq_true rfl, fun p np => ?_⟩
        obtain ⟨f1, f2⟩ := L6.fresh np
        have eQ := Ex.n (o := HO.lst ([1, -1].map V.int)) np
        obtain ⟨y, hy, hyb⟩ := pickI (ns := [1, -1]) (p := fun x => x = 1 ∨ x = -1) (by decide) (i := way - 1) (by omega) (by show way - 1 < 2; omega)
        refine ⟨_, rfl, _, _, rfl, rfl, _, _, _, _, rfl, rfl, lsOf upd_same, hy, ?_⟩
        refine ⟨_, rfl, _, rfl, _, _, rfl, rfl, ⟨by decide, by decide, by decide⟩, _, _, rfl, rfl, .inr ⟨_, rfl, ?_⟩⟩
        refine ⟨_, _, rfl, rfl, .inl ?_, _, _, rfl, rfl, ?_⟩
        · rcases hyb with rfl | rfl <;> exact ⟨by decide, by decide⟩
        exact q _ _ ⟨_, rfl⟩ (e06.trans (ExS.of eQ)) ((L6.mono eQ).up (by omega))
def sp_law_cell_test (K : PySem.W.Frag) : Sp := fun vs H Q _ => ∃ (sd c cl : Addr) (b : Bool) (cells : List V) (n : Nat), vs = [.ref sd, kdV b, .ref cl] ∧ LSt H sd c n ∧ n ≤ 700000 ∧ SqL K (rmS sd c H) cl cells ∧ (∀ x ∈ cells, CK b x) ∧ cells.length ≤ 100 ∧
  ∀ a t H2, CTAt K (rmS sd c H2) t a → CTFit b t → AmSm t → a ≠ sd → a ≠ c → ExS sd c H H2 → LSt H2 sd c (n + 900) → Q (.ref a) H2
def sgsL : List Str := ["=", "<>", "<", "<=", ">", ">="]
theorem sgs_ok : ∀ z ∈ sgsL, SgOk z := by
  have : sgsL.all (fun z => sgB z "open" == false && sgB z "among" == false) = true := by decide +kernel
  intro z hz
  have h := List.all_eq_true.mp this z hz
  rw [Bool.and_eq_true] at h
  exact ⟨eq_of_beq h.1, eq_of_beq h.2⟩
theorem ok_law_cell_test (T : Gf K mg CG CP upA) (D : Dfn K mg "_law_cell_test" s_law_cell_test) (c_law_take : Cal P w K mg base 1 "_law_take" (sp_law_take K) []) (c_law_near : Cal P w K mg base 3 "_law_near" (sp_law_near K) []) : Cal P w K mg base 4 "_law_cell_test" (sp_law_cell_test K) [] := by
  refine cal_mk D sc_law_cell_test (fun _ _ _ _ _ _ us hl => match us, hl with | [_, _, _], _ => rfl) (fun vs H Q E h => ?_) (fun f cdv A outer s H vs Q E hr h => ?_)
  · obtain ⟨_, _, _, _, _, _, rfl, _⟩ := h; rfl
  · obtain ⟨sd, c, cl, b, cells, n, rfl, hL, hn, hS, hck, hlen, q⟩ := h
    refine ⟨_, pss_cons (ps_set (i := 3) sc_law_cell_test.nd rfl (Or.inl rfl) (pe_c c_law_take hr (by decide) (by rfl) (pa_cons (pv 0) (pa_cons (pe_int) pa_nil))))
      (pss_cons (ps_if (pt_cmpR op_eq (pv 3) (pe_int) (nomark _)) (pss_one (ps_ret (pe_tup (pa_cons (pe_str) pa_nil)))) (pss_nil))
      (pss_cons (ps_if (pt_cmpR op_lt (pv 3) (pe_int) (nomark _)) (pss_cons (ps_set (i := 4) sc_law_cell_test.nd rfl (Or.inl rfl) (pe_ix ix_list (pe_lst (pa_cons (pe_c c_law_take hr (by decide) (by rfl) (pa_cons (pv 0) (pa_cons (pe_int) pa_nil))) (pa_cons (pe_op op_add (pe_int) (pe_c c_law_take hr (by decide) (by rfl) (pa_cons (pv 0) (pa_cons (pe_int) pa_nil)))) pa_nil))) (pe_callTy call_int1 (by rfl) T.int (by decide +kernel) (pa_cons (pe_cmpR op_eq (pe_c c_law_take hr (by decide) (by rfl) (pa_cons (pv 0) (pa_cons (pe_int) pa_nil))) (pe_int) (nomark _)) pa_nil)) (fun _ _ => rfl)))
        (pss_one (ps_ret (pe_tup (pa_cons (pe_str) (pa_cons (pe_lc (own := [("_law_turn", 5)]) (g := gName 5) (tt := tYes) (by rfl) sc_law_cell_test.nd (pi_range1 (by rfl) T.range (pa_cons (pv 4) pa_nil)) (blkOk_by (N := N_law_cell_test) (sc := defScope s_law_cell_test) (by decide +kernel)) (fun _ _ _ _ _ => pg_name (i := 5) sc_law_cell_test.nd rfl (Or.inl rfl)) (fun _ _ _ _ _ => pts_nil) (fun _ _ _ _ _ => pe_c c_law_near hr (by decide) (by rfl) (pa_cons (pv 0) (pa_cons (pv 1) (pa_cons (pv 2) pa_nil))))) pa_nil)))))) (pss_nil))
      (pss_one (ps_ret (pe_tup (pa_cons (pe_ix ix_list (pe_lst (pa_cons (pe_str) (pa_cons (pe_str) (pa_cons (pe_str) (pa_cons (pe_str) (pa_cons (pe_str) (pa_cons (pe_str) pa_nil))))))) (pe_c c_law_take hr (by decide) (by rfl) (pa_cons (pv 0) (pa_cons (pe_int) pa_nil))) (fun _ _ => rfl)) (pa_cons (pe_c c_law_near hr (by decide) (by rfl) (pa_cons (pv 0) (pa_cons (pv 1) (pa_cons (pv 2) pa_nil)))) pa_nil))))))), ?_⟩
    have near : ∀ {m : Nat} {H1 : Hp} (L1 : LSt H1 sd c m) (_ : ExS sd c H H1) (_ : m ≤ 800000) {Q2 : VK}, (∀ v H2, KdV b v → ExS sd c H1 H2 → LSt H2 sd c (m + 40) → Q2 v H2) → sp_law_near K [.ref sd, kdV b, .ref cl] H1 Q2 C8.E0 := fun {m} {H1} L1 e1 hm Q2 k =>
      ⟨sd, c, cl, b, cells, m, rfl, L1, hm, exL hS e1, hck, hlen, k⟩
    refine ⟨_, rfl, sd, c, 10, n, rfl, hL, by omega, by decide, by decide, fun way H1 w0 w1 e1 L1 => ?_⟩
    refine ⟨_, rfl, rfl, _, rfl, ifB (fun _ => ?_) (fun hw0 => ?_)⟩
    · refine ⟨Nat.le_of_ble_eq_true rfl, fun p np => ?_⟩
      obtain ⟨f1, f2⟩ := L1.fresh np
      have eP := Ex.n (o := HO.tup [V.str "open"]) np
      exact q p .op _ (tpOf (rmS_of upd_same f1 f2)) trivial (fun _ h => by cases h) f1 f2 (e1.trans (ExS.of eP)) ((L1.mono eP).up (by omega))
    refine ⟨_, rfl, _, _, rfl, rfl, _, rfl, ifB (fun _ => ?_) (fun hw3 => ?_)⟩
    · refine ⟨_, rfl, sd, c, 4, n + 1, rfl, L1, by omega, by decide, by decide, fun a1 H2 a10 a11 e2 L2 => ?_⟩
      refine ⟨_, rfl, sd, c, 6, n + 2, rfl, L2, by omega, by decide, by decide, fun a2 H3 a20 a21 e3 L3 => ?_⟩
      refine ⟨_, _, rfl, rfl, Nat.le_of_ble_eq_true rfl, fun p np => ?_⟩
      obtain ⟨f1, f2⟩ := L3.fresh np
      have L4 := L3.mut (o := .lst ([a1, 7 + a2].map V.int)) f1 f2
      have e4 := ((e1.trans e2).trans e3).trans (ExS.of (Ex.n (o := .lst ([a1, 7 + a2].map V.int)) np))
      refine ⟨_, rfl, sd, c, 6, n + 3, rfl, L4, by omega, by decide, by decide, fun a3 H5 a30 a31 e5 L5 => ?_⟩
      have hp5 : H5 p = some (.lst ([a1, 7 + a2].map V.int)) := L4.keep e5 upd_same f1 f2
      have e05 := e4.trans e5
      refine ⟨rfl, .inr ⟨_, rfl, ?_⟩⟩
      obtain ⟨many, hm, hmb⟩ := pickI (ns := [a1, 7 + a2]) (p := fun x => 0 ≤ x ∧ x < 13) (fun x hx => by
        simp only [List.mem_cons, List.not_mem_nil, or_false] at hx
        rcases hx with rfl | rfl <;> omega) (i := if decide (V.int a3 = V.int 0) = true then 1 else 0) (by split <;> decide) (by show (if decide (V.int a3 = V.int 0) = true then (1 : Int) else 0) < 2; split <;> decide)
      refine ⟨_, _, _, _, rfl, rfl, lsOf hp5, hm, ?_⟩
      obtain ⟨k, rfl⟩ : ∃ k : Nat, many = (k : Int) := ⟨many.toNat, by omega⟩
      refine ⟨_, rfl, _, rfl, by omega, by omega, fun d nd => ?_⟩
      obtain ⟨d1, d2⟩ := L5.fresh nd
      refine lc_it (walk_range (lo := 0) (n := k)) (fun i H' => ExS sd c H5 H' ∧ LSt H' sd c (n + 4 + 40 * i) ∧ ∃ vs, H' d = some (.lst vs) ∧ vs.length = i ∧ ∀ v ∈ vs, KdV b v) ⟨.of (Ex.n nd), L5.mut d1 d2, [], upd_same, rfl, fun v h => by cases h⟩ (fun _ _ _ _ => trivial) (fun i x H' H6 hi hI hy => ?_) (fun H' hI => ?_)
      · obtain ⟨e6, L6, vs, hd, hvl, hvs⟩ := hI
        obtain ⟨rfl, rfl⟩ := hy
        refine ⟨rfl, ?_⟩
        refine ⟨_, rfl, _, rfl, _, rfl, near L6 (e05.trans e6) (by omega) fun v H7 hv e7 L7 => ?_⟩
        have hd7 := L6.keep e7 hd d1 d2
        refine ⟨_, hd7, smlt (by omega), (e6.trans e7).mut nd, (L7.up (by omega)).mut d1 d2, vs ++ [v], upd_same, by rw [List.length_append, hvl]; rfl, fun y hy => ?_⟩
        rcases List.mem_append.mp hy with hy | hy
        · exact hvs y hy
        · rw [List.mem_singleton.mp hy]
          exact hv
      · obtain ⟨e6, L6, vs, hd, hvl, hvs⟩ := hI
        refine ⟨Nat.le_of_ble_eq_true rfl, fun p2 np2 => ?_⟩
        obtain ⟨g1, g2⟩ := L6.fresh np2
        have eP := Ex.n (o := HO.tup [V.str "among", .ref d]) np2
        exact q p2 (.am vs) _ ⟨d, tpOf (rmS_of upd_same g1 g2), rm_l (eP _ _ hd) d1 d2⟩ hvs (fun ws h => by cases h; omega) g1 g2 ((e05.trans e6).trans (ExS.of eP)) ((L6.mono eP).up (by omega))
    refine ⟨Nat.le_of_ble_eq_true rfl, fun p np => ?_⟩
    obtain ⟨f1, f2⟩ := L1.fresh np
    have eP := Ex.n (o := HO.lst (sgsL.map V.str)) np
    have L2 := L1.mono eP
    have e02 := e1.trans (ExS.of eP)
    refine ⟨_, rfl, sd, c, 6, n + 1, rfl, L2, by omega, by decide, by decide, fun j H3 j0 j1 e3 L3 => ?_⟩
    have hp3 : H3 p = some (.lst (sgsL.map V.str)) := L2.keep e3 upd_same f1 f2
    obtain ⟨x, hx, z, hz, rfl⟩ := pickL (xs := sgsL.map V.str) (p := fun x => ∃ z, SgOk z ∧ x = .str z) (fun x hx => by
        obtain ⟨z, hz, rfl⟩ := List.mem_map.mp hx
        exact ⟨z, sgs_ok z hz, rfl⟩) j0 (by show j < 6; exact j1)
    refine ⟨_, _, _, _, rfl, rfl, lsOf hp3, hx, ?_⟩
    refine ⟨_, rfl, _, rfl, _, rfl, near L3 (e02.trans e3) (by omega) fun v H4 hv e4 L4 => ?_⟩
    refine ⟨Nat.le_of_ble_eq_true rfl, fun p2 np2 => ?_⟩
    obtain ⟨g1, g2⟩ := L4.fresh np2
    have eP2 := Ex.n (o := HO.tup [V.str z, v]) np2
    exact q p2 (.so z v) _ (tpOf (rmS_of upd_same g1 g2)) ⟨hz, hv⟩ (fun _ h => by cases h) g1 g2 ((((e02.trans e3).trans e4)).trans (ExS.of eP2)) ((L4.mono eP2).up (by omega))
end
end Pk
set_option Elab.async false
set_option linter.all false
set_option maxRecDepth 100000
set_option maxHeartbeats 4000000
set_option autoImplicit false
namespace Pk
open PySem PySem.Spec PyProof.Rows L2
open C8 (Cal Met Mak pe_c pe_mk pe_mt pe_mt0 pe_gc)
section
variable {P : Program} {w : World} {K : PySem.W.Frag} {mg : Str → Option Value} {base : Heap} {CG CP upA : Addr}
/-! ### _law_cells -/
def SmC (b : Bool) (x : V) : Prop := CK b x ∧ (b = true → ∃ i, x = .int i)
theorem smT {z : Str} (h : TxtOk z) : SmC false (.str z) := ⟨show TxtC (.str z) from .str h, fun h => by cases h⟩
theorem smI {i : Int} (h : NumOk i) : SmC true (.int i) := ⟨show NumC (.int i) from .int h, fun _ => ⟨i, rfl⟩⟩
theorem ckN (b : Bool) : CK b .non := by
  cases b
  · exact (TxtC.non : TxtC .non)
  · exact (NumC.non : NumC .non)
theorem mul_bd {a s : Int} (h0 : 0 ≤ a) (h1 : a ≤ 100) (h2 : -5 < s) (h3 : s < 1000000) : -500 ≤ a * s ∧ a * s ≤ 100000000 := by
  have e : ∃ k : Nat, a = (k : Int) := ⟨a.toNat, by omega⟩
  obtain ⟨k, rfl⟩ := e
  have g1 : (k : Int) * (-4) ≤ (k : Int) * s := Int.mul_le_mul_of_nonneg_left (by omega) (by omega)
  have g2 : (k : Int) * s ≤ (k : Int) * 1000000 := Int.mul_le_mul_of_nonneg_left (by omega) (by omega)
  omega
def sp_law_cells (K : PySem.W.Frag) : Sp := fun vs H Q _ => ∃ (sd c : Addr) (b : Bool) (many n : Nat), vs = [.ref sd, kdV b, .int (many : Int)] ∧ LSt H sd c n ∧ n ≤ 700000 ∧ many ≤ 100 ∧
  ∀ p cells H2, H p = none → H2 p = some (.lst cells) → cells.length = many → (∀ x ∈ cells, CK b x) → ExS sd c H H2 → LSt H2 sd c (n + 5000) → Q (.ref p) H2
theorem ok_law_cells (T : Gf K mg CG CP upA) (D : Dfn K mg "_law_cells" s_law_cells) (c_law_take : Cal P w K mg base 1 "_law_take" (sp_law_take K) []) (c_law_text : Cal P w K mg base 2 "_law_text" (sp_law_text K) []) (c_law_number : Cal P w K mg base 2 "_law_number" (sp_law_number K) []) : Cal P w K mg base 3 "_law_cells" (sp_law_cells K) [] := by
  refine cal_mk D sc_law_cells (fun _ _ _ _ _ _ us hl => match us, hl with | [_, _, _], _ => rfl) (fun vs H Q E h => ?_) (fun f cdv A outer s H vs Q E hr h => ?_)
  · obtain ⟨_, _, _, _, _, rfl, _⟩ := h; rfl
  · obtain ⟨sd, c, b, many, n, rfl, hL, hn, hm, q⟩ := h
    refine ⟨_, pss_cons (ps_set (i := 3) sc_law_cells.nd rfl (Or.inl rfl) (pe_c c_law_take hr (by decide) (by rfl) (pa_cons (pv 0) (pa_cons (pe_int) pa_nil))))
      (pss_cons (ps_set (i := 4) sc_law_cells.nd rfl (Or.inl rfl) (pe_ix ix_list (pe_lst (pa_cons (pe_int) (pa_cons (pe_int) (pa_cons (pe_int) pa_nil)))) (pe_c c_law_take hr (by decide) (by rfl) (pa_cons (pv 0) (pa_cons (pe_int) pa_nil))) (fun _ _ => rfl)))
      (pss_cons (ps_setLc (i := 5) (own := [("_law_turn", 10)]) (g := gName 10) (tt := tYes) (by rfl) sc_law_cells.nd rfl rfl (sw_true rfl rfl rfl (by decide +kernel)) (pi_range1 (by rfl) T.range (pa_cons (pe_op op_add (pe_int) (pe_c c_law_take hr (by decide) (by rfl) (pa_cons (pv 0) (pa_cons (pe_int) pa_nil)))) pa_nil)) (blkOk_by (N := N_law_cells) (sc := defScope s_law_cells) (by decide +kernel)) (fun _ _ _ _ _ => pg_name (i := 10) sc_law_cells.nd rfl (Or.inl rfl)) (fun _ _ _ _ _ => pts_nil) (fun _ _ _ _ _ => pe_ifExp (pt_cmpR op_eq (pv 1) (pe_str) (nomark _)) (pe_c c_law_text hr (by decide) (by rfl) (pa_cons (pv 0) pa_nil)) (pe_c c_law_number hr (by decide) (by rfl) (pa_cons (pv 0) pa_nil))))
      (pss_cons (ps_set (i := 6) sc_law_cells.nd rfl (Or.inl rfl) (pe_ix ix_list (pe_lst (pa_cons (pe_op op_sub (pe_c c_law_take hr (by decide) (by rfl) (pa_cons (pv 0) (pa_cons (pe_int) pa_nil))) (pe_int)) (pa_cons (pe_c c_law_take hr (by decide) (by rfl) (pa_cons (pv 0) (pa_cons (pe_op op_pow (pe_int) (pe_int)) pa_nil))) pa_nil))) (pe_c c_law_take hr (by decide) (by rfl) (pa_cons (pv 0) (pa_cons (pe_int) pa_nil))) (fun _ _ => rfl)))
      (pss_cons (ps_set (i := 7) sc_law_cells.nd rfl (Or.inl rfl) (pe_lst (pa_nil)))
      (pss_cons (ps_for PassesOwn.never rfl (pi_range1 (by rfl) T.range (pa_cons (pv 2) pa_nil)) (pg_name (i := 8) sc_law_cells.nd rfl (Or.inl rfl))
        (pss_cons (ps_set (i := 9) sc_law_cells.nd rfl (Or.inl rfl) (pe_ix ix_list (pv 5) (pe_c c_law_take hr (by decide) (by rfl) (pa_cons (pv 0) (pa_cons (pe_callB call_len_seq (by rfl) T.len (by decide +kernel) (pa_cons (pv 5) pa_nil)) pa_nil))) (fun _ _ => rfl)))
        (Evl.pss_cut (ps_if (PW.pt (pw_and (pt_cmpR op_eq (pv 3) (pe_int) (nomark _)) (pw_and (pt_cmpR op_gt (pv 8) (pe_int) (nomark _)) (pw_and1 (pt_cmpR op_gt (pe_c c_law_take hr (by decide) (by rfl) (pa_cons (pv 0) (pa_cons (pe_int) pa_nil))) (pe_int) (nomark _)))))) (pss_one (ps_set (i := 9) sc_law_cells.nd rfl (Or.inl rfl) (pe_ix ix_list (pv 7) (pe_un un_neg (pe_int)) (fun _ _ => rfl)))) (pss_one (ps_if (PW.pt (pw_and (pt_cmpR op_eq (pv 3) (pe_int) (nomark _)) (pw_and1 (pt_cmpR op_eq (pv 1) (pe_str) (nomark _))))) (pss_one (ps_set (i := 9) sc_law_cells.nd rfl (Or.inl rfl) (pe_op op_add (pe_op op_mod (pe_ix ix_list (pv 5) (pe_int) (fun _ _ => rfl)) (pe_op op_pow (pe_int) (pe_int))) (pe_op op_mul (pv 8) (pv 6))))) (pss_one (ps_if (PW.pt (pw_and (pt_cmpR op_eq (pv 3) (pe_int) (nomark _)) (pw_and1 (pt_cmpR op_eq (pv 1) (pe_str) (nomark _))))) (pss_one (ps_set (i := 9) sc_law_cells.nd rfl (Or.inl rfl) (pe_c c_law_number hr (by decide) (by rfl) (pa_cons (pv 0) pa_nil)))) (pss_nil))))))
        (Evl.pss_cut (ps_if (PW.pt (pw_and (pt_cmpR op_gt (pv 4) (pe_int) (nomark _)) (pw_and (pt_cmpR op_ne (pv 3) (pe_int) (nomark _)) (pw_and1 (pt_cmpR op_eq (pe_c c_law_take hr (by decide) (by rfl) (pa_cons (pv 0) (pa_cons (pv 4) pa_nil))) (pe_int) (nomark _)))))) (pss_one (ps_set (i := 9) sc_law_cells.nd rfl (Or.inl rfl) (pe_non))) (pss_nil))
        (pss_one (ps_expr (pe_bm PySem.F.plainAttrs_list PySem.F.slot_list_append PySem.F.type_list_append mt_append (pv 7) (pa_cons (pv 9) pa_nil))))))))
      (pss_one (ps_ret (pv 7)))))))), ?_⟩
    refine ⟨_, rfl, sd, c, 5, n, rfl, hL, by omega, by decide, by decide, fun way H1 w0 w1 e1 L1 => ?_⟩
    refine ⟨Nat.le_of_ble_eq_true rfl, fun p1 np1 => ?_⟩
    obtain ⟨f1, f2⟩ := L1.fresh np1
    have eP := Ex.n (o := HO.lst ([0, 4, 9].map V.int)) np1
    have L2 := L1.mono eP
    have e2 := e1.trans (ExS.of eP)
    refine ⟨_, rfl, sd, c, 3, n + 1, rfl, L2, by omega, by decide, by decide, fun j H3 j0 j1 e3 L3 => ?_⟩
    have hp3 : H3 p1 = some (.lst ([0, 4, 9].map V.int)) := L2.keep e3 upd_same f1 f2
    obtain ⟨op, hop, hopb⟩ := pickI (ns := [0, 4, 9]) (p := fun x => 0 ≤ x ∧ x < 10) (by decide) j0 (by show j < 3; exact j1)
    refine ⟨_, _, _, _, rfl, rfl, lsOf hp3, hop, ?_⟩
    have e03 := e2.trans e3
    refine ⟨_, rfl, sd, c, 8, n + 2, rfl, L3, by omega, by decide, by decide, fun m H4 m0 m1 e4 L4 => ?_⟩
    obtain ⟨k, rfl⟩ : ∃ k : Nat, m = (k : Int) := ⟨m.toNat, by omega⟩
    have hk8 : k < 8 := by omega
    have e04 := e03.trans e4
    refine ⟨_, _, rfl, rfl, _, rfl, by omega, by omega, fun d nd => ?_⟩
    obtain ⟨d1, d2⟩ := L4.fresh nd
    have hk1 : ((1 + k : Nat) : Int) = 1 + (k : Int) := by omega
    rw [← hk1]
    refine lc_it (walk_range (lo := 0) (n := 1 + k)) (fun i H' => ExS sd c H4 H' ∧ LSt H' sd c (n + 3 + 30 * i) ∧ ∃ vs, H' d = some (.lst vs) ∧ vs.length = i ∧ ∀ v ∈ vs, SmC b v) ⟨.of (Ex.n nd), L4.mut d1 d2, [], upd_same, rfl, fun v h => by cases h⟩ (fun _ _ _ _ => trivial) (fun i x H' H5 hi hI hy => ?_) (fun H' hI => ?_)
    · obtain ⟨e5, L5, vs, hd, hvl, hvs⟩ := hI
      obtain ⟨rfl, rfl⟩ := hy
      refine ⟨rfl, ?_⟩
      have step : ∀ v H6, SmC b v → ExS sd c H5 H6 → LSt H6 sd c (n + 3 + 30 * i + 30) → ∃ xs, H6 d = some (.lst xs) ∧ xs.length < sizeLine ∧ ExS sd c H4 (upd H6 d (.lst (xs ++ [v]))) ∧ LSt (upd H6 d (.lst (xs ++ [v]))) sd c (n + 3 + 30 * (i + 1)) ∧ ∃ vs, (upd H6 d (.lst (xs ++ [v]))) d = some (.lst vs) ∧ vs.length = i + 1 ∧ ∀ v ∈ vs, SmC b v := fun v H6 hv e6 L6 => by
        have hd6 := L5.keep e6 hd d1 d2
        refine ⟨_, hd6, smlt (by omega), (e5.trans e6).mut nd, (L6.up (by omega)).mut d1 d2, vs ++ [v], upd_same, by rw [List.length_append, hvl]; rfl, fun y hy => ?_⟩
        rcases List.mem_append.mp hy with hy | hy
        · exact hvs y hy
        · rw [List.mem_singleton.mp hy]
          exact hv
      refine ⟨_, rfl, rfl, _, rfl, ?_⟩
      rw [kd_text]
      refine ifB (fun hb => ?_) (fun hb => ?_)
      · have hb' := bnF hb
        refine ⟨_, rfl, sd, c, _, rfl, L5, by omega, fun z H6 hz e6 L6 => ?_⟩
        exact step _ H6 (by rw [hb']; exact smT hz) e6 L6
      · have hb' := bnT hb
        refine ⟨_, rfl, sd, c, _, rfl, L5, by omega, fun z H6 hz e6 L6 => ?_⟩
        exact step _ H6 (by rw [hb']; exact smI hz) e6 (L6.up (by omega))
    obtain ⟨e5, L5, so, hso, hsl, hsv⟩ := hI
    have e05 := e04.trans e5
    have L5 := L5.up (show n + 3 + 30 * (1 + k) ≤ n + 300 by omega)
    refine ⟨_, rfl, sd, c, 9, _, rfl, L5, by omega, by decide, by decide, fun s1 H6 s10 s11 e6 L6 => ?_⟩
    refine ⟨_, _, rfl, rfl, _, rfl, _, _, rfl, rfl, ⟨by decide, by decide, by decide⟩, sd, c, 1000000, _, rfl, L6, by omega, by decide, by decide, fun s2 H7 s20 s21 e7 L7 => ?_⟩
    refine ⟨Nat.le_of_ble_eq_true rfl, fun p3 np3 => ?_⟩
    obtain ⟨g1, g2⟩ := L7.fresh np3
    have eQ := Ex.n (o := HO.lst ([s1 - 4, s2].map V.int)) np3
    have L8 := L7.mono eQ
    have e08 := (((e05.trans e6).trans e7)).trans (ExS.of eQ)
    have hso8 := eQ _ _ (L6.keep e7 (L5.keep e6 hso d1 d2) d1 d2)
    refine ⟨_, rfl, sd, c, 2, _, rfl, L8, by omega, by decide, by decide, fun j2 H9 j20 j21 e9 L9 => ?_⟩
    have hp9 : H9 p3 = some (.lst ([s1 - 4, s2].map V.int)) := L8.keep e9 upd_same g1 g2
    have hso9 := L8.keep e9 hso8 d1 d2
    obtain ⟨stp, hst, hstb⟩ := pickI (ns := [s1 - 4, s2]) (p := fun x => -5 < x ∧ x < 1000000) (fun x hx => by
        simp only [List.mem_cons, List.not_mem_nil, or_false] at hx
        rcases hx with rfl | rfl <;> omega) j20 (by show j2 < 2; exact j21)
    refine ⟨_, _, _, _, rfl, rfl, lsOf hp9, hst, ?_⟩
    refine ⟨Nat.zero_le _, fun cl ncl => ?_⟩
    obtain ⟨cl1, cl2⟩ := L9.fresh ncl
    have e09 := e08.trans e9
    have hHcl : H cl = none := e09.back (by
      cases g : rmS sd c H9 cl with
      | none => rfl
      | some o => rw [(rmS_get g).1] at ncl; cases ncl) cl1 cl2
    have eC := Ex.n (o := HO.lst []) ncl
    have L10 := L9.mono eC
    have hso10 := eC _ _ hso9
    refine ⟨_, rfl, _, rfl, by omega, by omega, for_it (walk_range (lo := 0) (n := many)) (fun i σ' H' => ExS sd c H9 H' ∧ LSt H' sd c (n + 310 + 13 * i) ∧ (∃ vs, H' cl = some (.lst vs) ∧ vs.length = i ∧ ∀ v ∈ vs, CK b v) ∧
      ∃ y8 y9, σ' = [some (.ref sd), some (kdV b), some (.int (many : Int)), some (.int way), some (.int op), some (.ref d), some (.int stp), some (.ref cl), y8, y9, none])
      ⟨ExS.of eC, L10.up (by omega), ⟨[], upd_same, rfl, fun v h => by cases h⟩, none, none, rfl⟩ (fun _ _ _ _ _ => trivial) (fun i x σ' H' HA hi hI hy => ?_) (fun σ' H' hI => ?_)⟩
    · obtain ⟨eA, LA, ⟨vs, hcl, hvl, hvs⟩, y8, y9, rfl⟩ := hI
      obtain ⟨rfl, rfl⟩ := hy
      have hsoA := L9.keep eA hso9 d1 d2
      have hdcl : d ≠ cl := ne_of_none hso9 ncl
      refine ⟨_, rfl, _, rfl, _, rfl, _, _, rfl, .inl (lsOf hsoA), sd, c, _, _, rfl, LA, by omega, by omega, by omega, fun u HB u0 u1 eB LB => ?_⟩
      have hsoB := LA.keep eB hsoA d1 d2
      have hclB := LA.keep eB hcl cl1 cl2
      obtain ⟨x, hx, hxs⟩ := pickL hsv u0 u1
      refine ⟨_, _, _, _, rfl, rfl, lsOf hsoB, hx, ?_⟩
      have eAB := eA.trans eB
      refine ⟨fun σ' H' => ∃ x, σ' = [some (.ref sd), some (kdV b), some (.int (many : Int)), some (.int way), some (.int op), some (.ref d), some (.int stp), some (.ref cl), some (.int (0 + (i : Int))), some x, none] ∧ CK b x ∧ ExS sd c H9 H' ∧ LSt H' sd c (n + 310 + 13 * i + 12) ∧ H' cl = some (.lst vs), ?_, ?_⟩
      · have keepx : ∀ HC, ExS sd c HB HC → LSt HC sd c (n + 310 + 13 * i + 12) → ∃ x', ([some (.ref sd), some (kdV b), some (.int (many : Int)), some (.int way), some (.int op), some (.ref d), some (.int stp), some (.ref cl), some (.int (0 + (i : Int))), some x, none] : List (Option V)) = [some (.ref sd), some (kdV b), some (.int (many : Int)), some (.int way), some (.int op), some (.ref d), some (.int stp), some (.ref cl), some (.int (0 + (i : Int))), some x', none] ∧ CK b x' ∧ ExS sd c H9 HC ∧ LSt HC sd c (n + 310 + 13 * i + 12) ∧ HC cl = some (.lst vs) := fun HC eC LC =>
          ⟨x, rfl, hxs.1, eAB.trans eC, LC, LB.keep eC hclB cl1 cl2⟩
        refine ⟨_, rfl, rfl, _, rfl, ifB (fun hw1 => ?_) (fun hw1 => ?_)⟩
        · refine ⟨_, rfl, _, _, rfl, rfl, _, rfl, ifB (fun hp0 => ?_) (fun hp0 => ?_)⟩
          · refine ⟨_, rfl, sd, c, 5, _, rfl, LB, by omega, by decide, by decide, fun w HC w0 w1 eC LC => ?_⟩
            refine ⟨_, _, rfl, rfl, _, rfl, ifB (fun hw => ?_) (fun hw => ?_)⟩
            · have hclC := LB.keep eC hclB cl1 cl2
              have hip : 1 ≤ i := by
                have := of_decide_eq_true (show decide ((0 + (i : Int)) > 0) = true from hp0)
                omega
              obtain ⟨x', hx', hxc'⟩ : ∃ x', atI vs (-1) = some x' ∧ CK b x' := by
                rcases List.eq_nil_or_concat vs with h | ⟨r, y, h⟩
                · rw [h] at hvl; have hvl : 0 = i := hvl; omega
                · have h : vs = r ++ [y] := by rw [h, List.concat_eq_append]
                  exact ⟨y, by rw [h]; exact atI_last r y, hvs y (by rw [h]; exact List.mem_append_right _ (List.mem_singleton.mpr rfl))⟩
              refine ⟨_, rfl, _, rfl, _, _, _, _, rfl, rfl, lsOf hclC, hx', x', rfl, hxc', eAB.trans eC, LC.up (by omega), hclC⟩
            · refine ⟨_, rfl, rfl, _, rfl, ifB (fun hw2 => ?_) (fun hw2 => ?_)⟩
              · refine ⟨_, rfl, rfl, _, rfl, ?_⟩
                rw [kd_number]
                refine ifB (fun hb => ?_) (fun hb => ?_)
                · have hsoC := LB.keep eC hsoB d1 d2
                  obtain ⟨x0, hx0, hx0s⟩ := pickL hsv (i := 0) (by decide) (by omega)
                  obtain ⟨i0, rfl⟩ := hx0s.2 hb
                  refine ⟨_, rfl, _, _, _, _, rfl, rfl, lsOf hsoC, hx0, _, _, rfl, rfl, ⟨by decide, by decide, by decide⟩, _, _, rfl, rfl, (show (0 : Int) < (10 : Int) ^ (12 : Int).toNat by decide), _, rfl, _, rfl, _, _, rfl, rfl, .inl ⟨by omega, by omega⟩, _, _, rfl, rfl, ?_⟩
                  have hbd : -500 ≤ (0 + (i : Int)) * stp ∧ (0 + (i : Int)) * stp ≤ 100000000 := mul_bd (by omega) (by omega) hstb.1 hstb.2
                  have hmd1 := Int.emod_nonneg i0 (show ((10 : Int) ^ (12 : Int).toNat) ≠ 0 by decide)
                  have hmd2 := Int.emod_lt_of_pos i0 (show (0 : Int) < ((10 : Int) ^ (12 : Int).toNat) by decide)
                  have hp12 : ((10 : Int) ^ (12 : Int).toNat) = 1000000000000 := by decide
                  rw [hp12] at hmd1 hmd2 ⊢
                  refine ⟨_, rfl, ?_, eAB.trans eC, LC.up (by omega), LB.keep eC hclB cl1 cl2⟩
                  rw [hb]
                  exact (NumC.int (show NumOk (i0 % 1000000000000 + (0 + (i : Int)) * stp) from ⟨by omega, by omega⟩) : NumC (.int (i0 % 1000000000000 + (0 + (i : Int)) * stp)))
                · refine ⟨_, rfl, rfl, _, rfl, ifB (fun hw3 => ?_) (fun hw3 => keepx HC eC (LC.up (by omega)))⟩
                  refine ⟨_, rfl, rfl, _, rfl, ?_⟩
                  rw [kd_number]
                  refine ifB (fun hb => ?_) (fun hb => keepx HC eC (LC.up (by omega)))
                  refine ⟨_, rfl, sd, c, _, rfl, LC, by omega, fun z HD hz eD LD => ?_⟩
                  exact ⟨.int z, rfl, (by rw [hb]; exact (NumC.int hz : NumC (.int z))), (eAB.trans eC).trans eD, LD.up (by omega), LB.keep (ExS.trans eC eD) hclB cl1 cl2⟩
              · refine ⟨_, rfl, rfl, _, rfl, ifB (fun hw3 => ?_) (fun hw3 => keepx HC eC (LC.up (by omega)))⟩
                refine ⟨_, rfl, rfl, _, rfl, ?_⟩
                rw [kd_number]
                refine ifB (fun hb => ?_) (fun hb => keepx HC eC (LC.up (by omega)))
                refine ⟨_, rfl, sd, c, _, rfl, LC, by omega, fun z HD hz eD LD => ?_⟩
                exact ⟨.int z, rfl, (by rw [hb]; exact (NumC.int hz : NumC (.int z))), (eAB.trans eC).trans eD, LD.up (by omega), LB.keep (ExS.trans eC eD) hclB cl1 cl2⟩
          · refine ⟨_, rfl, rfl, _, rfl, ifB (fun hw2 => ?_) (fun hw2 => ?_)⟩
            · refine ⟨_, rfl, rfl, _, rfl, ?_⟩
              rw [kd_number]
              refine ifB (fun hb => ?_) (fun hb => ?_)
              · have hsoC := LB.keep (ExS.r sd c HB) hsoB d1 d2
                obtain ⟨x0, hx0, hx0s⟩ := pickL hsv (i := 0) (by decide) (by omega)
                obtain ⟨i0, rfl⟩ := hx0s.2 hb
                refine ⟨_, rfl, _, _, _, _, rfl, rfl, lsOf hsoC, hx0, _, _, rfl, rfl, ⟨by decide, by decide, by decide⟩, _, _, rfl, rfl, (show (0 : Int) < (10 : Int) ^ (12 : Int).toNat by decide), _, rfl, _, rfl, _, _, rfl, rfl, .inl ⟨by omega, by omega⟩, _, _, rfl, rfl, ?_⟩
                have hbd : -500 ≤ (0 + (i : Int)) * stp ∧ (0 + (i : Int)) * stp ≤ 100000000 := mul_bd (by omega) (by omega) hstb.1 hstb.2
                have hmd1 := Int.emod_nonneg i0 (show ((10 : Int) ^ (12 : Int).toNat) ≠ 0 by decide)
                have hmd2 := Int.emod_lt_of_pos i0 (show (0 : Int) < ((10 : Int) ^ (12 : Int).toNat) by decide)
                have hp12 : ((10 : Int) ^ (12 : Int).toNat) = 1000000000000 := by decide
                rw [hp12] at hmd1 hmd2 ⊢
                refine ⟨_, rfl, ?_, eAB.trans (ExS.r sd c HB), LB.up (by omega), LB.keep (ExS.r sd c HB) hclB cl1 cl2⟩
                rw [hb]
                exact (NumC.int (show NumOk (i0 % 1000000000000 + (0 + (i : Int)) * stp) from ⟨by omega, by omega⟩) : NumC (.int (i0 % 1000000000000 + (0 + (i : Int)) * stp)))
              · refine ⟨_, rfl, rfl, _, rfl, ifB (fun hw3 => ?_) (fun hw3 => keepx HB (ExS.r sd c HB) (LB.up (by omega)))⟩
                refine ⟨_, rfl, rfl, _, rfl, ?_⟩
                rw [kd_number]
                refine ifB (fun hb => ?_) (fun hb => keepx HB (ExS.r sd c HB) (LB.up (by omega)))
                refine ⟨_, rfl, sd, c, _, rfl, LB, by omega, fun z HD hz eD LD => ?_⟩
                exact ⟨.int z, rfl, (by rw [hb]; exact (NumC.int hz : NumC (.int z))), (eAB.trans (ExS.r sd c HB)).trans eD, LD.up (by omega), LB.keep (ExS.trans (ExS.r sd c HB) eD) hclB cl1 cl2⟩
            · refine ⟨_, rfl, rfl, _, rfl, ifB (fun hw3 => ?_) (fun hw3 => keepx HB (ExS.r sd c HB) (LB.up (by omega)))⟩
              refine ⟨_, rfl, rfl, _, rfl, ?_⟩
              rw [kd_number]
              refine ifB (fun hb => ?_) (fun hb => keepx HB (ExS.r sd c HB) (LB.up (by omega)))
              refine ⟨_, rfl, sd, c, _, rfl, LB, by omega, fun z HD hz eD LD => ?_⟩
              exact ⟨.int z, rfl, (by rw [hb]; exact (NumC.int hz : NumC (.int z))), (eAB.trans (ExS.r sd c HB)).trans eD, LD.up (by omega), LB.keep (ExS.trans (ExS.r sd c HB) eD) hclB cl1 cl2⟩
        · refine ⟨_, rfl, rfl, _, rfl, ifB (fun hw2 => ?_) (fun hw2 => ?_)⟩
          · refine ⟨_, rfl, rfl, _, rfl, ?_⟩
            rw [kd_number]
            refine ifB (fun hb => ?_) (fun hb => ?_)
            · have hsoC := LB.keep (ExS.r sd c HB) hsoB d1 d2
              obtain ⟨x0, hx0, hx0s⟩ := pickL hsv (i := 0) (by decide) (by omega)
              obtain ⟨i0, rfl⟩ := hx0s.2 hb
              refine ⟨_, rfl, _, _, _, _, rfl, rfl, lsOf hsoC, hx0, _, _, rfl, rfl, ⟨by decide, by decide, by decide⟩, _, _, rfl, rfl, (show (0 : Int) < (10 : Int) ^ (12 : Int).toNat by decide), _, rfl, _, rfl, _, _, rfl, rfl, .inl ⟨by omega, by omega⟩, _, _, rfl, rfl, ?_⟩
              have hbd : -500 ≤ (0 + (i : Int)) * stp ∧ (0 + (i : Int)) * stp ≤ 100000000 := mul_bd (by omega) (by omega) hstb.1 hstb.2
              have hmd1 := Int.emod_nonneg i0 (show ((10 : Int) ^ (12 : Int).toNat) ≠ 0 by decide)
              have hmd2 := Int.emod_lt_of_pos i0 (show (0 : Int) < ((10 : Int) ^ (12 : Int).toNat) by decide)
              have hp12 : ((10 : Int) ^ (12 : Int).toNat) = 1000000000000 := by decide
              rw [hp12] at hmd1 hmd2 ⊢
              refine ⟨_, rfl, ?_, eAB.trans (ExS.r sd c HB), LB.up (by omega), LB.keep (ExS.r sd c HB) hclB cl1 cl2⟩
              rw [hb]
              exact (NumC.int (show NumOk (i0 % 1000000000000 + (0 + (i : Int)) * stp) from ⟨by omega, by omega⟩) : NumC (.int (i0 % 1000000000000 + (0 + (i : Int)) * stp)))
            · refine ⟨_, rfl, rfl, _, rfl, ifB (fun hw3 => ?_) (fun hw3 => keepx HB (ExS.r sd c HB) (LB.up (by omega)))⟩
              refine ⟨_, rfl, rfl, _, rfl, ?_⟩
              rw [kd_number]
              refine ifB (fun hb => ?_) (fun hb => keepx HB (ExS.r sd c HB) (LB.up (by omega)))
              refine ⟨_, rfl, sd, c, _, rfl, LB, by omega, fun z HD hz eD LD => ?_⟩
              exact ⟨.int z, rfl, (by rw [hb]; exact (NumC.int hz : NumC (.int z))), (eAB.trans (ExS.r sd c HB)).trans eD, LD.up (by omega), LB.keep (ExS.trans (ExS.r sd c HB) eD) hclB cl1 cl2⟩
          · refine ⟨_, rfl, rfl, _, rfl, ifB (fun hw3 => ?_) (fun hw3 => keepx HB (ExS.r sd c HB) (LB.up (by omega)))⟩
            refine ⟨_, rfl, rfl, _, rfl, ?_⟩
            rw [kd_number]
            refine ifB (fun hb => ?_) (fun hb => keepx HB (ExS.r sd c HB) (LB.up (by omega)))
            refine ⟨_, rfl, sd, c, _, rfl, LB, by omega, fun z HD hz eD LD => ?_⟩
            exact ⟨.int z, rfl, (by rw [hb]; exact (NumC.int hz : NumC (.int z))), (eAB.trans (ExS.r sd c HB)).trans eD, LD.up (by omega), LB.keep (ExS.trans (ExS.r sd c HB) eD) hclB cl1 cl2⟩
      rintro σ' HC ⟨x2, rfl, hx2, eC2, LC, hclC⟩
      refine ⟨fun σ' H' => ∃ x, σ' = [some (.ref sd), some (kdV b), some (.int (many : Int)), some (.int way), some (.int op), some (.ref d), some (.int stp), some (.ref cl), some (.int (0 + (i : Int))), some x, none] ∧ CK b x ∧ ExS sd c H9 H' ∧ LSt H' sd c (n + 310 + 13 * i + 13) ∧ H' cl = some (.lst vs), ?_, ?_⟩
      · refine ⟨_, rfl, _, _, rfl, rfl, _, rfl, ifB (fun ho => ?_) (fun ho => ⟨x2, rfl, hx2, eC2, LC.up (by omega), hclC⟩)⟩
        have ho : decide (op > 0) = true := ho
        refine ⟨_, rfl, rfl, _, rfl, ifB (fun _ => ?_) (fun _ => ⟨x2, rfl, hx2, eC2, LC.up (by omega), hclC⟩)⟩
        refine ⟨_, rfl, _, rfl, sd, c, op, _, rfl, LC, by omega, by have := of_decide_eq_true ho; omega, by omega, fun u HD u0 u1 eD LD => ?_⟩
        refine ⟨rfl, _, rfl, ifB (fun _ => ?_) (fun _ => ⟨x2, rfl, hx2, eC2.trans eD, LD, LC.keep eD hclC cl1 cl2⟩)⟩
        exact ⟨.non, rfl, ckN b, eC2.trans eD, LD, LC.keep eD hclC cl1 cl2⟩
      rintro σ' HD ⟨x3, rfl, hx3, eD, LD, hclD⟩
      refine ⟨_, rfl, .inl ⟨rfl, _, .inl (.inl hclD)⟩, _, rfl, _, _, _, rfl, rfl, hclD, smlt (by omega), eD.mut ncl, (LD.up (by omega)).mut cl1 cl2, ⟨vs ++ [x3], upd_same, by rw [List.length_append, hvl]; rfl, fun y hy => ?_⟩, _, _, rfl⟩
      rcases List.mem_append.mp hy with hy | hy
      · exact hvs y hy
      · rw [List.mem_singleton.mp hy]
        exact hx3
    · obtain ⟨eA, LA, ⟨vs, hcl, hvl, hvs⟩, y8, y9, rfl⟩ := hI
      exact ⟨_, rfl, q cl vs H' hHcl hcl hvl hvs (e09.trans eA) (LA.up (by omega))⟩
end
end Pk
set_option Elab.async false
set_option linter.all false
set_option maxRecDepth 100000
set_option maxHeartbeats 4000000
set_option autoImplicit false
namespace Pk
open PySem PySem.Spec PyProof.Rows L2
open C8 (Cal Met Mak pe_c pe_mk pe_mt pe_mt0 pe_gc)
section
variable {P : Program} {w : World} {K : PySem.W.Frag} {mg : Str → Option Value} {base : Heap} {CG CP upA : Addr}
/-! ### _law_test -/
def ColsAt (K : PySem.W.Frag) (H : Hp) (ks : List Bool) (many : Nat) (cas : List Addr) (co : Addr) : Prop := SqL K H co (cas.map V.ref) ∧ cas.length = ks.length ∧ ∀ (i : Nat) (k : Bool), ks[i]? = some k → ∃ ca cells, cas[i]? = some ca ∧ SqL K H ca cells ∧ cells.length = many ∧ ∀ x ∈ cells, CK k x
theorem ColsAt.ex {K : PySem.W.Frag} {H H' : Hp} {ks : List Bool} {many : Nat} {cas : List Addr} {co : Addr} (h : ColsAt K H ks many cas co) (e : Ex H H') : ColsAt K H' ks many cas co := by
  obtain ⟨h1, h2, h3⟩ := h
  refine ⟨exL h1 e, h2, fun i k hk => ?_⟩
  obtain ⟨ca, cells, g1, g2, g3⟩ := h3 i k hk
  exact ⟨ca, cells, g1, exL g2 e, g3⟩
def cstT : Nat → Nat
  | 0 => 1000
  | e + 1 => 2 * cstT e + 10
theorem cst_ge (e : Nat) : 1000 ≤ cstT e := by
  induction e with
  | zero => exact Nat.le_refl _
  | succ e ih => show 1000 ≤ 2 * cstT e + 10; omega
theorem kdV_inj {a b : Bool} (h : decide (kdV a = kdV b) = true) : a = b := by
  cases a <;> cases b
  · rfl
  · exact absurd h (by decide +kernel)
  · exact absurd h (by decide +kernel)
  · rfl
theorem kdV_rfl {a : Bool} : decide (kdV a = kdV a) = true := decide_eq_true rfl
def sp_law_test (K : PySem.W.Frag) (d : Nat) : Sp := fun vs H Q _ => ∃ (sd c kl co : Addr) (e n many : Nat) (ks : List Bool) (cas : List Addr), vs = [.ref sd, .ref kl, .ref co, .int (e : Int)] ∧ e < d ∧ LSt H sd c n ∧ n + cstT e ≤ 600000 ∧ SqL K (rmS sd c H) kl (ks.map kdV) ∧ 1 ≤ ks.length ∧ ks.length ≤ 8 ∧ ColsAt K (rmS sd c H) ks many cas co ∧ many ≤ 100 ∧
  ∀ a t H2, RTAt K (rmS sd c H2) t a → RFit ks t → t.dep ≤ e → ExS sd c H H2 → LSt H2 sd c (n + cstT e) → Q (.ref a) H2
theorem ok_law_test0 (D : Dfn K mg "_law_test" s_law_test) : Cal P w K mg base 5 "_law_test" (sp_law_test K 0) [] := by
  refine cal_mk D sc_law_test (fun _ _ _ _ _ _ us hl => match us, hl with | [_, _, _, _], _ => rfl) (fun vs H Q E h => ?_) (fun f cdv A outer s H vs Q E hr h => ?_)
  · obtain ⟨_, _, _, _, _, _, _, _, _, rfl, _⟩ := h; rfl
  · obtain ⟨_, _, _, _, _, _, _, _, _, rfl, h, _⟩ := h
    exact absurd h (Nat.not_lt_zero _)
theorem ok_law_test (T : Gf K mg CG CP upA) (D : Dfn K mg "_law_test" s_law_test) (c_law_take : Cal P w K mg base 1 "_law_take" (sp_law_take K) []) (c_law_cell_test : Cal P w K mg base 4 "_law_cell_test" (sp_law_cell_test K) []) (d : Nat) (c_law_test : Cal P w K mg base (5 + d) "_law_test" (sp_law_test K d) []) : Cal P w K mg base (5 + d + 1) "_law_test" (sp_law_test K (d + 1)) [] := by
  refine cal_mk D sc_law_test (fun _ _ _ _ _ _ us hl => match us, hl with | [_, _, _, _], _ => rfl) (fun vs H Q E h => ?_) (fun f cdv A outer s H vs Q E hr h => ?_)
  · obtain ⟨_, _, _, _, _, _, _, _, _, rfl, _⟩ := h; rfl
  · obtain ⟨sd, c, kl, co, e, n, many, ks, cas, rfl, hed, hL, hn, hK, hk1, hk8, hC, hmany, q⟩ := h
    refine ⟨_, pss_cons (ps_set (i := 4) sc_law_test.nd rfl (Or.inl rfl) (pe_c c_law_take hr (by omega) (by rfl) (pa_cons (pv 0) (pa_cons (pe_int) pa_nil))))
      (pss_cons (ps_if (PW.pt (pw_and (pt_cmpR op_gt (pv 3) (pe_int) (nomark _)) (pw_and1 (pt_cmpR op_gt (pv 4) (pe_int) (nomark _))))) (pss_cons (ps_set (i := 5) sc_law_test.nd rfl (Or.inl rfl) (pe_c c_law_test hr (by omega) (by rfl) (pa_cons (pv 0) (pa_cons (pv 1) (pa_cons (pv 2) (pa_cons (pe_op op_sub (pv 3) (pe_int)) pa_nil))))))
        (pss_cons (ps_if (pt_cmpR op_eq (pv 4) (pe_int) (nomark _)) (pss_one (ps_ret (pe_tup (pa_cons (pe_str) (pa_cons (pv 5) pa_nil))))) (pss_nil))
        (pss_one (ps_ret (pe_tup (pa_cons (pe_ix ix_list (pe_lst (pa_cons (pe_str) (pa_cons (pe_str) pa_nil))) (pe_op op_mod (pv 4) (pe_int)) (fun _ _ => rfl)) (pa_cons (pv 5) (pa_cons (pe_c c_law_test hr (by omega) (by rfl) (pa_cons (pv 0) (pa_cons (pv 1) (pa_cons (pv 2) (pa_cons (pe_op op_sub (pv 3) (pe_int)) pa_nil))))) pa_nil)))))))) (pss_nil))
      (pss_cons (ps_set (i := 6) sc_law_test.nd rfl (Or.inr rfl) (pe_c c_law_take hr (by omega) (by rfl) (pa_cons (pv 0) (pa_cons (pe_callB call_len_seq (by rfl) T.len (by decide +kernel) (pa_cons (pv 1) pa_nil)) pa_nil))))
      (pss_cons (ps_if (pt_cmpR op_eq (pv 4) (pe_int) (nomark _)) (pss_one (ps_ret (pe_tup (pa_cons (pe_str) pa_nil)))) (pss_nil))
      (pss_cons (ps_if (pt_cmpR op_eq (pv 4) (pe_int) (nomark _)) (pss_cons (ps_setLc (i := 7) (own := [("_law_other", 9)]) (g := gName 9) (tt := (tTest (tOp _ (tOp (rIxL K) _ _) (tOp (rIxL K) _ _)))) (by rfl) sc_law_test.nd rfl rfl (sw_true rfl rfl rfl (by decide +kernel)) (pi_range1 (by rfl) T.range (pa_cons (pe_callB call_len_seq (by rfl) T.len (by decide +kernel) (pa_cons (pv 1) pa_nil)) pa_nil)) (blkOk_by (N := N_law_test) (sc := defScope s_law_test) (by decide +kernel)) (fun _ _ _ _ _ => pg_name (i := 9) sc_law_test.nd rfl (Or.inl rfl)) (fun _ _ _ _ _ => pts_one (pt_cmpR op_eq (pe_ix ix_list (pv 1) (pv 9) (fun _ _ => rfl)) (pe_ix ix_list (pv 1) (pv 6) (fun _ _ => rfl)) (nomark _))) (fun _ _ _ _ _ => pv 9))
        (pss_cons (ps_set (i := 8) sc_law_test.nd rfl (Or.inl rfl) (pe_ix ix_list (pe_lst (pa_cons (pe_str) (pa_cons (pe_str) (pa_cons (pe_str) (pa_cons (pe_str) (pa_cons (pe_str) (pa_cons (pe_str) pa_nil))))))) (pe_c c_law_take hr (by omega) (by rfl) (pa_cons (pv 0) (pa_cons (pe_int) pa_nil))) (fun _ _ => rfl)))
        (pss_one (ps_ret (pe_tup (pa_cons (pe_str) (pa_cons (pv 6) (pa_cons (pv 8) (pa_cons (pe_ix ix_list (pv 7) (pe_c c_law_take hr (by omega) (by rfl) (pa_cons (pv 0) (pa_cons (pe_callB call_len_seq (by rfl) T.len (by decide +kernel) (pa_cons (pv 7) pa_nil)) pa_nil))) (fun _ _ => rfl)) pa_nil))))))))) (pss_nil))
      (pss_one (ps_ret (pe_tup (pa_cons (pe_str) (pa_cons (pv 6) (pa_cons (pe_c c_law_cell_test hr (by omega) (by rfl) (pa_cons (pv 0) (pa_cons (pe_ix ix_list (pv 1) (pv 6) (fun _ _ => rfl)) (pa_cons (pe_ix ix_list (pv 2) (pv 6) (fun _ _ => rfl)) pa_nil)))) pa_nil)))))))))), ?_⟩
    have hce := cst_ge e
    refine ⟨_, rfl, sd, c, 12, n, rfl, hL, by omega, by decide, by decide, fun way H1 w0 w1 e1 L1 => ?_⟩
    have leaf : ∀ (H1 : Hp), True := fun _ => trivial
    refine ⟨_, rfl, _, _, rfl, rfl, _, rfl, ifB (fun hd0 => ?_) (fun hd0 => ?_)⟩
    · refine ⟨_, rfl, _, _, rfl, rfl, _, rfl, ifB (fun hw5 => ?_) (fun hw5 => ?_)⟩
      · have he0 : 0 < e := by
          have := of_decide_eq_true (show decide ((e : Int) > 0) = true from hd0)
          omega
        obtain ⟨e', rfl⟩ : ∃ e', e = e' + 1 := ⟨e - 1, by omega⟩
        have hcs : cstT (e' + 1) = 2 * cstT e' + 10 := rfl
        rw [hcs] at hn hce
        have hi1 : ((e' + 1 : Nat) : Int) - 1 = (e' : Int) := by omega
        refine ⟨_, rfl, _, rfl, _, rfl, _, rfl, _, _, rfl, rfl, ?_⟩
        refine ⟨sd, c, kl, co, e', _, many, ks, cas, (by show [V.ref sd, V.ref kl, V.ref co, V.int (((e' + 1 : Nat) : Int) - 1)] = _; rw [hi1]), by omega, L1, by omega, exL hK e1, hk1, hk8, hC.ex e1, hmany, fun a t H2 hat hft hdt e2 L2 => ?_⟩
        refine ⟨_, rfl, rfl, _, rfl, ifB (fun _ => ?_) (fun hw6 => ?_)⟩
        · refine ⟨_, rfl, Nat.le_of_ble_eq_true rfl, fun p np => ?_⟩
          obtain ⟨f1, f2⟩ := L2.fresh np
          have eP := Ex.n (o := HO.tup [V.str "not", .ref a]) np
          exact q p (.neg t) _ ⟨a, tpOf (rmS_of upd_same f1 f2), hat.ex (ExS.of eP)⟩ hft (by show t.dep + 1 ≤ e' + 1; omega) ((e1.trans e2).trans (ExS.of eP)) ((L2.mono eP).up (by rw [hcs]; omega))
        refine ⟨Nat.le_of_ble_eq_true rfl, fun p np => ?_⟩
        obtain ⟨f1, f2⟩ := L2.fresh np
        have eP := Ex.n (o := HO.lst ([("both" : Str), "either"].map V.str)) np
        have L3 := L2.mono eP
        have e03 := (e1.trans e2).trans (ExS.of eP)
        obtain ⟨x, hx, z, hz, rfl⟩ := pickL (xs := [("both" : Str), "either"].map V.str) (p := fun x => ∃ z : Str, (z = "both" ∨ z = "either") ∧ x = .str z) (fun x hx => by
          obtain ⟨z, hz, rfl⟩ := List.mem_map.mp hx
          refine ⟨z, ?_, rfl⟩
          simp only [List.mem_cons, List.not_mem_nil, or_false] at hz
          exact hz) (i := way % 2) (by omega) (by show way % 2 < 2; omega)
        refine ⟨_, rfl, _, _, rfl, rfl, (show (0 : Int) < 2 by decide), _, _, _, _, rfl, rfl, lsOf upd_same, hx, _, rfl, ?_⟩
        have hat3 := hat.ex (ExS.of eP)
        refine ⟨_, rfl, _, rfl, _, rfl, _, rfl, _, _, rfl, rfl, ?_⟩
        refine ⟨sd, c, kl, co, e', _, many, ks, cas, (by show [V.ref sd, V.ref kl, V.ref co, V.int (((e' + 1 : Nat) : Int) - 1)] = _; rw [hi1]), by omega, L3, by omega, exL hK e03, hk1, hk8, hC.ex e03, hmany, fun a2 t2 H4 hat2 hft2 hdt2 e4 L4 => ?_⟩
        refine ⟨Nat.le_of_ble_eq_true rfl, fun p2 np2 => ?_⟩
        obtain ⟨g1, g2⟩ := L4.fresh np2
        have eP2 := Ex.n (o := HO.tup [V.str z, .ref a, .ref a2]) np2
        have hA := (hat3.ex e4).ex (ExS.of eP2)
        have hB := hat2.ex (ExS.of (sd := sd) (c := c) eP2)
        rcases hz with rfl | rfl
        · exact q p2 (.both t t2) _ ⟨a, a2, tpOf (rmS_of upd_same g1 g2), hA, hB⟩ ⟨hft, hft2⟩ (by show max t.dep t2.dep + 1 ≤ e' + 1; omega) ((e03.trans e4).trans (ExS.of eP2)) ((L4.mono eP2).up (by rw [hcs]; omega))
        · exact q p2 (.eith t t2) _ ⟨a, a2, tpOf (rmS_of upd_same g1 g2), hA, hB⟩ ⟨hft, hft2⟩ (by show max t.dep t2.dep + 1 ≤ e' + 1; omega) ((e03.trans e4).trans (ExS.of eP2)) ((L4.mono eP2).up (by rw [hcs]; omega))
      · refine ⟨_, rfl, _, rfl, _, _, rfl, .inl (exL (exL hK e1) rmS_ex), sd, c, _, n + 1, rfl, L1, by omega, (by rw [List.length_map]; omega), (by rw [List.length_map]; omega), fun pl H2 p0 p1 e2 L2 => ?_⟩
        rw [List.length_map] at p1
        obtain ⟨i, rfl⟩ : ∃ i : Nat, pl = (i : Int) := ⟨pl.toNat, by omega⟩
        have hi : i < ks.length := by omega
        have hki : ks[i]? = some ks[i] := List.getElem?_eq_getElem hi
        have e02 := e1.trans e2
        refine ⟨_, rfl, rfl, _, rfl, ifB (fun _ => ?_) (fun hw0 => ?_)⟩
        · refine ⟨Nat.le_of_ble_eq_true rfl, fun p np => ?_⟩
          obtain ⟨f1, f2⟩ := L2.fresh np
          have eP := Ex.n (o := HO.tup [V.str "always"]) np
          exact q p .alw _ (tpOf (rmS_of upd_same f1 f2)) trivial (Nat.zero_le _) (e02.trans (ExS.of eP)) ((L2.mono eP).up (by omega))
        refine ⟨_, rfl, rfl, _, rfl, ifB (fun _ => ?_) (fun hw1 => ?_)⟩
        · refine ⟨_, rfl, _, _, rfl, .inl (exL (exL hK e02) rmS_ex), ?_⟩
          rw [List.length_map]
          refine ⟨_, rfl, by omega, by omega, fun d' nd => ?_⟩
          obtain ⟨d1, d2⟩ := L2.fresh nd
          refine lc_it (walk_range (lo := 0) (n := ks.length)) (fun j H' => Ex H2 H' ∧ ∃ os : List Nat, H' d' = some (.lst (os.map fun o : Nat => V.int (o : Int))) ∧ os.length ≤ j ∧ (∀ o ∈ os, ks[o]? = some ks[i]) ∧ (i < j → 1 ≤ os.length)) ⟨Ex.n nd, [], upd_same, Nat.le_refl _, (fun o h => by cases h), fun h => absurd h (Nat.not_lt_zero _)⟩ (fun _ _ _ _ => trivial) (fun j x H' H3 hj hI hy => ?_) (fun H' hI => ?_)
          · obtain ⟨e3, os, hd, hol, hos, hne⟩ := hI
            obtain ⟨rfl, rfl⟩ := hy
            refine ⟨rfl, ?_⟩
            have hK3 : SqL K H3 kl (ks.map kdV) := exL (exL (exL hK e02) rmS_ex) e3
            have hkj : ks[j]? = some ks[j] := List.getElem?_eq_getElem hj
            refine ⟨_, rfl, _, rfl, _, _, _, _, rfl, rfl, hK3, at_k (k := j) (by rw [List.getElem?_map, hkj]; rfl) (by omega), _, rfl, _, rfl, _, _, _, _, rfl, rfl, hK3, atI_nat (by rw [List.getElem?_map, hki]; rfl), rfl, _, rfl, ifB (fun hq => ?_) (fun hq => ?_)⟩
            · refine ⟨_, rfl, _, hd, smlt (by rw [List.length_map]; omega), e3.mut nd, os ++ [j], ?_, by rw [List.length_append]; show os.length + 1 ≤ j + 1; omega, fun o ho => ?_, fun _ => by rw [List.length_append]; show 1 ≤ os.length + 1; omega⟩
              · rw [upd_same, List.map_append]
                show some (HO.lst (_ ++ [V.int (0 + (j : Int))])) = some (HO.lst (_ ++ [V.int (j : Int)]))
                rw [Int.zero_add]
              · rcases List.mem_append.mp ho with ho | ho
                · exact hos o ho
                · rw [List.mem_singleton.mp ho, hkj, kdV_inj hq]
            · refine ⟨e3, os, hd, by omega, hos, fun hij => ?_⟩
              rcases Nat.lt_or_ge i j with h | h
              · exact hne h
              · have : i = j := by omega
                subst this
                exact absurd (hq.symm.trans kdV_rfl) (by decide)
          · obtain ⟨e3, os, hd, hol, hos, hne⟩ := hI
            have L3 := L2.mono e3
            have e03 := e02.trans (ExS.of e3)
            refine ⟨Nat.le_of_ble_eq_true rfl, fun p np => ?_⟩
            obtain ⟨f1, f2⟩ := L3.fresh np
            have eP := Ex.n (o := HO.lst (sgsL.map V.str)) np
            have L4 := L3.mono eP
            have hd4 := eP _ _ hd
            have e04 := e03.trans (ExS.of eP)
            refine ⟨_, rfl, sd, c, 6, _, rfl, L4, by omega, by decide, by decide, fun u H5 u0 u1 e5 L5 => ?_⟩
            have hp5 : H5 p = some (.lst (sgsL.map V.str)) := L4.keep e5 upd_same f1 f2
            have hd5 := L4.keep e5 hd4 d1 d2
            obtain ⟨x, hx, z, hz, rfl⟩ := pickL (xs := sgsL.map V.str) (p := fun x => ∃ z, SgOk z ∧ x = .str z) (fun x hx => by
              obtain ⟨z, hz, rfl⟩ := List.mem_map.mp hx
              exact ⟨z, sgs_ok z hz, rfl⟩) u0 (by show u < 6; exact u1)
            refine ⟨_, _, _, _, rfl, rfl, lsOf hp5, hx, ?_⟩
            have h1o := hne hi
            refine ⟨_, rfl, _, rfl, _, rfl, _, rfl, _, rfl, _, _, rfl, .inl (lsOf hd5), sd, c, _, _, rfl, L5, by omega, (by rw [List.length_map]; omega), (by rw [List.length_map]; omega), fun v H6 v0 v1 e6 L6 => ?_⟩
            have hd6 := L5.keep e6 hd5 d1 d2
            obtain ⟨y, hy, o, ho, rfl⟩ := pickL (xs := os.map fun o : Nat => V.int (o : Int)) (p := fun x => ∃ o : Nat, ks[o]? = some ks[i] ∧ x = .int (o : Int)) (fun x hx => by
              obtain ⟨o, ho, rfl⟩ := List.mem_map.mp hx
              exact ⟨o, hos o ho, rfl⟩) v0 v1
            refine ⟨_, _, _, _, rfl, rfl, lsOf hd6, hy, Nat.le_of_ble_eq_true rfl, fun p2 np2 => ?_⟩
            obtain ⟨g1, g2⟩ := L6.fresh np2
            have eP2 := Ex.n (o := HO.tup [V.str "cells", .int (i : Int), .str z, .int (o : Int)]) np2
            exact q p2 (.cells i z o) _ (tpOf (rmS_of upd_same g1 g2)) ⟨_, hki, ho, hz⟩ (Nat.zero_le _) (((e04.trans e5).trans e6).trans (ExS.of eP2)) ((L6.mono eP2).up (by omega))
        obtain ⟨hC1, hC2, hC3⟩ := hC.ex e02
        obtain ⟨ca, cells, hca, hcs, hcl, hck⟩ := hC3 i _ hki
        refine ⟨_, rfl, _, rfl, _, rfl, _, rfl, _, _, _, _, rfl, rfl, exL (exL hK e02) rmS_ex, atI_nat (by rw [List.getElem?_map, hki]; rfl), _, rfl, _, rfl, _, _, _, _, rfl, rfl, exL hC1 rmS_ex, atI_nat (by rw [List.getElem?_map, hca]; rfl), sd, c, ca, ks[i], cells, _, rfl, L2, by omega, hcs, hck, by omega, fun a t H3 h1 h2 h3 _ _ e3 L3 => ?_⟩
        refine ⟨Nat.le_of_ble_eq_true rfl, fun p2 np2 => ?_⟩
        obtain ⟨g1, g2⟩ := L3.fresh np2
        have eP2 := Ex.n (o := HO.tup [V.str "cell", .int (i : Int), .ref a]) np2
        exact q p2 (.cell i t) _ ⟨a, tpOf (rmS_of upd_same g1 g2), h1.ex (ExS.of eP2)⟩ ⟨_, hki, h2, h3⟩ (Nat.zero_le _) ((e02.trans e3).trans (ExS.of eP2)) ((L3.mono eP2).up (by omega))
    refine ⟨_, rfl, _, rfl, _, _, rfl, .inl (exL (exL hK e1) rmS_ex), sd, c, _, n + 1, rfl, L1, by omega, (by rw [List.length_map]; omega), (by rw [List.length_map]; omega), fun pl H2 p0 p1 e2 L2 => ?_⟩
    rw [List.length_map] at p1
    obtain ⟨i, rfl⟩ : ∃ i : Nat, pl = (i : Int) := ⟨pl.toNat, by omega⟩
    have hi : i < ks.length := by omega
    have hki : ks[i]? = some ks[i] := List.getElem?_eq_getElem hi
    have e02 := e1.trans e2
    refine ⟨_, rfl, rfl, _, rfl, ifB (fun _ => ?_) (fun hw0 => ?_)⟩
    · refine ⟨Nat.le_of_ble_eq_true rfl, fun p np => ?_⟩
      obtain ⟨f1, f2⟩ := L2.fresh np
      have eP := Ex.n (o := HO.tup [V.str "always"]) np
      exact q p .alw _ (tpOf (rmS_of upd_same f1 f2)) trivial (Nat.zero_le _) (e02.trans (ExS.of eP)) ((L2.mono eP).up (by omega))
    refine ⟨_, rfl, rfl, _, rfl, ifB (fun _ => ?_) (fun hw1 => ?_)⟩
    · refine ⟨_, rfl, _, _, rfl, .inl (exL (exL hK e02) rmS_ex), ?_⟩
      rw [List.length_map]
      refine ⟨_, rfl, by omega, by omega, fun d' nd => ?_⟩
      obtain ⟨d1, d2⟩ := L2.fresh nd
      refine lc_it (walk_range (lo := 0) (n := ks.length)) (fun j H' => Ex H2 H' ∧ ∃ os : List Nat, H' d' = some (.lst (os.map fun o : Nat => V.int (o : Int))) ∧ os.length ≤ j ∧ (∀ o ∈ os, ks[o]? = some ks[i]) ∧ (i < j → 1 ≤ os.length)) ⟨Ex.n nd, [], upd_same, Nat.le_refl _, (fun o h => by cases h), fun h => absurd h (Nat.not_lt_zero _)⟩ (fun _ _ _ _ => trivial) (fun j x H' H3 hj hI hy => ?_) (fun H' hI => ?_)
      · obtain ⟨e3, os, hd, hol, hos, hne⟩ := hI
        obtain ⟨rfl, rfl⟩ := hy
        refine ⟨rfl, ?_⟩
        have hK3 : SqL K H3 kl (ks.map kdV) := exL (exL (exL hK e02) rmS_ex) e3
        have hkj : ks[j]? = some ks[j] := List.getElem?_eq_getElem hj
        refine ⟨_, rfl, _, rfl, _, _, _, _, rfl, rfl, hK3, at_k (k := j) (by rw [List.getElem?_map, hkj]; rfl) (by omega), _, rfl, _, rfl, _, _, _, _, rfl, rfl, hK3, atI_nat (by rw [List.getElem?_map, hki]; rfl), rfl, _, rfl, ifB (fun hq => ?_) (fun hq => ?_)⟩
        · refine ⟨_, rfl, _, hd, smlt (by rw [List.length_map]; omega), e3.mut nd, os ++ [j], ?_, by rw [List.length_append]; show os.length + 1 ≤ j + 1; omega, fun o ho => ?_, fun _ => by rw [List.length_append]; show 1 ≤ os.length + 1; omega⟩
          · rw [upd_same, List.map_append]
            show some (HO.lst (_ ++ [V.int (0 + (j : Int))])) = some (HO.lst (_ ++ [V.int (j : Int)]))
            rw [Int.zero_add]
          · rcases List.mem_append.mp ho with ho | ho
            · exact hos o ho
            · rw [List.mem_singleton.mp ho, hkj, kdV_inj hq]
        · refine ⟨e3, os, hd, by omega, hos, fun hij => ?_⟩
          rcases Nat.lt_or_ge i j with h | h
          · exact hne h
          · have : i = j := by omega
            subst this
            exact absurd (hq.symm.trans kdV_rfl) (by decide)
      · obtain ⟨e3, os, hd, hol, hos, hne⟩ := hI
        have L3 := L2.mono e3
        have e03 := e02.trans (ExS.of e3)
        refine ⟨Nat.le_of_ble_eq_true rfl, fun p np => ?_⟩
        obtain ⟨f1, f2⟩ := L3.fresh np
        have eP := Ex.n (o := HO.lst (sgsL.map V.str)) np
        have L4 := L3.mono eP
        have hd4 := eP _ _ hd
        have e04 := e03.trans (ExS.of eP)
        refine ⟨_, rfl, sd, c, 6, _, rfl, L4, by omega, by decide, by decide, fun u H5 u0 u1 e5 L5 => ?_⟩
        have hp5 : H5 p = some (.lst (sgsL.map V.str)) := L4.keep e5 upd_same f1 f2
        have hd5 := L4.keep e5 hd4 d1 d2
        obtain ⟨x, hx, z, hz, rfl⟩ := pickL (xs := sgsL.map V.str) (p := fun x => ∃ z, SgOk z ∧ x = .str z) (fun x hx => by
          obtain ⟨z, hz, rfl⟩ := List.mem_map.mp hx
          exact ⟨z, sgs_ok z hz, rfl⟩) u0 (by show u < 6; exact u1)
        refine ⟨_, _, _, _, rfl, rfl, lsOf hp5, hx, ?_⟩
        have h1o := hne hi
        refine ⟨_, rfl, _, rfl, _, rfl, _, rfl, _, rfl, _, _, rfl, .inl (lsOf hd5), sd, c, _, _, rfl, L5, by omega, (by rw [List.length_map]; omega), (by rw [List.length_map]; omega), fun v H6 v0 v1 e6 L6 => ?_⟩
        have hd6 := L5.keep e6 hd5 d1 d2
        obtain ⟨y, hy, o, ho, rfl⟩ := pickL (xs := os.map fun o : Nat => V.int (o : Int)) (p := fun x => ∃ o : Nat, ks[o]? = some ks[i] ∧ x = .int (o : Int)) (fun x hx => by
          obtain ⟨o, ho, rfl⟩ := List.mem_map.mp hx
          exact ⟨o, hos o ho, rfl⟩) v0 v1
        refine ⟨_, _, _, _, rfl, rfl, lsOf hd6, hy, Nat.le_of_ble_eq_true rfl, fun p2 np2 => ?_⟩
        obtain ⟨g1, g2⟩ := L6.fresh np2
        have eP2 := Ex.n (o := HO.tup [V.str "cells", .int (i : Int), .str z, .int (o : Int)]) np2
        exact q p2 (.cells i z o) _ (tpOf (rmS_of upd_same g1 g2)) ⟨_, hki, ho, hz⟩ (Nat.zero_le _) (((e04.trans e5).trans e6).trans (ExS.of eP2)) ((L6.mono eP2).up (by omega))
    obtain ⟨hC1, hC2, hC3⟩ := hC.ex e02
    obtain ⟨ca, cells, hca, hcs, hcl, hck⟩ := hC3 i _ hki
    refine ⟨_, rfl, _, rfl, _, rfl, _, rfl, _, _, _, _, rfl, rfl, exL (exL hK e02) rmS_ex, atI_nat (by rw [List.getElem?_map, hki]; rfl), _, rfl, _, rfl, _, _, _, _, rfl, rfl, exL hC1 rmS_ex, atI_nat (by rw [List.getElem?_map, hca]; rfl), sd, c, ca, ks[i], cells, _, rfl, L2, by omega, hcs, hck, by omega, fun a t H3 h1 h2 h3 _ _ e3 L3 => ?_⟩
    refine ⟨Nat.le_of_ble_eq_true rfl, fun p2 np2 => ?_⟩
    obtain ⟨g1, g2⟩ := L3.fresh np2
    have eP2 := Ex.n (o := HO.tup [V.str "cell", .int (i : Int), .ref a]) np2
    exact q p2 (.cell i t) _ ⟨a, tpOf (rmS_of upd_same g1 g2), h1.ex (ExS.of eP2)⟩ ⟨_, hki, h2, h3⟩ (Nat.zero_le _) ((e02.trans e3).trans (ExS.of eP2)) ((L3.mono eP2).up (by omega))
theorem ok_law_testN (T : Gf K mg CG CP upA) (D : Dfn K mg "_law_test" s_law_test) (c_law_take : Cal P w K mg base 1 "_law_take" (sp_law_take K) []) (c_law_cell_test : Cal P w K mg base 4 "_law_cell_test" (sp_law_cell_test K) []) : ∀ d : Nat, Cal P w K mg base (5 + d) "_law_test" (sp_law_test K d) []
  | 0 => ok_law_test0 D
  | d + 1 => ok_law_test T D c_law_take c_law_cell_test d (ok_law_testN T D c_law_take c_law_cell_test d)
end
end Pk
set_option Elab.async false
set_option linter.all false
set_option maxRecDepth 100000
set_option maxHeartbeats 4000000
set_option autoImplicit false
namespace Pk
open PySem PySem.Spec PyProof.Rows L2
/-! ### the rounds, larger tables too -/
def orb (m : Nat) : Nat → Nat × Nat
  | 0 => (0, 1)
  | n + 1 => (((orb m n).1 * 5 + 1) % (m + 1), (orb m n).2 ||| 2 ^ (((orb m n).1 * 5 + 1) % (m + 1)))
theorem orb_fst (m : Nat) : ∀ n, (orb m n).1 = lcgN m n
  | 0 => rfl
  | n + 1 => by
    show ((orb m n).1 * 5 + 1) % (m + 1) = (lcgN m n * 5 + 1) % (m + 1)
    rw [orb_fst m n]
theorem orb_snd (m j : Nat) : ∀ n, (orb m n).2.testBit j = true → ∃ b, b ≤ n ∧ lcgN m b = j
  | 0, h => by
    have h : Nat.testBit 1 j = true := h
    refine ⟨0, Nat.le_refl _, ?_⟩
    cases j with
    | zero => rfl
    | succ j => rw [Nat.testBit_one_eq_true_iff_self_eq_zero] at h; cases h
  | n + 1, h => by
    have h : ((orb m n).2 ||| 2 ^ (((orb m n).1 * 5 + 1) % (m + 1))).testBit j = true := h
    rw [Nat.testBit_or, Bool.or_eq_true] at h
    rcases h with h | h
    · obtain ⟨b, h1, h2⟩ := orb_snd m j n h
      exact ⟨b, Nat.le_succ_of_le h1, h2⟩
    · rw [Nat.testBit_two_pow] at h
      refine ⟨n + 1, Nat.le_refl _, ?_⟩
      rw [← orb_fst]
      exact of_decide_eq_true h
/-- the masks that come -/
def MaskB (m : Nat) : Prop := m = 7 ∨ m = 31 ∨ m = 127 ∨ m = 511 ∨ m = 2047
def orbOk (m : Nat) : Bool := (orb m m).2 == 2 ^ (m + 1) - 1 && ((orb m m).1 * 5 + 1) % (m + 1) == 0
theorem orb7 : orbOk 7 = true := by decide +kernel
theorem orb31 : orbOk 31 = true := by decide +kernel
theorem orb127 : orbOk 127 = true := by decide +kernel
theorem orb511 : orbOk 511 = true := by decide +kernel
theorem orb2047 : orbOk 2047 = true := by decide +kernel
theorem orb_ok {m : Nat} (h : MaskB m) : orbOk m = true := by
  rcases h with e | e | e | e | e <;> subst e
  · exact orb7
  · exact orb31
  · exact orb127
  · exact orb511
  · exact orb2047
theorem lcgB_all {m : Nat} (hm : MaskB m) {j : Nat} (hj : j ≤ m) : ∃ b, b ≤ m ∧ lcgN m b = j := by
  have h := orb_ok hm
  unfold orbOk at h
  rw [Bool.and_eq_true] at h
  have h1 := eq_of_beq h.1
  refine orb_snd m j m ?_
  rw [h1, Nat.testBit_two_pow_sub_one]
  exact decide_eq_true (Nat.lt_succ_of_le hj)
theorem lcgB_round {m : Nat} (hm : MaskB m) : lcgN m (m + 1) = 0 := by
  have h := orb_ok hm
  unfold orbOk at h
  rw [Bool.and_eq_true] at h
  have h2 := eq_of_beq h.2
  rw [orb_fst] at h2
  exact h2
theorem lcgB_mod {m : Nat} (hm : MaskB m) (k : Nat) : lcgN m (m + 1 + k) = lcgN m k := by
  induction k with
  | zero => exact lcgB_round hm
  | succ k ih =>
    show (lcgN m (m + 1 + k) * 5 + 1) % (m + 1) = (lcgN m k * 5 + 1) % (m + 1)
    rw [ih]
theorem runB_meets {m : Nat} (hm : MaskB m) (h : Int) {j : Nat} (hj : j ≤ m) : ∃ n, n ≤ m + 12 ∧ runI m (SetTable.bits h) n = j := by
  obtain ⟨a, ha, ea⟩ := lcgB_all hm (runI_le m (SetTable.bits h) 12)
  obtain ⟨b, hb, eb⟩ := lcgB_all hm hj
  have key : ∃ k, k ≤ m ∧ lcgN m (a + k) = j := by
    rcases Nat.lt_or_ge b a with c | c
    · exact ⟨b + (m + 1) - a, by omega, by rw [show a + (b + (m + 1) - a) = m + 1 + b by omega, lcgB_mod hm, eb]⟩
    · exact ⟨b - a, by omega, by rw [show a + (b - a) = b by omega, eb]⟩
  obtain ⟨k, hk, e⟩ := key
  refine ⟨12 + k, by omega, ?_⟩
  rw [runI_tail (bits_lt h), ← ea, lcgN_add, e]
/-! ### a table of distinct members -/
structure Tb (t : SetTable) (n : Nat) : Prop where
  ris : Ris t.place.toList
  dm : t.dummies = #[]
  sz : t.place.size = n
  mok : MaskB t.mask
theorem Tb.first {t : SetTable} {n : Nat} (T : Tb t n) (hl : n ≤ t.mask) (h : Int) : ∃ K, K < 10 * SetTable.turns t.mask ∧ way t.mask h K ∉ t.place.toList ∧ ∀ k, k < K → way t.mask h k ∈ t.place.toList := by
  have hlen : t.place.toList.length < t.mask + 1 := by
    rw [Array.length_toList, T.sz]
    omega
  obtain ⟨j, hj, hn⟩ := st_missing t.place.toList (t.mask + 1) hlen
  obtain ⟨q, hq, e⟩ := runB_meets T.mok h (Nat.le_of_lt_succ hj)
  obtain ⟨k, hk, e2⟩ := run_nth t.mask (SetTable.bits h) q
  have ew : way t.mask h k = j := by
    show (nth t.mask (runAt t.mask (SetTable.bits h % (t.mask + 1)) (SetTable.bits h)) k).j = j
    rw [e2]
    exact e
  obtain ⟨K, h1, h2, h3⟩ := st_least (p := fun k => way t.mask h k ∉ t.place.toList) k (by show way t.mask h k ∉ _; rw [ew]; exact hn)
  refine ⟨K, ?_, h2, fun k' hk' => ?_⟩
  · unfold SetTable.turns
    omega
  · exact Classical.not_not.mp (h3 k' hk')
theorem Tb.put {t : SetTable} {n : Nat} (T : Tb t n) {j : Nat} (hj : j ∉ t.place.toList) : (t.put j).2 = SetTable.below t.place j ∧ SetTable.below t.place j ≤ n ∧ Tb (t.put j).1 (n + 1) ∧
    (t.put j).1.mask = t.mask ∧ (t.put j).1.led = t.led ∧ (t.put j).1.plain = t.plain ∧ (t.put j).1.fill = n + 1 := by
  obtain ⟨c1, _, _⟩ := below_cut T.ris j
  have hpl : SetTable.below t.place j ≤ t.place.toList.length := by
    rw [Array.length_toList]
    exact c1
  have hnp : t.place[SetTable.below t.place j]? ≠ some j := fun e => hj (List.mem_of_getElem? (by rw [Array.getElem?_toList]; exact e))
  have hsize : (t.put j).1.place.size = n + 1 := by
    rw [← Array.length_toList, put_place t j, len_ins _ hpl, Array.length_toList, T.sz]
  refine ⟨rfl, by rw [← T.sz]; exact c1, ⟨ris_insert T.ris hnp, put_dm T.dm j, hsize, T.mok⟩, rfl, rfl, rfl, ?_⟩
  show (t.put j).1.place.size + (t.put j).1.dummies.size = n + 1
  rw [hsize, put_dm T.dm j] <;> rfl
/-! ### laid anew -/
structure Lay (m n : Nat) (owner : Array (Option Nat)) : Prop where
  sz : owner.size = m + 1
  all : ∀ k, k < n → ∃ j, j ≤ m ∧ oAt owner j = some k
  ps : ∃ ps : List Nat, ps.length = n ∧ ∀ j, j ≤ m → oAt owner j ≠ none → j ∈ ps
theorem Lay.zero (m : Nat) : Lay m 0 (Array.replicate (m + 1) none) :=
  ⟨by simp, fun k hk => absurd hk (Nat.not_lt_zero _), [], rfl, fun j hj e => absurd (oAt_init hj) e⟩
theorem Lay.step {m n : Nat} (hm : MaskB m) {owner : Array (Option Nat)} (W : Lay m n owner) (hl : n ≤ m) (h : Int) :
    ∃ j, SetTable.layClean.free m owner (SetTable.turns m) (SetTable.bits h % (m + 1)) (SetTable.bits h) = some j ∧ Lay m (n + 1) (owner.setIfInBounds j (some n)) := by
  obtain ⟨ps, hps, hin⟩ := W.ps
  obtain ⟨j0, h0, hn0⟩ := st_missing ps (m + 1) (by omega)
  have hj0 : oAt owner j0 = none := by
    cases z : oAt owner j0 with
    | none => rfl
    | some k => exact absurd (hin j0 (Nat.le_of_lt_succ h0) (by rw [z]; exact fun e => nomatch e)) hn0
  obtain ⟨q, hq, e⟩ := runB_meets hm h (Nat.le_of_lt_succ h0)
  have hw : way m h (off m (SetTable.bits h % (m + 1)) (SetTable.bits h) q) = j0 := by
    show (nth m (runAt m (SetTable.bits h % (m + 1)) (SetTable.bits h)) (off m (SetTable.bits h % (m + 1)) (SetTable.bits h) q)).j = j0
    rw [nth_off, itL_run]
    exact e
  obtain ⟨K, k1, k2, k3⟩ := st_least (p := fun k => oAt owner (way m h k) = none) (off m (SetTable.bits h % (m + 1)) (SetTable.bits h) q) (by
    show oAt owner (way m h (off m (SetTable.bits h % (m + 1)) (SetTable.bits h) q)) = none
    rw [hw]
    exact hj0)
  have hf : SetTable.layClean.free m owner (SetTable.turns m) (SetTable.bits h % (m + 1)) (SetTable.bits h) = some (way m h K) := by
    refine free_spec m owner (SetTable.turns m) q _ _ K (by unfold SetTable.turns; omega) k1 (fun k hk => ?_) ?_
    · have z := k3 k hk
      cases z2 : oAt owner (way m h k) with
      | none => exact absurd z2 z
      | some _ => rfl
    · show (oAt owner (way m h K)).isNone = true
      rw [show oAt owner (way m h K) = none from k2]
      rfl
  have hjm : way m h K ≤ m := by
    have hi : SetTable.bits h % (m + 1) ≤ m := Nat.le_of_lt_succ (Nat.mod_lt _ (Nat.succ_pos _))
    have r := runEnd_bd hi
    have z := nth_in (m := m) K (runAt m (SetTable.bits h % (m + 1)) (SetTable.bits h)) (by
      show SetTable.bits h % (m + 1) + (SetTable.runEnd m (SetTable.bits h % (m + 1)) - SetTable.bits h % (m + 1)) ≤ m
      omega)
    show (nth m (runAt m (SetTable.bits h % (m + 1)) (SetTable.bits h)) K).j ≤ m
    omega
  have hself := oAt_set_self (some n) (owner := owner) (j := way m h K) (by rw [W.sz]; exact Nat.lt_succ_of_le hjm)
  refine ⟨way m h K, hf, by rw [Array.size_setIfInBounds]; exact W.sz, fun k hk => ?_, way m h K :: ps, by rw [List.length_cons, hps], fun j hj e => ?_⟩
  · by_cases c : k < n
    · obtain ⟨j, hj, e⟩ := W.all k c
      refine ⟨j, hj, ?_⟩
      rw [oAt_set_ne _ (fun z => by rw [z, show oAt owner (way m h K) = none from k2] at e; cases e)]
      exact e
    · rw [show k = n by omega]
      exact ⟨way m h K, hjm, hself⟩
  · by_cases c : j = way m h K
    · rw [c]
      exact List.mem_cons_self
    · rw [oAt_set_ne _ c] at e
      exact List.mem_cons_of_mem _ (hin j hj e)
theorem lay_fold {m : Nat} (hm : MaskB m) : ∀ (rest : List Int) (n : Nat) (owner : Array (Option Nat)), Lay m n owner → n + rest.length ≤ m →
    ∃ owner', rest.foldl (stepF m) (some (owner, n)) = some (owner', n + rest.length) ∧ Lay m (n + rest.length) owner'
  | [], n, owner, W, _ => ⟨owner, rfl, W⟩
  | h :: rest, n, owner, W, hl => by
    rw [List.length_cons] at hl
    obtain ⟨j, e, W'⟩ := W.step hm (by omega) h
    obtain ⟨owner', f, W2⟩ := lay_fold hm rest (n + 1) _ W' (by omega)
    have ea : n + (h :: rest).length = n + 1 + rest.length := by rw [List.length_cons]; omega
    rw [ea]
    exact ⟨owner', by rw [List.foldl_cons, stepF_some e]; exact f, W2⟩
theorem relaidB (t : SetTable) {hs : Array Int} {wanted M : Nat} (hw : SetTable.sizeAbove wanted - 1 = M) (hM : MaskB M) (hn : hs.size ≤ M) :
    ∃ t' order, t.relaid hs wanted = some (t', order) ∧ order.toList.Perm (List.range hs.size) ∧ Tb t' hs.size ∧ t'.mask = M ∧ t'.led = t.led ∧ t'.plain = t.plain := by
  obtain ⟨owner, f, W⟩ := lay_fold hM hs.toList 0 _ (Lay.zero M) (by rw [Array.length_toList]; omega)
  rw [Nat.zero_add, Array.length_toList] at f W
  have hr : t.relaid hs wanted = some (tabOf t M owner, ((liveOf M owner).map (·.2)).toArray) := by
    rw [relaid_eq, hw, layClean_eq, f] <;> rfl
  have ris := ris_live (fun j => owner.getD j none) (List.range (M + 1)) (by
    unfold Ris
    exact List.pairwise_lt_range)
  have r1 : Ris ((liveOf M owner).map (·.1)) := ris.1
  have nd : ((liveOf M owner).map (·.1)).Nodup := List.Pairwise.imp (fun h => Nat.ne_of_lt h) r1
  have hlen : (liveOf M owner).length = hs.size := by
    obtain ⟨ps, p1, p2⟩ := W.ps
    have a := nat_nodup_len ((liveOf M owner).map (·.1)) ps nd fun x hx => by
      obtain ⟨⟨y, k⟩, hq, rfl⟩ := List.mem_map.mp hx
      obtain ⟨b1, b2⟩ := (mem_live W.sz).1 hq
      exact p2 y b1 (by rw [b2]; exact fun z => nomatch z)
    have b := nat_nodup_len (List.range hs.size) ((liveOf M owner).map (·.2)) List.nodup_range fun k hk => by
      obtain ⟨j, b1, b2⟩ := W.all k (List.mem_range.mp hk)
      exact List.mem_map.mpr ⟨(j, k), (mem_live W.sz).2 ⟨b1, b2⟩, rfl⟩
    rw [List.length_map, p1] at a
    rw [List.length_map, List.length_range] at b
    omega
  refine ⟨tabOf t M owner, ((liveOf M owner).map (·.2)).toArray, hr, ?_, ⟨r1, rfl, ?_, hM⟩, rfl, rfl, rfl⟩
  · refine perm_range hs.size _ ?_ fun k hk => ?_
    · show ((liveOf M owner).map (·.2)).length = hs.size
      rw [List.length_map]
      exact hlen
    · obtain ⟨j, b1, b2⟩ := W.all k hk
      exact List.mem_map.mpr ⟨(j, k), (mem_live W.sz).2 ⟨b1, b2⟩, rfl⟩
  · show ((liveOf M owner).map (·.1)).toArray.size = hs.size
    rw [List.size_toArray, List.length_map, hlen]
section
variable {P : Program} {w : World} {A : Around} {E : Value → Shared → Prop} {s : Shared}
/-! ### the set of distinct tuples -/
structure ST (P : Program) (w : World) (h : Heap) (a : Addr) (L : List (Addr × List Int)) (es : Array (Int × Value)) (ep : Nat) (t : SetTable) : Prop where
  ob : ∃ o, h.get? a = some o ∧ o.ExactSet ∧ o.data = .set es ep t
  rows : es.toList = rowsOf P w L
  tab : Tb t L.length
  nd : (L.map (·.2)).Nodup
  tup : ∀ p ∈ L, IsT P w h p.2 p.1
  plain : t.plain = true
  led : w.params.followText "set-order" = true ∨ t.led = true
  room : L.length * 5 < t.mask * 3
  few : L.length < 1000
variable {a : Addr} {L : List (Addr × List Int)} {es : Array (Int × Value)} {ep : Nat} {t : SetTable}
theorem rows_size (h : es.toList = rowsOf P w L) : es.size = L.length := by
  have h := congrArg List.length h
  unfold rowsOf at h
  rw [Array.length_toList, List.length_map] at h
  exact h
theorem Tb.fits (T : Tb t L.length) (h : es.toList = rowsOf P w L) (r : L.length ≤ t.mask) : t.fits es.size = true := by
  have h1 := T.sz
  have h2 := rows_size h
  unfold SetTable.fits SetTable.fill
  rw [T.dm, Bool.and_eq_true, beq_iff_eq, decide_eq_true_eq]
  show t.place.size = es.size ∧ t.place.size + 0 ≤ t.mask
  omega
theorem ST.fits (R : ST P w s.heap a L es ep t) : t.fits es.size = true := R.tab.fits R.rows (by have := R.room; omega)
theorem maskB_odd {m : Nat} (h : MaskB m) : m % 2 = 1 := by
  rcases h with e | e | e | e | e <;> subst e <;> rfl
theorem ST.gw (R : ST P w s.heap a L es ep t) : ¬ t.gaveWay = true := by
  unfold SetTable.gaveWay
  rw [maskB_odd R.tab.mok]
  decide
theorem ST.entry (R : ST P w s.heap a L es ep t) {i : Nat} {p : Addr × List Int} (h : L[i]? = some p) : es[i]? = some (thash P w p.2, Value.ref p.1) := by
  rw [← Array.getElem?_toList, R.rows]
  unfold rowsOf
  rw [List.getElem?_map, h] <;> rfl
theorem nth_dm (m : Nat) : ∀ (n : Nat) (p : SetTable.Probe), p.dummy = none → (nth m p n).dummy = none := by
  intro n
  induction n with
  | zero => intro p h; exact h
  | succ n ih =>
    intro p h
    refine ih (adv m p) ?_
    unfold adv
    split <;> exact h
/-- one that isn't there is not found: the free slot is met -/
theorem searchB (R : ST P w s.heap a L es ep t) {x : Addr} {k : List Int} (hx : IsT P w s.heap k x) (hu : A.units < cLine) (hk : k ∉ L.map (·.2)) {K : Nat} (hKf : K < 10 * SetTable.turns t.mask)
    (hK : way t.mask (thash P w k) K ∉ t.place.toList) (hKb : ∀ c, c < K → way t.mask (thash P w k) c ∈ t.place.toList) {Q : SetFound → Shared → Prop}
    (hout : Q (.free (way t.mask (thash P w k) K) false) s) (p0 : SetTable.Probe) (hp0 : p0 = runAt t.mask (SetTable.bits (thash P w k) % (t.mask + 1)) (SetTable.bits (thash P w k))) :
    ∀ (f c : Nat) (stand : Option SetTable.Probe), stand.getD (t.probeStart (thash P w k)) = nth t.mask p0 c → c ≤ K → K - c < f →
      wpAny (model P w) A (setSearchFrom a (.ref x) (thash P w k) true f stand) Q E s
  | 0, c, stand, _, _, hf => absurd hf (Nat.not_lt_zero _)
  | f + 1, c, stand, hst, hc, hf => by
    obtain ⟨o, ho, hex, hd⟩ := R.ob
    rw [setSearchFrom_succ]
    refine wpAny_bind (wpAny_setState_of ho hd R.fits ?_)
    dsimp only
    refine wp_if_neg R.gw ?_
    try refine wpAny_bind (wpAny_pure ?_)
    have hw : ∀ q, (nth t.mask p0 q).j = way t.mask (thash P w k) q := fun q => by rw [hp0]
    have hnd : (nth t.mask p0 c).dummy = none := nth_dm _ c _ (by rw [hp0]; rfl)
    have sh : ∀ q, nth t.mask (nth t.mask p0 c) q = nth t.mask p0 (c + q) := fun q => (nth_add t.mask c _ q).symm
    have shj : ∀ q, (nth t.mask (nth t.mask p0 c) q).j = way t.mask (thash P w k) (c + q) := fun q => (congrArg SetTable.Probe.j (sh q)).trans (hw _)
    have spec := go_spec t R.tab.ris R.tab.dm (fun i => (es[i]?.map (·.1)).getD 0) (thash P w k) (10 * SetTable.turns t.mask) (K - c) (nth t.mask p0 c) hnd (by omega)
      (fun q hq => by rw [shj]; exact hKb (c + q) (by omega)) (by rw [shj, show c + (K - c) = K by omega]; exact hK)
    rcases spec with ⟨q, i, hq, hi, hh, hno, hpr⟩ | ⟨hno, hpr⟩
    · have hpr' : t.probe (fun i => (es[i]?.map (·.1)).getD 0) (thash P w k) (stand.getD (t.probeStart (thash P w k))) = some (.candidate (way t.mask (thash P w k) (c + q)) i (nth t.mask p0 (c + (q + 1)))) := by
        rw [hst, ← shj, ← sh]
        exact hpr
      rw [hpr']
      dsimp only
      rw [shj] at hi
      have hil : i < L.length := by
        have h1 : i < t.place.toList.length := (List.getElem?_eq_some_iff.mp hi).1
        rw [Array.length_toList, R.tab.sz] at h1
        exact h1
      have hp : L[i]? = some L[i] := List.getElem?_eq_getElem hil
      generalize L[i] = p at hp
      have hmem : p ∈ L := List.mem_of_getElem? hp
      have hpt := R.tup p hmem
      have hkk : ¬ p.2 = k := fun e => hk (List.mem_map.mpr ⟨p, hmem, e⟩)
      have rest : wpAny (model P w) A (searchRest a (.ref x) (thash P w k) true f es t (way t.mask (thash P w k) (c + q)) i (nth t.mask p0 (c + (q + 1)))) Q E s := by
        unfold searchRest
        rw [R.entry hp]
        dsimp only
        refine wpAny_bind (wpAny_holding (wpAny_eqBool_tuple hu hpt hx ?_))
        refine wpAny_bind (wpAny_setState_of ho hd R.fits ?_)
        dsimp only
        refine wp_if_neg (by simp [hkk]) ?_
        try refine wpAny_bind (wpAny_pure ?_)
        rw [sameMem]
        dsimp only
        have hsl : t.slot (way t.mask (thash P w k) (c + q)) = .live i := slot_live R.tab.ris hi
        simp only [if_true, hsl, R.entry hp]
        refine wpAny_bind (wpAny_isSame_ref_self (wpAny_bind (wpAny_pure ?_)))
        simp only [if_true]
        refine wp_if_neg (by simp [hkk]) ?_
        exact searchB R hx hu hk hKf hK hKb hout p0 hp0 f (c + (q + 1)) _ rfl (by omega) (by omega)
      by_cases hl : t.led = true
      · refine wp_if_neg (by simp [hl]) ?_
        try refine wpAny_bind (wpAny_pure ?_)
        exact rest
      · refine wp_if_pos (by simp [hl]) ?_
        refine wpAny_bind (seen_tup hx (fun y hy => ?_) ?_)
        · obtain ⟨e, he, ee⟩ := List.mem_map.mp hy
          have he1 : e ∈ es ∧ e.1 = thash P w k := by simpa using he
          have he2 : e ∈ es.toList := by simpa using he1.1
          rw [R.rows] at he2
          obtain ⟨p2, hp2, e2⟩ := List.mem_map.mp he2
          refine ⟨p2.2, p2.1, ?_, R.tup p2 hp2⟩
          rw [← ee, ← e2]
        · refine wp_if_neg (by decide) ?_
          try refine wpAny_bind (wpAny_pure ?_)
          exact rest
    · have hpr' : t.probe (fun i => (es[i]?.map (·.1)).getD 0) (thash P w k) (stand.getD (t.probeStart (thash P w k))) = some (.empty (way t.mask (thash P w k) K) none) := by
        have e2 : way t.mask (thash P w k) K = (nth t.mask (nth t.mask p0 c) (K - c)).j := by
          rw [shj, show c + (K - c) = K by omega]
        rw [hst, e2]
        exact hpr
      rw [hpr']
      dsimp only
      exact wpAny_pure hout
theorem searchB_at (R : ST P w s.heap a L es ep t) {x : Addr} {k : List Int} (hx : IsT P w s.heap k x) (hu : A.units < cLine) (hk : k ∉ L.map (·.2)) {Q : SetFound → Shared → Prop}
    (hout : ∀ j, j ∉ t.place.toList → Q (.free j false) s) : wpAny (model P w) A (setSearch a (.ref x) (thash P w k) true) Q E s := by
  obtain ⟨K, hKf, hK, hKb⟩ := R.tab.first (by have := R.room; omega) (thash P w k)
  have hbig : K < 100000 := by
    have : 10 * SetTable.turns t.mask ≤ 99999 := by
      unfold SetTable.turns
      rcases R.tab.mok with e | e | e | e | e <;> omega
    omega
  unfold setSearch
  exact searchB R hx hu hk hKf hK hKb (hout _ hK) _ rfl 100000 0 none rfl (Nat.zero_le _) (by omega)
/-- the table laid anew, larger -/
theorem relayB {o : Obj} (ho : s.heap.get? a = some o) (hex : o.ExactSet) (hd : o.data = .set es ep t) (hrows : es.toList = rowsOf P w L) (T : Tb t L.length) (hfl : L.length ≤ t.mask)
    (nd : (L.map (·.2)).Nodup) (tup : ∀ p ∈ L, IsT P w s.heap p.2 p.1) (pl : t.plain = true) (ld : w.params.followText "set-order" = true ∨ t.led = true) (few : L.length < 1000) {wanted M : Nat}
    (hw : SetTable.sizeAbove wanted - 1 = M) (hM : MaskB M) (hw2 : SetTable.sizeAbove wanted ≤ 2048) (hn : L.length * 5 < M * 3) {Q : Unit → Shared → Prop}
    (hQ : ∀ h' L' es' ep' t', Heap.SameBut a s.heap h' → ST P w h' a L' es' ep' t' → L'.Perm L → Q () { s with heap := h' }) : wpAny (model P w) A (setRelay a wanted) Q E s := by
  have hsl := rows_size hrows
  have hfits := T.fits hrows hfl
  obtain ⟨t', order, e, hp, T', em, el, ep'⟩ := relaidB t (hs := es.map (·.1)) (wanted := wanted) hw hM (by rw [Array.size_map, hsl]; omega)
  rw [Array.size_map, hsl] at hp T'
  obtain ⟨L2, r1, r2, _⟩ := order_rows L es order hrows hp
  have hs2 : (order.filterMap (es[·]?)).size = es.size := by
    rw [rows_size r1, r2.length_eq, hsl]
  rw [setRelay_eq]
  refine wpAny_bind (wpAny_setState_of ho hd hfits ?_)
  dsimp only
  refine wp_if_neg (by rw [sizeLine_eq]; omega) ?_
  try refine wpAny_bind (wpAny_pure ?_)
  rw [e]
  dsimp only
  refine wpAny_bind ?_
  refine wp_if_neg (by rw [hs2]; simp) ?_
  try refine wpAny_bind (wpAny_pure ?_)
  refine wpAny_pure ?_
  dsimp only
  refine wpAny_storeSet_of ho hd ?_ (by rw [hs2, hsl, sizeLine_eq]; omega)
  have sb : Heap.SameBut a s.heap (s.heap.update a (Obj.putSet (order.filterMap (es[·]?)) t')) := Heap.SameBut.update ..
  refine hQ _ L2 (order.filterMap (es[·]?)) (ep + 1) t' sb ?_ r2
  refine ⟨⟨_, store_at ho hd, ⟨hex.1, hex.2.1, hex.2.2⟩, rfl⟩, r1, by rw [r2.length_eq]; exact T', (r2.map (·.2)).nodup_iff.mpr nd, fun p hpm => isT_same (tup p (r2.mem_iff.mp hpm)) ho hd sb, by rw [ep']; exact pl, by rw [el]; exact ld, ?_, by rw [r2.length_eq]; exact few⟩
  rw [r2.length_eq, em]
  exact hn
theorem sz4 : SetTable.sizeAbove (SetTable.grown 5) = 32 := by decide +kernel
theorem sz18 : SetTable.sizeAbove (SetTable.grown 19) = 128 := by decide +kernel
theorem sz76 : SetTable.sizeAbove (SetTable.grown 77) = 512 := by decide +kernel
theorem sz306 : SetTable.sizeAbove (SetTable.grown 307) = 2048 := by decide +kernel
/-- one more, not yet there -/
theorem addB (R : ST P w s.heap a L es ep t) {x : Addr} {k : List Int} (hx : IsT P w s.heap k x) (hu : A.units < cLine) (hfew : L.length + 1 < 1000) (hk : k ∉ L.map (·.2)) {Q : Bool → Shared → Prop}
    (hQ : ∀ b h' L' es' ep' t', Heap.SameBut a s.heap h' → ST P w h' a L' es' ep' t' → L'.Perm ((x, k) :: L) → Q b { s with heap := h' }) :
    wpAny (model P w) A (setAddHashed a (.ref x) (thash P w k)) Q E s := by
  obtain ⟨o, ho, hex, hd⟩ := R.ob
  have hsl := rows_size R.rows
  have hroom := R.room
  unfold setAddHashed
  refine wpAny_holding ?_
  rw [show (100000 : Nat) = 99999 + 1 from rfl, setAddHashedIn_succ]
  refine wpAny_bind (wpAny_setState_of ho hd R.fits ?_)
  dsimp only
  refine wp_if_neg (by simp [byScan, Value.scannable]) ?_
  try refine wpAny_bind (wpAny_pure ?_)
  refine wpAny_bind (searchB_at R hx hu hk fun j hj => ?_)
  dsimp only
  refine wpAny_bind (wpAny_setState_of ho hd R.fits ?_)
  dsimp only
  obtain ⟨q1, q2, q3, q4, q5, q6, q9⟩ := R.tab.put hj
  have hp1 : (t.put j).1.plain = true := by rw [q6]; exact R.plain
  generalize t.put j = pt at q1 q3 q4 q5 q6 q9 hp1 ⊢
  obtain ⟨t1, p⟩ := pt
  dsimp only at q1 q3 q4 q5 q6 q9 hp1 ⊢
  subst q1
  first
    | (refine wpAny_bind ?_; refine wp_if_pos hp1 ?_; refine hashBy_tup hx ?_)
    | refine wp_if_pos hp1 (wpAny_bind (hashBy_tup hx ?_))
  simp only [if_true]
  generalize SetTable.below t.place j = p at q2 q3 ⊢
  have hin : (SetTable.insertAt es p (thash P w k, Value.ref x)).toList = rowsOf P w (L.take p ++ (x, k) :: L.drop p) := by
    rw [SetTable.toList_insertAt, rows_put, R.rows]
  have pm := put_perm L p (x, k)
  have hlen : (L.take p ++ (x, k) :: L.drop p).length = L.length + 1 := pm.length_eq
  have nd1 : ((L.take p ++ (x, k) :: L.drop p).map (·.2)).Nodup := by
    refine (pm.map (·.2)).nodup_iff.mpr ?_
    rw [List.map_cons]
    exact List.nodup_cons.mpr ⟨hk, R.nd⟩
  have hes := rows_size hin
  rw [hlen] at hes
  generalize SetTable.insertAt es p (thash P w k, Value.ref x) = es1 at hin hes ⊢
  generalize L.take p ++ (x, k) :: L.drop p = L1 at pm hlen nd1 hin
  rw [← hlen] at q3
  refine wpAny_bind (wpAny_storeSet_of ho hd ?_ (by rw [hes, sizeLine_eq]; omega))
  have sb : Heap.SameBut a s.heap (s.heap.update a (Obj.putSet es1 t1)) := Heap.SameBut.update ..
  have ho1 := store_at (es' := es1) (t' := t1) ho hd
  generalize s.heap.update a (Obj.putSet es1 t1) = h1 at sb ho1 ⊢
  have tup1 : ∀ p ∈ L1, IsT P w h1 p.2 p.1 := fun p hp => by
    rcases List.mem_cons.mp (pm.mem_iff.mp hp) with e | hp
    · rw [e]; exact isT_same hx ho hd sb
    · exact isT_same (R.tup p hp) ho hd sb
  have ld1 : w.params.followText "set-order" = true ∨ t1.led = true := by rw [q5]; exact R.led
  by_cases hf : t1.tooFull = true
  · first
      | (refine wpAny_bind ?_; refine wp_if_pos (by simp [hf]) ?_)
      | (refine wp_if_pos (by simp [hf]) ?_; refine wpAny_bind ?_)
    have hfull : (L.length + 1) * 5 ≥ t1.mask * 3 := by
      have h := hf
      unfold SetTable.tooFull at h
      rw [decide_eq_true_eq, q9] at h
      exact h
    rw [hsl]
    have cases4 : (t.mask = 7 ∧ L.length = 4) ∨ (t.mask = 31 ∧ L.length = 18) ∨ (t.mask = 127 ∧ L.length = 76) ∨ (t.mask = 511 ∧ L.length = 306) := by
      rw [q4] at hfull
      rcases R.tab.mok with e | e | e | e | e <;> rw [e] at hfull hroom <;> omega
    have go : ∀ M, SetTable.sizeAbove (SetTable.grown (L.length + 1)) - 1 = M → MaskB M → SetTable.sizeAbove (SetTable.grown (L.length + 1)) ≤ 2048 → (L.length + 1) * 5 < M * 3 →
        wpAny (model P w) A (setRelay a (SetTable.grown (L.length + 1))) (fun _ s' => wpAny (model P w) A (pure true) Q E s') E { s with heap := h1 } := fun M h1' h2' h3' h4' => by
      refine relayB (s := { s with heap := h1 }) ho1 ⟨hex.1, hex.2.1, hex.2.2⟩ rfl hin q3 (by rw [hlen, q4]; omega) nd1 tup1 hp1 ld1 (by rw [hlen]; exact hfew) h1' h2' h3' (by rw [hlen]; exact h4') ?_
      intro h2 L2 es2 ep2 t2 sb2 R2 pm2
      exact wpAny_pure (hQ true h2 L2 es2 ep2 t2 (sb.trans sb2) R2 (pm2.trans pm))
    rcases cases4 with ⟨_, e2⟩ | ⟨_, e2⟩ | ⟨_, e2⟩ | ⟨_, e2⟩
    · exact go 31 (by rw [e2, sz4]) (.inr (.inl rfl)) (by rw [e2, sz4]; decide) (by omega)
    · exact go 127 (by rw [e2, sz18]) (.inr (.inr (.inl rfl))) (by rw [e2, sz18]; decide) (by omega)
    · exact go 511 (by rw [e2, sz76]) (.inr (.inr (.inr (.inl rfl)))) (by rw [e2, sz76]; decide) (by omega)
    · exact go 2047 (by rw [e2, sz306]) (.inr (.inr (.inr (.inr rfl)))) (by rw [e2, sz306]; decide) (by omega)
  · first
      | refine wp_if_neg (by simp [hf]) ?_
      | (refine wpAny_bind ?_; refine wp_if_neg (by simp [hf]) ?_; refine wpAny_pure ?_)
    refine wpAny_pure (hQ true h1 L1 es1 (ep + 1) t1 sb ⟨⟨_, ho1, ⟨hex.1, hex.2.1, hex.2.2⟩, rfl⟩, hin, q3, nd1, tup1, hp1, ld1, ?_, by rw [hlen]; exact hfew⟩ pm)
    have h := hf
    unfold SetTable.tooFull at h
    rw [decide_eq_true_eq, q9] at h
    rw [hlen]
    omega
end
end Pk
set_option Elab.async false
set_option linter.all false
set_option maxRecDepth 100000
set_option maxHeartbeats 4000000
set_option autoImplicit false
namespace Pk
open PySem PySem.Spec PyProof.Rows L2
section
variable {P : Program} {w : World} {A : Around} {E : Value → Shared → Prop} {s : Shared}
theorem ST.keep {h h' : Heap} {a : Addr} {L : List (Addr × List Int)} {es : Array (Int × Value)} {ep : Nat} {t : SetTable} (R : ST P w h a L es ep t) (ha : ∀ o, h.get? a = some o → h'.get? a = some o) (ht : ∀ p ∈ L, IsT P w h' p.2 p.1) : ST P w h' a L es ep t := by
  obtain ⟨o, ho, r⟩ := R.ob
  exact ⟨⟨o, ha o ho, r⟩, R.rows, R.tab, R.nd, ht, R.plain, R.led, R.room, R.few⟩
abbrev newSet (w : World) : Obj := { cls := .type "set", dict := none, data := .set #[] 0 (.fresh 0 0 (!w.params.followText "set-order")) }
theorem ST.fresh {h : Heap} {a : Addr} (ho : h.get? a = some (newSet w)) : ST P w h a [] #[] 0 (.fresh 0 0 (!w.params.followText "set-order")) where
  ob := ⟨_, ho, ⟨rfl, rfl, rfl⟩, rfl⟩
  rows := rfl
  tab := ⟨List.Pairwise.nil, rfl, rfl, .inl rfl⟩
  nd := List.nodup_nil
  tup := fun p hp => (by cases hp)
  plain := rfl
  led := by
    show _ ∨ (!w.params.followText "set-order") = true
    cases w.params.followText "set-order"
    · exact .inr rfl
    · exact .inl rfl
  room := by show 0 * 5 < 7 * 3; decide
  few := by show 0 < 1000; decide
/-- the loop of set.update: every item is new -/
theorem loopT {I : Addr} {fp wr : List Addr} {G : Array GenState → Array GenState → Prop} {n : Nat} {Pv : Nat → Value → Prop} {St : Nat → Shared → Prop} {R : Result → Shared → Prop}
    (W : WalksS P w A.in1 I fp wr G n Pv St) (S : Addr) (hSf : S ∉ fp) (ks : List (Addr × List Int)) (hn : n = ks.length) (hfew : ks.length < 999) (hdist : (ks.map (·.2)).Nodup) (hval : ∀ i v, Pv i v → ∃ p, ks[i]? = some p ∧ v = .ref p.1)
    (h0 : Heap) (hk : ∀ p ∈ ks, IsT P w h0 p.2 p.1) (hS0 : h0.get? S = none) (hw0 : ∀ b ∈ wr, h0.get? b = none) (hu : A.in1.units < cLine) :
    ∀ (k i : Nat) (s : Shared), n - i = k → i ≤ n → St i s → (∀ b o, h0.get? b = some o → s.heap.get? b = some o) → (∃ L es ep t, ST P w s.heap S L es ep t ∧ L.Perm (ks.take i)) →
      (∀ s' L es ep t, Moved (S :: wr) G s s' → ST P w s'.heap S L es ep t → L.Perm ks → R (.ok (.ret .none)) s') →
      codeAny (model P w) A (.builtin "set.update.loop" ⟨[.ref S, .ref I], []⟩) R s := by
  have hSw : S ∉ wr := fun h => hSf (W.sub _ h)
  have hsub : ∀ b ∈ wr, b ∈ S :: wr := fun b hb => List.mem_cons_of_mem _ hb
  have keepM : ∀ {s s' : Shared}, Moved wr G s s' → (∀ b o, h0.get? b = some o → s.heap.get? b = some o) → ∀ b o, h0.get? b = some o → s'.heap.get? b = some o := fun hm hkp b o e =>
    hm.heap b o (fun hb => by rw [hw0 b hb] at e; cases e) (hkp b o e)
  intro k
  induction k with
  | zero =>
    intro i s hk' hi hst hkp ⟨L, es, ep, t, hS, g⟩ hR
    refine codeAny_builtin F.entry_set_update_loop ?_
    rw [Around.under_plainId F.plain_set_update_loop _]
    show wpAny _ A.in1 (pyNext (.ref I) >>= _) _ _ s
    have hin : i = n := by omega
    subst hin
    refine wpAny_bind (W.done s _ _ hst fun s' hm => ?_)
    show wpAny _ A.in1 (ret Value.none) _ _ s'
    rw [List.take_of_length_le (by omega)] at g
    refine wpAny_pure (hR s' L es ep t (hm.mono hsub) (hS.keep (fun o e => hm.heap S o hSw e) fun p hp => isT_keep (hk p (g.mem_iff.mp hp)) (keepM hm hkp)) g)
  | succ k ih =>
    intro i s hk' hi hst hkp ⟨L, es, ep, t, hS, g⟩ hR
    have hlt : i < n := by omega
    refine codeAny_builtin F.entry_set_update_loop ?_
    rw [Around.under_plainId F.plain_set_update_loop _]
    show wpAny _ A.in1 (pyNext (.ref I) >>= _) _ _ s
    refine wpAny_bind (W.item i s _ _ hlt hst fun v s' hP hst' hm => ?_)
    obtain ⟨p, hp, rfl⟩ := hval i v hP
    have hkp' := keepM hm hkp
    have hS' : ST P w s'.heap S L es ep t := hS.keep (fun o e => hm.heap S o hSw e) fun q hq => isT_keep (hk q (List.mem_of_mem_take (g.mem_iff.mp hq))) hkp'
    have hx : IsT P w s'.heap p.2 p.1 := isT_keep (hk p (List.mem_of_getElem? hp)) hkp'
    have hnew : p.2 ∉ L.map (·.2) := fun hm2 => by
      have h1 : p.2 ∈ (ks.take i).map (·.2) := (g.map (·.2)).mem_iff.mp hm2
      rw [List.map_take] at h1
      obtain ⟨j, hj, e⟩ := List.getElem_of_mem h1
      rw [List.length_take] at hj
      have hj1 : j < i := by omega
      have e2 : (ks.map (·.2))[j]? = some p.2 := by
        rw [List.getElem_take] at e
        rw [List.getElem?_eq_getElem (by omega), e]
      have e3 : (ks.map (·.2))[i]? = some p.2 := by rw [List.getElem?_map, hp]; rfl
      have hil : i < (ks.map (·.2)).length := (List.getElem?_eq_some_iff.mp e3).1
      have := (List.getElem?_inj (i := j) (j := i) (by omega) hdist).mp (e2.trans e3.symm)
      omega
    show wpAny _ A.in1 (holding [Value.ref p.1] (setAdd S (.ref p.1)) >>= _) _ _ s'
    refine wpAny_bind (wpAny_holding ?_)
    unfold setAdd
    refine wpAny_holding ?_
    refine wpAny_bind (wpAny_pyHash_tuple hu hx ?_)
    have hLl : L.length ≤ i := by rw [g.length_eq, List.length_take]; omega
    refine addB (s := { s' with toks := s'.toks + (p.2.length + 1) }) hS' hx hu (by omega) hnew fun b h' L' es' ep' t' hsb hS2 pm => ?_
    have g' : L'.Perm (ks.take (i + 1)) := by
      rw [take_next hp]
      exact pm.trans ((g.cons p).trans (List.perm_append_singleton p _).symm)
    have hkp2 : ∀ b o, h0.get? b = some o → h'.get? b = some o := fun b o e => (hsb.2 b (fun z => by rw [z, hS0] at e; cases e)).trans (hkp' b o e)
    refine wpAny_pure ⟨plainId_quiet F.plain_set_update_loop _, ih (i + 1) _ (by omega) hlt (W.frame _ s' _ _ hst' (Nat.le_add_right _ _) fun b hb o e => ?_) hkp2 ⟨L', es', ep', t', hS2, g'⟩ fun s'' L2 es2 ep2 t2 hm'' hS'' g'' => ?_⟩
    · rw [hsb.2 b (fun h : b = S => hSf (by rw [← h]; exact hb))]; exact e
    · refine hR s'' L2 es2 ep2 t2 (Moved.trans W.gtrans ((hm.mono hsub).then_heap (Nat.le_add_right _ _) fun b o hb e => ?_) hm'') hS'' g''
      rw [hsb.2 b (fun h : b = S => hb (by rw [h]; exact List.mem_cons_self))]; exact e
/-- set(xs) of a list, by what its loop leaves -/
theorem set_of_list {l : Addr} {items : Array Value} {Good : Heap → Prop} {Q : Value → Shared → Prop} (hh : A.handled = none) (hl : s.heap.IsList l items)
    (loop : ∀ (A1 : Around) (I : Addr) (fp wr : List Addr) (G : Array GenState → Array GenState → Prop) (St : Nat → Shared → Prop) (R : Result → Shared → Prop) (s1 : Shared),
      WalksS P w A1.in1 I fp wr G items.size (fun i v => items[i]? = some v) St → s.heap.objs.size ∉ fp → A1.in1.units = A.units + 3 → St 0 s1 → s1.heap.get? s.heap.objs.size = some (newSet w) →
      (∀ b o, s.heap.get? b = some o → s1.heap.get? b = some o) → (∀ b ∈ wr, s.heap.get? b = none) →
      (∀ s', Moved (s.heap.objs.size :: wr) G s1 s' → Good s'.heap → R (.ok (.ret .none)) s') → codeAny (model P w) A1 (.builtin "set.update.loop" ⟨[.ref s.heap.objs.size, .ref I], []⟩) R s1)
    (h : ∀ (h' : Heap) (tk : Nat), Good h' → (∀ b o, s.heap.get? b = some o → h'.get? b = some o) → Q (.ref s.heap.objs.size) { s with heap := h', toks := tk }) :
    wpAny (model P w) A (call (.type "set") [.ref l]) Q E s := by
  obtain ⟨c, tl, hmro⟩ := F.called_set.mro
  have hmade := F.called_set.made
  have hsub := F.called_set.sub
  refine wpAny_call (codeAny_of_tree ?_)
  show wpAny _ _ (callAny (.type "set") _) _ _ _
  refine wpAny_pure ⟨Code.quiet_builtin _ (by decide +kernel), codeAny_builtin F.entry_type_call ?_⟩
  rw [Around.under_plain (weight_type_call_type "set" [.ref l] []) rfl]
  have h1 := F.called_set.notType
  have h2 := F.called_set.canCreate
  have hct := F.typeCall_set_1 (.ref l)
  repeat (any_goals (first | assumption | wp_step))
  refine codeAny_mono (code_set_led1 (.ref l) (E := E) (Q₁ := fun obj s₁ => obj = .ref s.heap.objs.size ∧ s₁ = { s with heap := s.heap.push (newSet w) }) ⟨rfl, rfl⟩) fun r s₁ hr => ?_
  rcases r with e | fl
  · exact hr
  cases fl with
  | ret obj =>
    obtain ⟨rfl, rfl⟩ := hr
    have hS : (s.heap.push (newSet w)).get? s.heap.objs.size = some (newSet w) := Heap.get?_push_size _ rfl
    have hT : Shared.TypeIs { s with heap := s.heap.push (newSet w) } (.ref s.heap.objs.size) "set" := ⟨_, hS, rfl⟩
    have hli := F.called_set.init.lookup
    have hbi := F.called_set.init.bind (.ref s.heap.objs.size)
    repeat (any_goals (first | assumption | wp_step))
    refine codeAny_mono (codeAny_call_builtin (R := wants (fun r s₂ => r = .none ∧ ∃ h' tk, s₂ = { s with heap := h', toks := tk } ∧ Good h' ∧ (∀ b o, s.heap.get? b = some o → h'.get? b = some o)) E) F.called_set.init.plain F.entry_set_init (check_set_init_1 hT ?_)) fun r₂ s₂ hr₂ => ?_
    · obtain ⟨ol, hol, hcl, nl, hdl⟩ := hl
      obtain ⟨ocls, odict, odata, oslots⟩ := ol
      simp only at hcl hdl
      subst hcl; subst hdl
      have hlS : l < s.heap.objs.size := Heap.lt_size hol
      have hol' : (s.heap.push (newSet w)).get? l = some { cls := .type "list", dict := odict, data := .seq items nl, slots := oslots } := Heap.get?_push_of_some _ hol
      have hsls := F.sub_list_set
      have hslf := F.sub_list_frozenset
      have hne : (Value.type "list" == Value.type "dict") = false := by decide
      have hl1 : (s.heap.push (newSet w)).IsList l items := ⟨_, hol', rfl, nl, rfl⟩
      have hz : (s.heap.push (newSet w)).objs.size = s.heap.objs.size + 1 := Heap.size_push ..
      unfold Builtin.«set.__init__» noKeywords Builtin.Frozenset.updateFrom
      generalize hPI : pyIter = PI
      wp_walk
      subst hPI
      refine wpAny_pyIter_list hl1 ?_
      refine wpAny_bind (wpAny_runValue ?_)
      have hh3 : A.in1.in1.in1.handled = none := by simp [hh]
      have none_of : ∀ b, s.heap.objs.size ≤ b → s.heap.get? b = none := fun b hb => by
        cases q : s.heap.get? b with
        | none => rfl
        | some o => exact absurd (Nat.lt_of_lt_of_le (Heap.lt_size q) hb) (Nat.lt_irrefl _)
      have hneI : l ≠ (s.heap.push (newSet w)).objs.size := by rw [hz]; exact Nat.ne_of_lt (Nat.lt_succ_of_lt hlS)
      refine loop _ _ _ _ _ _ _ _ ((Walks.list hh3 _ l hneI items).toS) ?_ ?_ ⟨⟨_, Heap.get?_push_size _ rfl, rfl, rfl⟩, (hl1.push _)⟩ (Heap.get?_push_of_some _ hS) (fun b o e => Heap.get?_push_of_some _ (Heap.get?_push_of_some _ e)) (fun b hb => none_of b ?_) fun s' hm g => ?_
      · rw [hz]
        simp only [List.mem_cons, List.mem_singleton, List.not_mem_nil, or_false, not_or]
        exact ⟨Nat.ne_of_lt (Nat.lt_succ_self _), Nat.ne_of_gt hlS⟩
      · rfl
      · rw [List.mem_singleton.mp hb, hz]
        exact Nat.le_succ _
      · obtain ⟨h', g2, d', tk', os'⟩ := s'
        have eg : g2 = s.gens := hm.gens
        have ed : d' = s.drawn := hm.drawn
        have eo : os' = s.os := hm.os
        subst eg; subst ed; subst eo
        show wpAny _ _ _ _ _ _
        refine wpAny_pure ?_
        show wpAny _ _ (ret Value.none) _ _ _
        refine wpAny_pure ⟨rfl, h', tk', rfl, g, fun b o e => ?_⟩
        have hb0 : b < s.heap.objs.size := Heap.lt_size e
        refine hm.heap b o ?_ (Heap.get?_push_of_some _ (Heap.get?_push_of_some _ e))
        simp only [List.mem_cons, List.mem_singleton, List.not_mem_nil, or_false, not_or]
        exact ⟨Nat.ne_of_lt hb0, by rw [hz]; exact Nat.ne_of_lt (Nat.lt_succ_of_lt hb0)⟩
    · rcases r₂ with e | fl₂
      · exact hr₂
      cases fl₂ with
      | ret r =>
        obtain ⟨rfl, h', tk, rfl, hg, hk'⟩ := hr₂
        repeat (any_goals (first | assumption | wp_step))
        exact h _ _ hg hk'
      | _ => exact hr₂.elim
  | _ => exact hr.elim
end
end Pk
set_option Elab.async false
set_option linter.all false
set_option maxRecDepth 100000
set_option maxHeartbeats 4000000
set_option autoImplicit false
namespace Pk
open PySem PySem.Spec PyProof.Rows L2
/-! ### set(xs) and len(set(xs)) as rules -/
/-- a set of n members, nothing more said -/
def SzR (h : Heap) (a : Addr) (n : Nat) : Prop := ∃ o es ep t, h.get? a = some o ∧ o.ExactSet ∧ o.data = .set es ep t ∧ t.fits es.size = true ∧ es.size = n
def SzO (a : Addr) (n : Nat) : HO := .ext fun h => SzR h a n
theorem SzR.keep {h h' : Heap} {a : Addr} {n : Nat} (R : SzR h a n) (k : ∀ o, h.get? a = some o → h'.get? a = some o) : SzR h' a n := by
  obtain ⟨o, es, ep, t, ho, r⟩ := R
  exact ⟨o, es, ep, t, k o ho, r⟩
theorem szO_new {P : Program} {w : World} {H : Hp} {h : Heap} {a : Addr} {n : Nat} (R : SzR h a n) : ObjOk P w H h a (SzO a n) := by
  have ⟨o, _, _, _, ho, _⟩ := R
  exact ⟨R, ⟨o, ho⟩, fun h1 h2 p k => SzR.keep p k⟩
theorem one_le {es : Array (Int × Value)} {k : Int} (nd : (es.toList.map keyOf).Nodup) (h : ∀ j ∈ es.toList.map keyOf, j = k) : es.size ≤ 1 := by
  have e : es.size = (es.toList.map keyOf).length := by rw [List.length_map]; rfl
  rw [e]
  generalize es.toList.map keyOf = l at nd h
  match l, nd, h with
  | [], _, _ => exact Nat.zero_le _
  | [_], _, _ => exact Nat.le_refl _
  | a :: b :: r, nd, h =>
    have h1 := h a (by simp)
    have h2 := h b (by simp)
    rw [List.nodup_cons] at nd
    exact absurd (by rw [h1, h2]; exact List.mem_cons_self ..) nd.1
/-- set(xs), xs a list of ints -/
def rSetI (K : PySem.W.Frag) (w : World) : List V → Hp → VK → Prop := fun xs H Q => ∃ (l : Addr) (ns : List Int), xs = [V.ref l] ∧ SqL K H l (ns.map V.int) ∧ ns.length < 2000 ∧
  ∀ a S n, H a = none → (∀ k : Int, S k = true ↔ k ∈ ns) → n ≤ ns.length → (∀ k : Int, (∀ j ∈ ns, j = k) → n ≤ 1) → Q (.ref a) (upd H a (SetO w a S n))
/-- set(xs), xs a list of distinct tuples of ints -/
def rSetP (K : PySem.W.Frag) : List V → Hp → VK → Prop := fun xs H Q => ∃ (l : Addr) (ks : List (Addr × List Int)), xs = [V.ref l] ∧ SqL K H l (ks.map fun p => V.ref p.1) ∧ (∀ p ∈ ks, SqT K H p.1 (p.2.map V.int)) ∧ ks.length < 999 ∧ (ks.map (·.2)).Nodup ∧
  ∀ a, H a = none → Q (.ref a) (upd H a (SzO a ks.length))
def rLenZ : List V → Hp → VK → Prop := fun xs H Q => ∃ a n, xs = [V.ref a] ∧ H a = some (SzO a n) ∧ n < 100000 ∧ Q (.int (n : Int)) H
def rLenS (w : World) : List V → Hp → VK → Prop := fun xs H Q => ∃ a S n, xs = [V.ref a] ∧ H a = some (SetO w a S n) ∧ n < 100000 ∧ Q (.int (n : Int)) H
section
variable {X : Cx}
theorem cr_setI (hc : X.calm = true) : CallR X (.type "set") (rSetI X.K X.w) := by
  intro pins s σ H xs us Q I r h
  obtain ⟨l, ns, rfl, hl, hb, q⟩ := h
  rw [Vals.ref1 r]
  obtain ⟨its, rv, pl, hz⟩ := I.list hl
  have hn : H s.heap.objs.size = none := I.hok.fresh (Nat.le_refl _)
  have hi : IntsAre its.toArray.toList ns := by simpa using ints_of_vals rv
  have hsz : its.toArray.size = ns.length := by
    have := IntsAre.length hi
    rwa [Array.length_toList] at this
  refine set_of_list (P := X.prog) (w := X.w) (Good := fun h => ∃ c, c ≤ ns.length ∧ SetR X.w h s.heap.objs.size (fun j => decide (j ∈ ns)) c) (I.ok.hd hc) pl.isList (fun A1 It fp wr G St R s1 W hSf hu st0 hg k0 hw0 hR => ?_) fun h' tk ⟨c, hcn, R⟩ k => ?_
  · refine set_update_ints W s.heap.objs.size hSf ns hsz (by unfold scanBound; omega) (fun i v hv => ?_) (its.toArray.size - 0) 0 s1 (by omega) (Nat.zero_le _) st0 ⟨0, Nat.le_refl _, setR_new_at hg⟩ fun s' c hm hcn hS => hR s' hm ⟨c, by omega, hS⟩
    have hlt : i < ns.length := by rw [← hsz]; exact (Array.getElem?_eq_some_iff.mp hv).1
    obtain ⟨t, e⟩ := PyProof.Rows.IntsAre.int_at hi i v (by rw [Array.getElem?_toList]; exact hv)
    refine ⟨ns[i], t, List.getElem?_eq_getElem hlt, ?_⟩
    rw [e, List.getD_eq_getElem?_getD, List.getElem?_eq_getElem hlt] <;> rfl
  · refine ⟨.ref s.heap.objs.size, upd H s.heap.objs.size (SetO X.w s.heap.objs.size (fun j => decide (j ∈ ns)) c), I.laid (t' := tk) k (Nat.le_refl _) (setO_new R), rfl, q _ _ c hn (fun j => by simp) hcn fun k0 hk0 => ?_⟩
    obtain ⟨o, es, ep, t, ho, hx, hd, g, nd, hm, hb2, hf, hn2, _⟩ := R
    rw [← hn2]
    exact one_le nd fun j hj => hk0 j (of_decide_eq_true ((hm j).mpr hj))
theorem cr_setP (hc : X.calm = true) (hu : X.A.units + 64 < cLine) : CallR X (.type "set") (rSetP X.K) := by
  intro pins s σ H xs us Q I r h
  obtain ⟨l, ks, rfl, hl, hk, hf, hd, q⟩ := h
  rw [Vals.ref1 r]
  obtain ⟨its, rv, pl, hz⟩ := I.list hl
  have hn : H s.heap.objs.size = none := I.hok.fresh (Nat.le_refl _)
  have hit : its.toArray.toList = ks.map fun p => Value.ref p.1 := by simpa using refs_of_vals rv
  have hsz : its.toArray.size = ks.length := by
    have := congrArg List.length hit
    rwa [Array.length_toList, List.length_map] at this
  have none0 : s.heap.get? s.heap.objs.size = none := by
    cases q : s.heap.get? s.heap.objs.size with
    | none => rfl
    | some o => exact absurd (Heap.lt_size q) (Nat.lt_irrefl _)
  refine set_of_list (P := X.prog) (w := X.w) (Good := fun h => ∃ L es ep t, ST X.prog X.w h s.heap.objs.size L es ep t ∧ L.Perm ks) (I.ok.hd hc) pl.isList (fun A1 It fp wr G St R s1 W hSf hu1 st0 hg k0 hw0 hR => ?_) fun h' tk ⟨L, es, ep, t, R, pm⟩ k => ?_
  · refine loopT W s.heap.objs.size hSf ks hsz hf hd (fun i v hv => ?_) s.heap (fun p hp => I.isT (hk p hp)) none0 hw0 (by rw [hu1]; omega) (its.toArray.size - 0) 0 s1 (by omega) (Nat.zero_le _) st0 k0 ⟨[], #[], 0, _, ST.fresh hg, by simp⟩ fun s' L es ep t hm hS pm => hR s' hm ⟨L, es, ep, t, hS, pm⟩
    have q : its.toArray.toList[i]? = some v := by rw [Array.getElem?_toList]; exact hv
    rw [hit, List.getElem?_map] at q
    cases hq : ks[i]? with
    | none => rw [hq] at q; cases q
    | some p =>
      rw [hq] at q
      exact ⟨p, rfl, (Option.some.inj q).symm⟩
  · refine ⟨.ref s.heap.objs.size, upd H s.heap.objs.size (SzO s.heap.objs.size ks.length), I.laid (t' := tk) k (Nat.le_refl _) (szO_new ?_), rfl, q _ hn⟩
    obtain ⟨o, ho, hex, hdt⟩ := R.ob
    refine ⟨o, es, ep, t, ho, hex, hdt, R.tab.fits R.rows (by have := R.room; omega), ?_⟩
    rw [rows_size R.rows, pm.length_eq]
theorem cr_lenZ : CallR X (.builtin "len") rLenZ := by
  intro pins s σ H xs us Q I r h
  obtain ⟨a, n, rfl, ha, hn, q⟩ := h
  rw [Vals.ref1 r]
  obtain ⟨o, es, ep, t, ho, hex, hd, hf, hsz⟩ := (show SzR s.heap a n from (I.hok a _ ha).1)
  exact call_len_set ho hex hd hf (by rw [hsz]; omega) ⟨.int n, H, I.tok _, ⟨_, by rw [hsz]⟩, q⟩
theorem cr_lenS : CallR X (.builtin "len") (rLenS X.w) := by
  intro pins s σ H xs us Q I r h
  obtain ⟨a, S, n, rfl, ha, hn, q⟩ := h
  rw [Vals.ref1 r]
  obtain ⟨o, es, ep, t, ho, hex, hd, g, nd, hm, hb2, hf, hn2, _⟩ := (show SetR X.w s.heap a S n from (I.hok a _ ha).1)
  exact call_len_set ho hex hd hf (by rw [hn2]; omega) ⟨.int n, H, I.tok _, ⟨_, by rw [hn2]⟩, q⟩
end
end Pk
set_option Elab.async false
set_option linter.all false
set_option maxRecDepth 100000
set_option maxHeartbeats 4000000
set_option autoImplicit false
namespace Pk
open PySem PySem.Spec PyProof.Rows L2
open C8 (Cal Met Mak pe_c pe_mk pe_mt pe_mt0 pe_gc)
section
variable {P : Program} {w : World} {K : PySem.W.Frag} {mg : Str → Option Value} {base : Heap} {CG CP upA : Addr}
/-! ### places_in -/
theorem hu65 {A : Around} {k : Nat} (hr : Room k A) : A.units + 65 < cLine := by
  have := hr.un
  omega
def nZ (ls : List Nat) : List Int := ls.map fun k : Nat => (k : Int)
theorem plR_lt {ks : List Bool} : ∀ {t : RT}, RFit ks t → ∀ k ∈ plR t, k < ks.length
  | .alw, _, k, h => by cases h
  | .cell i t, ⟨b, hb, _⟩, k, h => by
    rw [List.mem_singleton.mp h]
    exact lt_of_at hb
  | .cells i sg j, ⟨b, hb, hb2, _⟩, k, h => by
    rcases List.mem_cons.mp h with h | h
    · rw [h]; exact lt_of_at hb
    · rw [List.mem_singleton.mp h]; exact lt_of_at hb2
  | .neg t, hf, k, h => plR_lt (t := t) hf k h
  | .both a b, ⟨h1, h2⟩, k, h => by
    rcases List.mem_append.mp (show k ∈ plR a ++ plR b from h) with h | h
    · exact plR_lt (t := a) h1 k h
    · exact plR_lt (t := b) h2 k h
  | .eith a b, ⟨h1, h2⟩, k, h => by
    rcases List.mem_append.mp (show k ∈ plR a ++ plR b from h) with h | h
    · exact plR_lt (t := a) h1 k h
    · exact plR_lt (t := b) h2 k h
theorem srt_nat {ls : List Nat} {ms : List Int} (h : ∀ k, k ∈ ms ↔ k ∈ nZ ls) (pw : ms.Pairwise (· < ·)) (hb : ∀ k ∈ ls, k < 8) : ∃ ns : List Nat, ms = nZ ns ∧ (∀ k, k ∈ ns ↔ k ∈ ls) ∧ ns.length ≤ 8 := by
  have hm : ∀ k ∈ ms, ∃ j ∈ ls, k = ((j : Nat) : Int) := fun k hk => by
    obtain ⟨j, hj, e⟩ := List.mem_map.mp ((h k).mp hk)
    exact ⟨j, hj, e.symm⟩
  have e1 : ms = nZ (ms.map Int.toNat) := by
    unfold nZ
    rw [List.map_map]
    conv => lhs; rw [← List.map_id ms]
    refine List.map_congr_left fun k hk => ?_
    obtain ⟨j, _, rfl⟩ := hm k hk
    rfl
  have e2 : ∀ k, k ∈ ms.map Int.toNat ↔ k ∈ ls := fun k => by
    constructor
    · intro hk
      obtain ⟨i, hi, rfl⟩ := List.mem_map.mp hk
      obtain ⟨j, hj, rfl⟩ := hm i hi
      exact hj
    · intro hk
      exact List.mem_map.mpr ⟨(k : Int), (h _).mpr (List.mem_map.mpr ⟨k, hk, rfl⟩), rfl⟩
  refine ⟨ms.map Int.toNat, e1, e2, ?_⟩
  have nd : (ms.map Int.toNat).Nodup := by
    refine List.pairwise_map.mpr (List.Pairwise.imp_of_mem (fun {x y} hx hy hxy e => ?_) pw)
    obtain ⟨i, _, rfl⟩ := hm x hx
    obtain ⟨j, _, rfl⟩ := hm y hy
    have e : i = j := e
    omega
  have := nat_nodup_len (ms.map Int.toNat) (List.range 8) nd fun k hk => List.mem_range.mpr (hb k ((e2 k).mp hk))
  rwa [List.length_range] at this
theorem cut_tl (x : V) (xs : List V) : cutV (x :: xs) (some 1) none = xs := by
  unfold cutV
  rw [show (1 : Int) = ((1 : Nat) : Int) from rfl, HT.sIx_nat]
  rw [List.length_cons, Nat.min_eq_left (by omega)]
  show ((x :: xs).drop 1).take (xs.length + 1 - 1) = xs
  rw [List.drop_one, List.tail_cons, Nat.add_sub_cancel, List.take_length]
theorem rt_parts {K : PySem.W.Frag} {H : Hp} {t : RT} {a : Addr} {ks : List Bool} {d : Nat} (ha : RTAt K H t a) (hf : RFit ks t) (hd : t.dep < d + 1) :
    (∃ (i : Nat) (b : Addr), SqT K H a [.str "cell", .int (i : Int), .ref b] ∧ plR t = [i]) ∨ (∃ (i : Nat) (sg : Str) (j : Nat), SqT K H a [.str "cells", .int (i : Int), .str sg, .int (j : Int)] ∧ plR t = [i, j]) ∨
    ∃ (tag : Str) (ps : List (RT × Addr)), SqT K H a (.str tag :: ps.map fun p => V.ref p.2) ∧ decide (V.str tag = V.str "cell") = false ∧ decide (V.str tag = V.str "cells") = false ∧ ps.length ≤ 2 ∧ (∀ p ∈ ps, RTAt K H p.1 p.2 ∧ RFit ks p.1 ∧ p.1.dep < d) ∧
      ∀ k, k ∈ plR t ↔ ∃ p ∈ ps, k ∈ plR p.1 := by
  cases t with
  | alw => exact .inr (.inr ⟨"always", [], ha, by decide +kernel, by decide +kernel, by decide, (fun p h => by cases h), fun k => ⟨(fun h => by cases h), (fun ⟨p, h, _⟩ => by cases h)⟩⟩)
  | cell i ct =>
    obtain ⟨b, h1, _⟩ := ha
    exact .inl ⟨i, b, h1, rfl⟩
  | cells i sg j => exact .inr (.inl ⟨i, sg, j, ha, rfl⟩)
  | neg t =>
    obtain ⟨b, h1, h2⟩ := ha
    have hd' : t.dep + 1 < d + 1 := hd
    refine .inr (.inr ⟨"not", [(t, b)], h1, by decide +kernel, by decide +kernel, Nat.le_of_ble_eq_true rfl, fun p h => ?_, fun k => ?_⟩)
    · rw [List.mem_singleton.mp h]
      exact ⟨h2, hf, by show t.dep < d; omega⟩
    · constructor
      · exact fun h => ⟨(t, b), List.mem_singleton.mpr rfl, h⟩
      · rintro ⟨p, h, hk⟩
        rw [List.mem_singleton.mp h] at hk
        exact hk
  | both x y =>
    obtain ⟨b, c, h1, h2, h3⟩ := ha
    have hd' : max x.dep y.dep + 1 < d + 1 := hd
    refine .inr (.inr ⟨"both", [(x, b), (y, c)], h1, by decide +kernel, by decide +kernel, Nat.le_of_ble_eq_true rfl, fun p h => ?_, fun k => ?_⟩)
    · rcases List.mem_cons.mp h with h | h
      · rw [h]; exact ⟨h2, hf.1, by show x.dep < d; omega⟩
      · rw [List.mem_singleton.mp h]; exact ⟨h3, hf.2, by show y.dep < d; omega⟩
    · show k ∈ plR x ++ plR y ↔ _
      rw [List.mem_append]
      constructor
      · rintro (h | h)
        · exact ⟨(x, b), by simp, h⟩
        · exact ⟨(y, c), by simp, h⟩
      · rintro ⟨p, h, hk⟩
        rcases List.mem_cons.mp h with h | h
        · rw [h] at hk; exact .inl hk
        · rw [List.mem_singleton.mp h] at hk; exact .inr hk
  | eith x y =>
    obtain ⟨b, c, h1, h2, h3⟩ := ha
    have hd' : max x.dep y.dep + 1 < d + 1 := hd
    refine .inr (.inr ⟨"either", [(x, b), (y, c)], h1, by decide +kernel, by decide +kernel, Nat.le_of_ble_eq_true rfl, fun p h => ?_, fun k => ?_⟩)
    · rcases List.mem_cons.mp h with h | h
      · rw [h]; exact ⟨h2, hf.1, by show x.dep < d; omega⟩
      · rw [List.mem_singleton.mp h]; exact ⟨h3, hf.2, by show y.dep < d; omega⟩
    · show k ∈ plR x ++ plR y ↔ _
      rw [List.mem_append]
      constructor
      · rintro (h | h)
        · exact ⟨(x, b), by simp, h⟩
        · exact ⟨(y, c), by simp, h⟩
      · rintro ⟨p, h, hk⟩
        rcases List.mem_cons.mp h with h | h
        · rw [h] at hk; exact .inl hk
        · rw [List.mem_singleton.mp h] at hk; exact .inr hk
def sp_places_in (K : PySem.W.Frag) (d : Nat) : Sp := fun vs H Q _ => ∃ (a : Addr) (t : RT) (ks : List Bool), vs = [.ref a] ∧ RTAt K H t a ∧ RFit ks t ∧ ks.length ≤ 8 ∧ t.dep < d ∧
  ∀ p ns H2, H p = none → Ex H H2 → H2 p = some (.lst ((nZ ns).map V.int)) → (∀ k, k ∈ ns ↔ k ∈ plR t) → ns.length ≤ 8 → Q (.ref p) H2
theorem ok_places_in0 (D : Dfn K mg "places_in" s_places_in) : Cal P w K mg base 1 "places_in" (sp_places_in K 0) [] := by
  refine cal_mk D sc_places_in (fun _ _ _ _ _ _ us hl => match us, hl with | [_], _ => rfl) (fun vs H Q E h => ?_) (fun f cdv A outer s H vs Q E hr h => ?_)
  · obtain ⟨_, _, _, rfl, _⟩ := h; rfl
  · obtain ⟨_, _, _, rfl, _, _, _, h, _⟩ := h
    exact absurd h (Nat.not_lt_zero _)
theorem ok_places_in (T : Gf K mg CG CP upA) (D : Dfn K mg "places_in" s_places_in) (d : Nat) (c_places_in : Cal P w K mg base (1 + d) "places_in" (sp_places_in K d) []) : Cal P w K mg base (1 + d + 1) "places_in" (sp_places_in K (d + 1)) [] := by
  refine cal_mk D sc_places_in (fun _ _ _ _ _ _ us hl => match us, hl with | [_], _ => rfl) (fun vs H Q E h => ?_) (fun f cdv A outer s H vs Q E hr h => ?_)
  · obtain ⟨_, _, _, rfl, _⟩ := h; rfl
  · obtain ⟨a, t, ks, rfl, ha, hf, hk8, hd, q⟩ := h
    refine ⟨_, pss_cons (ps_if (pt_cmpR op_eq (pe_ix ix_tup (pv 0) (pe_int) (fun _ _ => rfl)) (pe_str) (nomark _)) (pss_one (ps_ret (pe_lst (pa_cons (pe_ix ix_tup (pv 0) (pe_int) (fun _ _ => rfl)) pa_nil)))) (pss_nil))
      (pss_cons (ps_if (pt_cmpR op_eq (pe_ix ix_tup (pv 0) (pe_int) (fun _ _ => rfl)) (pe_str) (nomark _)) (pss_one (ps_ret (pe_callB (cr_sortedSet rfl) (by rfl) T.sorted (by decide +kernel) (pa_cons (pe_callTy (cr_setI rfl) (by rfl) T.set (by decide +kernel) (pa_cons (pe_lst (pa_cons (pe_ix ix_tup (pv 0) (pe_int) (fun _ _ => rfl)) (pa_cons (pe_ix ix_tup (pv 0) (pe_int) (fun _ _ => rfl)) pa_nil))) pa_nil)) pa_nil)))) (pss_nil))
      (pss_cons (ps_set (i := 1) sc_places_in.nd rfl (Or.inl rfl) (pe_lst (pa_nil)))
      (pss_cons (ps_for PassesOwn.never rfl (pi_tup (pe_slice sl_tup (pv 0) (po_some (pe_int)) (po_none))) (pg_name (i := 2) sc_places_in.nd rfl (Or.inl rfl))
        (pss_one (ps_expr (pe_bm PySem.F.plainAttrs_list PySem.F.slot_list_extend PySem.F.type_list_extend mt_extend (pv 1) (pa_cons (pe_c c_places_in hr (by omega) (by rfl) (pa_cons (pv 2) pa_nil)) pa_nil)))))
      (pss_one (ps_ret (pe_callB (cr_sortedSet rfl) (by rfl) T.sorted (by decide +kernel) (pa_cons (pe_callTy (cr_setI rfl) (by rfl) T.set (by decide +kernel) (pa_cons (pv 1) pa_nil)) pa_nil))))))), ?_⟩
    have hlt : ∀ k ∈ plR t, k < 8 := fun k hk => Nat.lt_of_lt_of_le (plR_lt hf k hk) hk8
    rcases rt_parts ha hf hd with ⟨i, b, h1, hp⟩ | ⟨i, sg, j, h1, hp⟩ | ⟨tag, ps, h1, g1, g2, hpl, hps, hpk⟩
    · refine ⟨_, rfl, _, _, _, _, rfl, rfl, h1, at_k (k := 0) rfl rfl, rfl, _, rfl, ifT (by decide +kernel) ?_⟩
      refine ⟨_, rfl, _, _, _, _, rfl, rfl, h1, at_k (k := 1) rfl rfl, Nat.le_of_ble_eq_true rfl, fun p np => ?_⟩
      exact q p [i] _ np (Ex.n np) upd_same (fun k => by rw [hp]) (by show 1 ≤ 8; decide)
    · refine ⟨_, rfl, _, _, _, _, rfl, rfl, h1, at_k (k := 0) rfl rfl, rfl, _, rfl, ifF (by decide +kernel) ?_⟩
      refine ⟨_, rfl, _, _, _, _, rfl, rfl, h1, at_k (k := 0) rfl rfl, rfl, _, rfl, ifT (by decide +kernel) ?_⟩
      refine ⟨_, rfl, _, _, _, _, rfl, rfl, h1, at_k (k := 1) rfl rfl, _, rfl, _, _, _, _, rfl, rfl, h1, at_k (k := 3) rfl rfl, Nat.le_of_ble_eq_true rfl, fun p np => ?_⟩
      refine ⟨_, nZ [i, j], rfl, lsOf upd_same, (by decide +kernel : 2 < 2000), fun a2 S n np2 hS hn _ => ?_⟩
      refine ⟨_, _, _, rfl, upd_same, Nat.lt_of_le_of_lt hn (by decide +kernel : 2 < 64), fun ms p3 pw hm hml np3 => ?_⟩
      obtain ⟨ns, rfl, hns, hnl⟩ := srt_nat (ls := [i, j]) (fun k => (hm k).trans (hS k)) pw (by rw [← hp]; exact hlt)
      have e2 := (Ex.n (o := HO.lst ((nZ [i, j]).map V.int)) np).trans (Ex.n (o := SetO w a2 S n) np2)
      exact q p3 ns _ (Evl.fresh_back e2 np3) (e2.trans (Ex.n np3)) upd_same (by rw [hp]; exact hns) hnl
    · refine ⟨_, rfl, _, _, _, _, rfl, rfl, h1, at_k (k := 0) rfl rfl, rfl, _, rfl, ifF g1 ?_⟩
      refine ⟨_, rfl, _, _, _, _, rfl, rfl, h1, at_k (k := 0) rfl rfl, rfl, _, rfl, ifF g2 ?_⟩
      refine ⟨Nat.zero_le _, fun fa nfa => ?_⟩
      have e1 := Ex.n (o := HO.lst []) nfa
      have hfa : (upd H fa (.lst [])) fa = some (.lst []) := upd_same
      generalize upd H fa (.lst []) = H1 at e1 hfa
      refine ⟨_, rfl, _, rfl, _, _, rfl, exT h1 e1, (fun z => ?_), fun p2 np2 => ?_⟩
      · have z1 := z.1
        rw [show (1 : Int) = ((1 : Nat) : Int) from rfl, HT.sIx_nat] at z1
        rw [List.length_cons] at z1
        omega
      have hcut : cutV (V.str tag :: ps.map fun p => V.ref p.2) (some 1) none = ps.map fun p => V.ref p.2 := cut_tl _ _
      have hcut2 : HO.tup (cutV (V.str tag :: ps.map fun p => V.ref p.2) (some 1) none) = HO.tup (ps.map fun p => V.ref p.2) := congrArg HO.tup hcut
      rw [hcut2]
      have e2 := e1.trans (Ex.n (o := HO.tup (ps.map fun p => V.ref p.2)) np2)
      have hp2 : (upd H1 p2 (.tup (ps.map fun p => V.ref p.2))) p2 = some (.tup (ps.map fun p => V.ref p.2)) := upd_same
      have hfa2 := Ex.n (o := HO.tup (ps.map fun p => V.ref p.2)) np2 _ _ hfa
      have hne : p2 ≠ fa := fun z => by rw [z, hfa] at np2; cases np2
      generalize upd H1 p2 (.tup (ps.map fun p => V.ref p.2)) = H2 at e2 hp2 hfa2
      refine ⟨_, rfl, ⟨_, tpOf hp2⟩, for_it walk_tup (fun i σ' H' => Ex H H' ∧ H' p2 = some (.tup (ps.map fun p => V.ref p.2)) ∧ (∃ ls : List Nat, H' fa = some (.lst ((nZ ls).map V.int)) ∧ ls.length ≤ 8 * i ∧ ∀ k, k ∈ ls ↔ ∃ p ∈ ps.take i, k ∈ plR p.1) ∧ ∃ y2, σ' = [some (.ref a), some (.ref fa), y2])
        ⟨e2, hp2, ⟨[], hfa2, Nat.zero_le _, fun k => ⟨(fun h => by cases h), (fun ⟨p, hp, _⟩ => by rw [List.take_zero] at hp; cases hp)⟩⟩, none, rfl⟩ (fun i σ' H' _ hI => tpOf hI.2.1) (fun i x σ' H' H3 hi hI hy => ?_) (fun σ' H' hI => ?_)⟩
      · obtain ⟨e3, hp3, ⟨ls, hls, hll, hlk⟩, y2, rfl⟩ := hI
        obtain ⟨rfl, hx⟩ := hy
        rw [List.getElem?_map] at hx
        cases hpi : ps[i]? with
        | none => rw [hpi] at hx; cases hx
        | some pt =>
          rw [hpi] at hx
          obtain rfl := Option.some.inj hx
          obtain ⟨k1, k2, k3⟩ := hps pt (List.mem_of_getElem? hpi)
          refine ⟨_, rfl, .inl ⟨rfl, _, .inl (.inl hls)⟩, _, rfl, _, pt.1, ks, rfl, k1.ex e3, k2, hk8, k3, fun p4 ns H4 np4 e4 hp4 hns hnl => ?_⟩
          have hil : i < ps.length := (List.getElem?_eq_some_iff.mp hpi).1
          refine ⟨_, _, _, _, rfl, rfl, e4 _ _ hls, hp4, sml (by simp only [nZ, List.length_map]; omega), (e3.trans e4).mut nfa, ?_, ⟨ls ++ ns, ?_, by rw [List.length_append]; omega, fun k => ?_⟩, _, rfl⟩
          · rw [upd_ne hne]
            exact e4 _ _ hp3
          · rw [upd_same]
            unfold nZ
            rw [List.map_append, List.map_append]
          · rw [List.mem_append, hlk, hns, List.take_add_one, hpi]
            constructor
            · rintro (⟨p, hp, h⟩ | h)
              · exact ⟨p, List.mem_append_left _ hp, h⟩
              · exact ⟨pt, List.mem_append_right _ (List.mem_singleton.mpr rfl), h⟩
            · rintro ⟨p, hp, h⟩
              rcases List.mem_append.mp hp with hp | hp
              · exact .inl ⟨p, hp, h⟩
              · rw [Option.toList, List.mem_singleton] at hp
                rw [hp] at h
                exact .inr h
      · obtain ⟨e3, hp3, ⟨ls, hls, hll, hlk⟩, y2, rfl⟩ := hI
        rw [List.length_map] at hll hlk
        rw [List.take_length] at hlk
        have hlp : ∀ k, k ∈ ls ↔ k ∈ plR t := fun k => (hlk k).trans (hpk k).symm
        refine ⟨_, rfl, _, nZ ls, rfl, lsOf hls, (by unfold nZ; rw [List.length_map]; omega), fun a2 S n np2 hS hn _ => ?_⟩
        have hn64 : n < 64 := by
          unfold nZ at hn
          rw [List.length_map] at hn
          omega
        refine ⟨_, _, _, rfl, upd_same, hn64, fun ms p3 pw hm hml np3 => ?_⟩
        obtain ⟨ns, rfl, hns, hnl⟩ := srt_nat (ls := ls) (fun k => (hm k).trans (hS k)) pw (fun k hk => hlt k ((hlp k).mp hk))
        have e4 := e3.trans (Ex.n (o := SetO w a2 S n) np2)
        exact q p3 ns _ (Evl.fresh_back e4 np3) (e4.trans (Ex.n np3)) upd_same (fun k => (hns k).trans (hlp k)) hnl
theorem ok_places_inN (T : Gf K mg CG CP upA) (D : Dfn K mg "places_in" s_places_in) : ∀ d : Nat, Cal P w K mg base (1 + d) "places_in" (sp_places_in K d) []
  | 0 => ok_places_in0 D
  | d + 1 => ok_places_in T D d (ok_places_inN T D d)
end
end Pk
set_option Elab.async false
set_option linter.all false
set_option maxRecDepth 100000
set_option maxHeartbeats 4000000
set_option autoImplicit false
namespace Pk
open PySem PySem.Spec PyProof.Rows L2
open C8 (Cal Met Mak pe_c pe_mk pe_mt pe_mt0 pe_gc)
section
variable {P : Program} {w : World} {K : PySem.W.Frag} {mg : Str → Option Value} {base : Heap} {CG CP upA : Addr}
/-! ### _law_same -/
theorem walk_zipT {K : PySem.W.Frag} {a b : Addr} {xs ys : List V} {n : Nat} (hn : n = min xs.length ys.length) : Walk (RZ.ItzT K a b) n (fun H => SqT K H a xs ∧ SqT K H b ys) (YPair (fun i => xs[i]?) (fun i => ys[i]?)) := by
  subst hn
  refine ⟨fun i H hi q => ?_, fun H q => ⟨xs, ys, q.1, q.2, by omega⟩, fun i H v H' hi q y => ?_⟩
  · exact ⟨xs, ys, xs[i]'(by omega), ys[i]'(by omega), q.1, q.2, List.getElem?_eq_getElem _, List.getElem?_eq_getElem _⟩
  · obtain ⟨T, x, z, h1, h2, h3, h4, h5⟩ := y
    exact ⟨T, x, z, h1, h2, h3, h4 _ q.1, h5 _ q.2⟩
theorem all_rep (n : Nat) : (List.replicate n true).all id = true := List.all_eq_true.mpr fun x hx => (List.mem_replicate.mp hx).2
def FlatC (c : V) : Prop := c = .non ∨ (∃ i, c = .int i) ∨ ∃ z, c = .str z
def SameAt (H : Hp) : Nat → V → V → Prop
  | 0, _, _ => False
  | d + 1, x, y => (x = y ∧ FlatC x) ∨ ∃ (a b : Addr) (xs ys : List V), x = .ref a ∧ y = .ref b ∧ ((H a = some (.tup xs) ∧ H b = some (.tup ys)) ∨ (H a = some (.lst xs) ∧ H b = some (.lst ys))) ∧ xs.length = ys.length ∧ xs.length ≤ 1000 ∧ ∀ (i : Nat) (u v : V), xs[i]? = some u → ys[i]? = some v → SameAt H d u v
theorem SameAt.ex {H H' : Hp} (e : Ex H H') : ∀ {d : Nat} {x y : V}, SameAt H d x y → SameAt H' d x y
  | 0, _, _, h => False.elim h
  | d + 1, _, _, h => by
    rcases h with h | ⟨a, b, xs, ys, h1, h2, h3, h4, h5, h6⟩
    · exact .inl h
    · refine .inr ⟨a, b, xs, ys, h1, h2, ?_, h4, h5, fun i u v hu hv => (h6 i u v hu hv).ex e⟩
      rcases h3 with ⟨g1, g2⟩ | ⟨g1, g2⟩
      · exact .inl ⟨e _ _ g1, e _ _ g2⟩
      · exact .inr ⟨e _ _ g1, e _ _ g2⟩
def sp_law_same (K : PySem.W.Frag) (d : Nat) : Sp := fun vs H Q _ => ∃ (x y : V), vs = [x, y] ∧ SameAt H d x y ∧ GV (.bl true) H Q
theorem ok_law_same0 (D : Dfn K mg "_law_same" s_law_same) : Cal P w K mg base 1 "_law_same" (sp_law_same K 0) [] := by
  refine cal_mk D sc_law_same (fun _ _ _ _ _ _ us hl => match us, hl with | [_, _], _ => rfl) (fun vs H Q E h => ?_) (fun f cdv A outer s H vs Q E hr h => ?_)
  · obtain ⟨_, _, rfl, _⟩ := h; rfl
  · obtain ⟨_, _, rfl, h, _⟩ := h
    exact h.elim
theorem ok_law_same (T : Gf K mg CG CP upA) (D : Dfn K mg "_law_same" s_law_same) (d : Nat) (c_law_same : Cal P w K mg base (1 + d) "_law_same" (sp_law_same K d) []) : Cal P w K mg base (1 + d + 1) "_law_same" (sp_law_same K (d + 1)) [] := by
  refine cal_mk D sc_law_same (fun _ _ _ _ _ _ us hl => match us, hl with | [_, _], _ => rfl) (fun vs H Q E h => ?_) (fun f cdv A outer s H vs Q E hr h => ?_)
  · obtain ⟨_, _, rfl, _⟩ := h; rfl
  · obtain ⟨x, y, rfl, hxy, q⟩ := h
    refine ⟨_, pss_cons (ps_if (pt_cmpR op_isN (pv 1) pe_non (nomark _)) (pss_one (ps_ret (pe_cmpR op_isN (pv 0) pe_non (nomark _)))) (pss_nil))
      (pss_cons (ps_if (pt_val (pe_callB call_isi (by rfl) T.isinstance (by decide +kernel) (pa_cons (pv 1) (pa_cons (pe_bltn (v := .ty "dict") (u := Value.type "dict") (by rfl) T.dict (by decide +kernel) rfl) pa_nil)))) (pss_never) (pss_nil))
      (pss_cons (ps_if (PW.pt (pw_or (pt_val (pe_callB call_isi (by rfl) T.isinstance (by decide +kernel) (pa_cons (pv 1) (pa_cons (pe_bltn (v := .ty "list") (u := Value.type "list") (by rfl) T.list (by decide +kernel) rfl) pa_nil)))) (pw_or1 (pt_val (pe_callB call_isi (by rfl) T.isinstance (by decide +kernel) (pa_cons (pv 1) (pa_cons (pe_bltn (v := .ty "tuple") (u := Value.type "tuple") (by rfl) T.tuple (by decide +kernel) rfl) pa_nil))))))) (pss_cons (ps_if (pt_cmpR op_ne (pe_callB call_isi (by rfl) T.isinstance (by decide +kernel) (pa_cons (pv 0) (pa_cons (pe_bltn (v := .ty "list") (u := Value.type "list") (by rfl) T.list (by decide +kernel) rfl) pa_nil))) (pe_callB call_isi (by rfl) T.isinstance (by decide +kernel) (pa_cons (pv 1) (pa_cons (pe_bltn (v := .ty "list") (u := Value.type "list") (by rfl) T.list (by decide +kernel) rfl) pa_nil))) (nomark _)) (pss_one (ps_ret (pe_bl))) (pss_nil))
        (pss_cons (ps_if (PW.pt (pw_or (pt_cmpR op_ne (pe_callB call_isi (by rfl) T.isinstance (by decide +kernel) (pa_cons (pv 0) (pa_cons (pe_bltn (v := .ty "tuple") (u := Value.type "tuple") (by rfl) T.tuple (by decide +kernel) rfl) pa_nil))) (pe_callB call_isi (by rfl) T.isinstance (by decide +kernel) (pa_cons (pv 1) (pa_cons (pe_bltn (v := .ty "tuple") (u := Value.type "tuple") (by rfl) T.tuple (by decide +kernel) rfl) pa_nil))) (nomark _)) (pw_or1 (pt_cmpR op_ne (pe_callB call_len_seq (by rfl) T.len (by decide +kernel) (pa_cons (pv 0) pa_nil)) (pe_callB call_len_seq (by rfl) T.len (by decide +kernel) (pa_cons (pv 1) pa_nil)) (nomark _))))) (pss_one (ps_ret (pe_bl))) (pss_nil))
        (pss_one (ps_ret (pe_callB (cr_all rfl) (by rfl) T.all (by decide +kernel) (pa_cons (pe_lc (own := [("_law_one", 3), ("_law_other", 4)]) (g := gTup K 2 _) (tt := tYes) (by rfl) sc_law_same.nd (RZ.pi_zipA (by rfl) T.zip (pa_cons (pv 0) (pa_cons (pv 1) pa_nil))) (blkOk_by (N := N_law_same) (sc := defScope s_law_same) (by decide +kernel)) (fun _ _ _ _ _ => pg_tup (by rfl) (pgs_cons (pg_name (i := 3) sc_law_same.nd rfl (Or.inl rfl)) (pgs_cons (pg_name (i := 4) sc_law_same.nd rfl (Or.inl rfl)) pgs_nil))) (fun _ _ _ _ _ => pts_nil) (fun _ _ _ _ _ => pe_c c_law_same hr (by omega) (by rfl) (pa_cons (pv 3) (pa_cons (pv 4) pa_nil)))) pa_nil)))))) (pss_nil))
      (pss_cons (ps_if (pt_val (pe_callB call_isi (by rfl) T.isinstance (by decide +kernel) (pa_cons (pv 1) (pa_cons (pe_bltn (v := .ty "str") (u := Value.type "str") (by rfl) T.str (by decide +kernel) rfl) pa_nil)))) (pss_one (ps_ret (pe_and (pe_callB call_isi (by rfl) T.isinstance (by decide +kernel) (pa_cons (pv 0) (pa_cons (pe_bltn (v := .ty "str") (u := Value.type "str") (by rfl) T.str (by decide +kernel) rfl) pa_nil))) (pe_one (pe_cmpR op_eq (pv 0) (pv 1) (nomark _)))))) (pss_nil))
      (pss_one (ps_ret (pe_and (pe_callB call_isi (by rfl) T.isinstance (by decide +kernel) (pa_cons (pv 0) (pa_cons (pe_bltn (v := .ty "int") (u := Value.type "int") (by rfl) T.int (by decide +kernel) rfl) pa_nil))) (pe_and (pe_not (pe_callB call_isi (by rfl) T.isinstance (by decide +kernel) (pa_cons (pv 0) (pa_cons (pe_bltn (v := .ty "bool") (u := Value.type "bool") (by rfl) T.bool (by decide +kernel) rfl) pa_nil)))) (pe_one (pe_cmpR op_eq (pv 0) (pv 1) (nomark _)))))))))), ?_⟩
    have q0 := q.go (Ex.r H)
    rcases hxy with ⟨rfl, rfl | ⟨i, rfl⟩ | ⟨z, rfl⟩⟩ | ⟨a, b, xs, ys, rfl, rfl, hab, hln, hl1, hel⟩
    · exact ⟨_, rfl, rfl, _, rfl, ifT rfl ⟨_, rfl, rfl, q0⟩⟩
    · refine ⟨_, rfl, rfl, _, rfl, ifF rfl ?_⟩
      refine ⟨_, rfl, _, _, _, _, false, rfl, .ty _, .base (.int i), kit_ty (by decide +kernel), _, rfl, ifF rfl ?_⟩
      refine ⟨_, rfl, _, _, _, _, false, rfl, .ty _, .base (.int i), kit_ty (by decide +kernel), _, rfl, ifF rfl ⟨_, rfl, _, _, _, _, false, rfl, .ty _, .base (.int i), kit_ty (by decide +kernel), _, rfl, ifF rfl ?_⟩⟩
      refine ⟨_, rfl, _, _, _, _, false, rfl, .ty _, .base (.int i), kit_ty (by decide +kernel), _, rfl, ifF rfl ?_⟩
      refine ⟨_, rfl, _, _, _, _, true, rfl, .ty _, .base (.int i), kit_ty (by decide +kernel), _, rfl, ifT rfl ⟨_, rfl, _, _, _, _, false, rfl, .ty _, .base (.int i), kit_ty (by decide +kernel), _, rfl, _, rfl, ifT rfl ⟨_, rfl, _, rfl, rfl, ?_⟩⟩⟩
      rw [vDT rfl]
      exact q0
    · refine ⟨_, rfl, rfl, _, rfl, ifF rfl ?_⟩
      refine ⟨_, rfl, _, _, _, _, false, rfl, .ty _, .base (.str z), kit_ty (by decide +kernel), _, rfl, ifF rfl ?_⟩
      refine ⟨_, rfl, _, _, _, _, false, rfl, .ty _, .base (.str z), kit_ty (by decide +kernel), _, rfl, ifF rfl ⟨_, rfl, _, _, _, _, false, rfl, .ty _, .base (.str z), kit_ty (by decide +kernel), _, rfl, ifF rfl ?_⟩⟩
      refine ⟨_, rfl, _, _, _, _, true, rfl, .ty _, .base (.str z), kit_ty (by decide +kernel), _, rfl, ifT rfl ?_⟩
      refine ⟨_, rfl, _, _, _, _, true, rfl, .ty _, .base (.str z), kit_ty (by decide +kernel), _, rfl, ifT rfl ⟨_, rfl, _, rfl, rfl, ?_⟩⟩
      rw [decide_eq_true rfl]
      exact q0
    · have hlen : (!decide (V.int (xs.length : Int) = V.int (ys.length : Int))) = false := by rw [hln, vDT rfl]; rfl
      rcases hab with ⟨ha, hb⟩ | ⟨ha, hb⟩
      · refine ⟨_, rfl, rfl, _, rfl, ifF rfl ?_⟩
        refine ⟨_, rfl, _, _, _, _, false, rfl, .ty _, .base (.tup hb), kit_ty (by decide +kernel), _, rfl, ifF rfl ?_⟩
        refine ⟨_, rfl, _, _, _, _, false, rfl, .ty _, .base (.tup hb), kit_ty (by decide +kernel), _, rfl, ifF rfl ⟨_, rfl, _, _, _, _, true, rfl, .ty _, .base (.tup hb), kit_ty (by decide +kernel), _, rfl, ifT rfl ?_⟩⟩
        refine ⟨_, rfl, _, _, _, _, false, rfl, .ty _, .base (.tup ha), kit_ty (by decide +kernel), _, rfl, _, _, _, _, false, rfl, .ty _, .base (.tup hb), kit_ty (by decide +kernel), rfl, _, rfl, ifF (by decide) ?_⟩
        refine ⟨_, rfl, _, _, _, _, true, rfl, .ty _, .base (.tup ha), kit_ty (by decide +kernel), _, rfl, _, _, _, _, true, rfl, .ty _, .base (.tup hb), kit_ty (by decide +kernel), rfl, _, rfl, ifF (by decide) ⟨_, rfl, _, _, rfl, .inr (tpOf ha), _, rfl, _, _, rfl, .inr (tpOf hb), rfl, _, rfl, ifF hlen ?_⟩⟩
        refine ⟨_, rfl, _, rfl, _, _, _, _, rfl, .inr ⟨tpOf ha, tpOf hb, fun d2 nd2 => ?_⟩⟩
        refine lc_it (walk_zipT (n := xs.length) (by rw [hln, Nat.min_self])) (fun i H' => Ex H H' ∧ H' d2 = some (.lst ((List.replicate i true).map V.bl))) ⟨Ex.n nd2, upd_same⟩ (fun i H' hi hI => ⟨tpOf (hI.1 _ _ ha), tpOf (hI.1 _ _ hb)⟩) (fun i x H' H2 hi hI hy => ?_) (fun H' hI => ?_)
        · obtain ⟨e2, hd⟩ := hI
          obtain ⟨T', x1, y1, rfl, nT, rfl, hx, hy⟩ := hy
          have e3 := e2.trans (Ex.n (o := HO.tup [x1, y1]) nT)
          refine ⟨_, _, rfl, tpOf upd_same, rfl, _, _, rfl, _, _, rfl, rfl, rfl, ?_⟩
          refine ⟨_, rfl, _, rfl, x1, y1, rfl, (hel i x1 y1 hx hy).ex e3, fun H4 e4 => ?_⟩
          refine ⟨_, e4 _ _ (Ex.n nT _ _ hd), smlt (by rw [List.length_map, List.length_replicate]; omega), (e3.trans e4).mut nd2, ?_⟩
          rw [upd_same, List.replicate_succ', List.map_append]
          rfl
        · obtain ⟨e2, hd⟩ := hI
          refine ⟨_, _, rfl, lsOf hd, ?_⟩
          rw [all_rep]
          exact q.go e2
      · refine ⟨_, rfl, rfl, _, rfl, ifF rfl ?_⟩
        refine ⟨_, rfl, _, _, _, _, false, rfl, .ty _, .base (.lst hb), kit_ty (by decide +kernel), _, rfl, ifF rfl ?_⟩
        refine ⟨_, rfl, _, _, _, _, true, rfl, .ty _, .base (.lst hb), kit_ty (by decide +kernel), _, rfl, ifT rfl ?_⟩
        refine ⟨_, rfl, _, _, _, _, true, rfl, .ty _, .base (.lst ha), kit_ty (by decide +kernel), _, rfl, _, _, _, _, true, rfl, .ty _, .base (.lst hb), kit_ty (by decide +kernel), rfl, _, rfl, ifF (by decide) ?_⟩
        refine ⟨_, rfl, _, _, _, _, false, rfl, .ty _, .base (.lst ha), kit_ty (by decide +kernel), _, rfl, _, _, _, _, false, rfl, .ty _, .base (.lst hb), kit_ty (by decide +kernel), rfl, _, rfl, ifF (by decide) ⟨_, rfl, _, _, rfl, .inl (lsOf ha), _, rfl, _, _, rfl, .inl (lsOf hb), rfl, _, rfl, ifF hlen ?_⟩⟩
        refine ⟨_, rfl, _, rfl, _, _, _, _, rfl, .inl ⟨lsOf ha, lsOf hb, fun d2 nd2 => ?_⟩⟩
        refine lc_it (walk_zip (n := xs.length) (by rw [hln, Nat.min_self])) (fun i H' => Ex H H' ∧ H' d2 = some (.lst ((List.replicate i true).map V.bl))) ⟨Ex.n nd2, upd_same⟩ (fun i H' hi hI => ⟨lsOf (hI.1 _ _ ha), lsOf (hI.1 _ _ hb)⟩) (fun i x H' H2 hi hI hy => ?_) (fun H' hI => ?_)
        · obtain ⟨e2, hd⟩ := hI
          obtain ⟨T', x1, y1, rfl, nT, rfl, hx, hy⟩ := hy
          have e3 := e2.trans (Ex.n (o := HO.tup [x1, y1]) nT)
          refine ⟨_, _, rfl, tpOf upd_same, rfl, _, _, rfl, _, _, rfl, rfl, rfl, ?_⟩
          refine ⟨_, rfl, _, rfl, x1, y1, rfl, (hel i x1 y1 hx hy).ex e3, fun H4 e4 => ?_⟩
          refine ⟨_, e4 _ _ (Ex.n nT _ _ hd), smlt (by rw [List.length_map, List.length_replicate]; omega), (e3.trans e4).mut nd2, ?_⟩
          rw [upd_same, List.replicate_succ', List.map_append]
          rfl
        · obtain ⟨e2, hd⟩ := hI
          refine ⟨_, _, rfl, lsOf hd, ?_⟩
          rw [all_rep]
          exact q.go e2
theorem ok_law_sameN (T : Gf K mg CG CP upA) (D : Dfn K mg "_law_same" s_law_same) : ∀ d : Nat, Cal P w K mg base (1 + d) "_law_same" (sp_law_same K d) []
  | 0 => ok_law_same0 D
  | d + 1 => ok_law_same T D d (ok_law_sameN T D d)
end
end Pk
set_option Elab.async false
set_option linter.all false
set_option maxRecDepth 100000
set_option maxHeartbeats 4000000
set_option autoImplicit false
namespace Pk
open PySem PySem.Spec PyProof.Rows L2
/-! ### data of pairs, of masks -/
theorem perm_le_eq {a b : List Int} (p : a.Perm b) (ha : a.Pairwise (· ≤ ·)) (hb : b.Pairwise (· ≤ ·)) : a = b := by
  induction a generalizing b with
  | nil => exact p.nil_eq
  | cons x r ih =>
    cases b with
    | nil => exact absurd p.length_eq (by simp)
    | cons y q =>
      rw [List.pairwise_cons] at ha hb
      have hxy : x = y := by
        have h1 : x ∈ y :: q := p.mem_iff.mp (List.mem_cons_self ..)
        have h2 : y ∈ x :: r := p.mem_iff.mpr (List.mem_cons_self ..)
        rcases List.mem_cons.mp h1 with h1 | h1
        · exact h1
        · rcases List.mem_cons.mp h2 with h2 | h2
          · exact h2.symm
          · have := ha.1 y h2
            have := hb.1 x h1
            omega
      subst hxy
      rw [ih (List.perm_cons x |>.mp p) ha.2 hb.2]
def dP (p : Nat × Nat) : PyData := .tuple [.int (p.1 : Int), .int (p.2 : Int)]
theorem eqv_dP (p q : Nat × Nat) : PyData.eqv (dP p) (dP q) = decide (p = q) := by
  obtain ⟨a, b⟩ := p
  obtain ⟨c, d⟩ := q
  have e : PyData.eqv (dP (a, b)) (dP (c, d)) = ((a : Int) == (c : Int) && ((b : Int) == (d : Int) && true)) := by simp [dP, PyData.eqv, PyData.eqvAll]
  rw [e, Bool.eq_iff_iff, decide_eq_true_eq, Bool.and_eq_true, Bool.and_eq_true, beq_iff_eq, beq_iff_eq, Prod.mk.injEq]
  constructor
  · rintro ⟨h1, h2, _⟩
    exact ⟨by omega, by omega⟩
  · rintro ⟨rfl, rfl⟩
    exact ⟨rfl, rfl, rfl⟩
theorem any_dP (ps : List (Nat × Nat)) (q : Nat × Nat) : ((ps.map dP).any fun z => PyData.eqv z (dP q)) = decide (q ∈ ps) := by
  rw [List.any_map, Bool.eq_iff_iff, decide_eq_true_eq, List.any_eq_true]
  constructor
  · rintro ⟨p, hp, h⟩
    have h : PyData.eqv (dP p) (dP q) = true := h
    rw [eqv_dP, decide_eq_true_eq] at h
    rw [← h]
    exact hp
  · intro h
    refine ⟨q, h, ?_⟩
    show PyData.eqv (dP q) (dP q) = true
    rw [eqv_dP, decide_eq_true rfl]
theorem lay_dP (p : Nat × Nat) : (dP p).canLay0 = true := by simp [dP, PyData.canLay0, PyData.canLayAll0]
theorem dep_dP (p : Nat × Nat) : (dP p).depth = 1 := by simp [dP, PyData.depth, PyData.depthAll]
theorem shp_dP (p : Nat × Nat) : SeqAt.shaped (dP p) = true := by
  unfold SeqAt.shaped
  rw [lay_dP, dep_dP]
  rfl
theorem lay_dPs (ps : List (Nat × Nat)) : PyData.canLayAll0 (ps.map dP) = true := layAll fun d hd => by
  obtain ⟨p, _, rfl⟩ := List.mem_map.mp hd
  exact lay_dP p
theorem dep_dPs (ps : List (Nat × Nat)) : PyData.depthAll (ps.map dP) ≤ 1 := depAll fun d hd => by
  obtain ⟨p, _, rfl⟩ := List.mem_map.mp hd
  exact Nat.le_of_eq (dep_dP p)
theorem shp_list {ds : List PyData} {n : Nat} (h1 : PyData.canLayAll0 ds = true) (h2 : PyData.depthAll ds ≤ n) (hn : n ≤ 60) : SeqAt.shaped (.list ds) = true := by
  simp only [SeqAt.shaped, PyData.canLay0, PyData.depth, h1, Bool.true_and]
  exact decide_eq_true (by omega)
theorem shp_tuple {ds : List PyData} {n : Nat} (h1 : PyData.canLayAll0 ds = true) (h2 : PyData.depthAll ds ≤ n) (hn : n ≤ 60) : SeqAt.shaped (.tuple ds) = true := by
  simp only [SeqAt.shaped, PyData.canLay0, PyData.depth, h1, Bool.true_and]
  exact decide_eq_true (by omega)
theorem dp_all {K : PySem.W.Frag} {H : Hp} {f : Nat → Option PyData} : ∀ {xs : List V} {ds : List PyData}, xs.length = ds.length → (∀ (i : Nat) (x : V) (d : PyData), xs[i]? = some x → ds[i]? = some d → Dp K H x d) → DpAll K H xs ds
  | [], [], _, _ => .nil
  | [], d :: ds, h, _ => by cases h
  | x :: xs, [], h, _ => by cases h
  | x :: xs, d :: ds, h, g => .cons (g 0 x d rfl rfl) (dp_all (f := f) (Nat.succ.inj h) fun i y e hy he => g (i + 1) y e hy he)
theorem dp_pairs {K : PySem.W.Frag} {H : Hp} {ps : List (Nat × Nat)} {xs : List V} (h : PairsAt H ps xs) : DpAll K H xs (ps.map dP) := by
  refine dp_all (f := fun _ => none) (by rw [List.length_map]; exact h.1) fun i x d hx hd => ?_
  rw [List.getElem?_map] at hd
  cases hp : ps[i]? with
  | none => rw [hp] at hd; cases hd
  | some p =>
    rw [hp] at hd
    obtain rfl := Option.some.inj hd
    obtain ⟨q, h1, h2⟩ := h.2 i p hp
    obtain rfl := Option.some.inj (hx.symm.trans h1)
    exact .tup (tpOf h2) (.cons (.int _) (.cons (.int _) .nil))
/-- the pairs as a set's rows -/
theorem rows_pairs {H : Hp} : ∀ {ps : List (Nat × Nat)} {xs : List V}, PairsAt H ps xs → ∃ ks : List (Addr × List Int), xs = ks.map (fun p => V.ref p.1) ∧ ks.map (·.2) = ps.map (fun p => [(p.1 : Int), (p.2 : Int)]) ∧ ∀ p ∈ ks, H p.1 = some (.tup (p.2.map V.int))
  | [], xs, h => ⟨[], List.length_eq_zero_iff.mp h.1, rfl, fun p hp => by cases hp⟩
  | p :: ps, xs, h => by
    obtain ⟨q, h1, h2⟩ := h.2 0 p rfl
    cases xs with
    | nil => cases h1
    | cons x xs =>
      obtain rfl := Option.some.inj h1
      obtain ⟨ks, e1, e2, e3⟩ := rows_pairs (ps := ps) (xs := xs) ⟨Nat.succ.inj h.1, fun i p hp => h.2 (i + 1) p hp⟩
      refine ⟨(q, [(p.1 : Int), (p.2 : Int)]) :: ks, by rw [List.map_cons, e1], by rw [List.map_cons, List.map_cons, e2], fun r hr => ?_⟩
      rcases List.mem_cons.mp hr with hr | hr
      · rw [hr]; exact h2
      · exact e3 r hr
theorem nd_pairs {ps : List (Nat × Nat)} (h : ps.Nodup) : (ps.map fun p => [(p.1 : Int), (p.2 : Int)]).Nodup := by
  refine List.pairwise_map.mpr (List.Pairwise.imp (fun {p q} hne e => hne ?_) h)
  injection e with e1 e2
  injection e2 with e2 _
  exact Prod.ext (by omega) (by omega)
theorem bI_int (b : Bool) : bI b = .int (if b = true then 1 else 0) := by cases b <;> rfl
theorem bI_map (m : List Bool) : m.map bI = (m.map fun b => if b = true then (1 : Int) else 0).map V.int := by
  rw [List.map_map]
  exact List.map_congr_left fun b _ => bI_int b
theorem dp_mask {K : PySem.W.Frag} {H : Hp} {p : Addr} {m : List Bool} (h : SqL K H p (m.map bI)) : Dp K H (.ref p) (.list ((m.map fun b => if b = true then (1 : Int) else 0).map .int)) := by
  rw [bI_map] at h
  exact dp_lints h
end Pk
set_option Elab.async false
set_option linter.all false
set_option maxRecDepth 100000
set_option maxHeartbeats 4000000
set_option autoImplicit false
namespace Pk
open PySem PySem.Spec PyProof.Rows L2
open C8 (Cal Met Mak pe_c pe_mk pe_mt pe_mt0 pe_gc)
section
variable {P : Program} {w : World} {K : PySem.W.Frag} {mg : Str → Option Value} {base : Heap} {CG CP upA : Addr}
/-! ### _law_reads_right -/
def RdOk (prs : List (Nat × Nat)) (t : RT) (mask : List Bool) (long : Nat) : Prop := prs.Nodup ∧ prs.length < 999 ∧ (prs.map (·.2)).Pairwise (· ≤ ·) ∧ (∀ p ∈ prs, p.1 ∈ plR t) ∧
  ∀ p ct, t = .cell p ct → ∀ s, s < nSt long mask.length → (p, s) ∉ prs → ∀ x ∈ (mask.drop (s * long)).take long, ∀ y ∈ (mask.drop (s * long)).take long, x = y
def sp_law_reads_right (K : PySem.W.Frag) (d : Nat) : Sp := fun vs H Q _ => ∃ (mp ta mk : Addr) (long : Nat) (xs : List V) (prs : List (Nat × Nat)) (t : RT) (ks : List Bool) (mask : List Bool), vs = [.ref mp, .ref ta, .ref mk, .int (long : Int)] ∧ SqL K H mp xs ∧ PairsAt H prs xs ∧
  RTAt K H t ta ∧ RFit ks t ∧ ks.length ≤ 8 ∧ t.dep < d ∧ SqL K H mk (mask.map bI) ∧ mask.length ≤ 100 ∧ 1 ≤ long ∧ long ≤ 64 ∧ RdOk prs t mask long ∧ GV (.bl true) H Q
theorem stZ (ps : List (Nat × Nat)) : (ps.map fun p => V.int (p.2 : Int)) = (nZ (ps.map (·.2))).map V.int := by
  unfold nZ
  rw [List.map_map, List.map_map]
  rfl
theorem nZ_le {ls : List Nat} (h : ls.Pairwise (· ≤ ·)) : (nZ ls).Pairwise (· ≤ ·) := List.pairwise_map.mpr (List.Pairwise.imp (fun {a b} h => by omega) h)
theorem rt_tag {K : PySem.W.Frag} {H : Hp} {t : RT} {a : Addr} (h : RTAt K H t a) : ∃ tag xs, SqT K H a (.str tag :: xs) ∧ ((tag = "cell" ∧ ∃ p ct b, t = .cell p ct ∧ xs = [.int (p : Int), .ref b]) ∨ decide (V.str tag = V.str "cell") = false) := by
  cases t with
  | alw => exact ⟨_, _, h, .inr (by decide +kernel)⟩
  | cell i ct =>
    obtain ⟨b, h1, _⟩ := h
    exact ⟨_, _, h1, .inl ⟨rfl, i, ct, b, rfl, rfl⟩⟩
  | cells i sg j => exact ⟨_, _, h, .inr (by decide +kernel)⟩
  | neg t =>
    obtain ⟨b, h1, _⟩ := h
    exact ⟨_, _, h1, .inr (by decide +kernel)⟩
  | both x y =>
    obtain ⟨b, c, h1, _⟩ := h
    exact ⟨_, _, h1, .inr (by decide +kernel)⟩
  | eith x y =>
    obtain ⟨b, c, h1, _⟩ := h
    exact ⟨_, _, h1, .inr (by decide +kernel)⟩
theorem mem_scal (ls : List Nat) (k : Nat) : inV (V.int (k : Int)) ((nZ ls).map V.int) = decide (k ∈ ls) := by
  unfold inV
  rw [Bool.eq_iff_iff, decide_eq_true_eq, List.any_eq_true]
  constructor
  · rintro ⟨z, hz, h⟩
    obtain ⟨i, hi, rfl⟩ := List.mem_map.mp hz
    obtain ⟨j, hj, rfl⟩ := List.mem_map.mp hi
    have h : decide ((j : Int) = (k : Int)) = true := h
    have h := of_decide_eq_true h
    have : j = k := by omega
    rwa [← this]
  · intro h
    exact ⟨V.int (k : Int), List.mem_map.mpr ⟨(k : Int), List.mem_map.mpr ⟨k, h, rfl⟩, rfl⟩, decide_eq_true rfl⟩
theorem ok_law_reads_right (T : Gf K mg CG CP upA) (D : Dfn K mg "_law_reads_right" s_law_reads_right) (d : Nat) (c_places_in : Cal P w K mg base (1 + d) "places_in" (sp_places_in K d) []) : Cal P w K mg base (1 + d + 1) "_law_reads_right" (sp_law_reads_right K d) [] := by
  refine cal_mk D sc_law_reads_right (fun _ _ _ _ _ _ us hl => match us, hl with | [_, _, _, _], _ => rfl) (fun vs H Q E h => ?_) (fun f cdv A outer s H vs Q E hr h => ?_)
  · obtain ⟨_, _, _, _, _, _, _, _, _, rfl, _⟩ := h; rfl
  · obtain ⟨mp, ta, mk, long, xs, prs, t, ks, mask, rfl, hmp, hprs, hta, hf, hk8, hd, hmk, hml, hl1, hl64, ⟨rnd, rlen, rst, rpl, rcell⟩, q⟩ := h
    refine ⟨_, pss_cons (ps_setLc (i := 4) (own := [("_law_place", 8), ("_law_at", 6)]) (g := gTup K 2 _) (tt := tYes) (by rfl) sc_law_reads_right.nd rfl rfl (sw_true rfl rfl rfl (by decide +kernel)) (pi_list (pv 0)) (blkOk_by (N := N_law_reads_right) (sc := defScope s_law_reads_right) (by decide +kernel)) (fun _ _ _ _ _ => pg_tup (by rfl) (pgs_cons (pg_name (i := 8) sc_law_reads_right.nd rfl (Or.inl rfl)) (pgs_cons (pg_name (i := 6) sc_law_reads_right.nd rfl (Or.inl rfl)) pgs_nil))) (fun _ _ _ _ _ => pts_nil) (fun _ _ _ _ _ => pv 6))
      (pss_cons (ps_if (PW.pt (pw_or (pt_cmpR op_ne (pe_callB cr_lenZ (by rfl) T.len (by decide +kernel) (pa_cons (pe_callTy (cr_setP rfl hr.units) (by rfl) T.set (by decide +kernel) (pa_cons (pv 0) pa_nil)) pa_nil)) (pe_callB call_len_seq (by rfl) T.len (by decide +kernel) (pa_cons (pv 0) pa_nil)) (nomark _)) (pw_or1 (pt_cmpR (op_neD hr.units) (pv 4) (pe_callB cr_sortedI (by rfl) T.sorted (by decide +kernel) (pa_cons (pv 4) pa_nil)) (nomark _))))) (pss_one (ps_ret (pe_bl))) (pss_nil))
      (pss_cons (ps_set (i := 5) sc_law_reads_right.nd rfl (Or.inr rfl) (pe_c c_places_in hr (by omega) (by rfl) (pa_cons (pv 1) pa_nil)))
      (pss_cons (ps_if (pt_not (pt_val (pe_callB (cr_all rfl) (by rfl) T.all (by decide +kernel) (pa_cons (pe_lc (own := [("_law_place", 8), ("_law_at", 6)]) (g := gTup K 2 _) (tt := tYes) (te := (tOp (rIn K false) _ _)) (by rfl) sc_law_reads_right.nd (pi_list (pv 0)) (blkOk_by (N := N_law_reads_right) (sc := defScope s_law_reads_right) (by decide +kernel)) (fun _ _ _ _ _ => pg_tup (by rfl) (pgs_cons (pg_name (i := 8) sc_law_reads_right.nd rfl (Or.inl rfl)) (pgs_cons (pg_name (i := 6) sc_law_reads_right.nd rfl (Or.inl rfl)) pgs_nil))) (fun _ _ _ _ _ => pts_nil) (fun _ _ _ _ _ => pe_cmpR op_in_seq (pv 8) (pv 5) rfl)) pa_nil)))) (pss_one (ps_ret (pe_bl))) (pss_nil))
      (pss_cons (ps_if (pt_cmpR op_ne (pe_ix ix_tup (pv 1) (pe_int) (fun _ _ => rfl)) (pe_str) (nomark _)) (pss_one (ps_ret (pe_bl))) (pss_nil))
      (pss_cons (ps_for PassesOwn.never rfl (pi_range1 (by rfl) T.range (pa_cons (pe_op op_fdiv (pe_op op_sub (pe_op op_add (pe_callB call_len_seq (by rfl) T.len (by decide +kernel) (pa_cons (pv 2) pa_nil)) (pv 3)) (pe_int)) (pv 3)) pa_nil)) (pg_name (i := 6) sc_law_reads_right.nd rfl (Or.inl rfl))
        (pss_cons (ps_set (i := 7) sc_law_reads_right.nd rfl (Or.inl rfl) (pe_slice sl_list (pv 2) (po_some (pe_op op_mul (pv 6) (pv 3))) (po_some (pe_op op_add (pe_op op_mul (pv 6) (pv 3)) (pv 3)))))
        (pss_one (ps_if (PW.pt (pw_and (pt_cmpR (op_notInD (hu65 hr)) (pe_tup (pa_cons (pe_ix ix_tup (pv 1) (pe_int) (fun _ _ => rfl)) (pa_cons (pv 6) pa_nil))) (pv 0) rfl) (pw_and1 (pt_cmpR op_gt (pe_callB cr_lenS (by rfl) T.len (by decide +kernel) (pa_cons (pe_callTy (cr_setI rfl) (by rfl) T.set (by decide +kernel) (pa_cons (pv 7) pa_nil)) pa_nil)) (pe_int) (nomark _))))) (pss_one (ps_ret (pe_bl))) (pss_nil)))))
      (pss_one (ps_ret (pe_bl)))))))), ?_⟩
    have hxl := hprs.1
    refine ⟨_, rfl, _, rfl, ⟨_, hmp⟩, fun d1 nd1 => ?_⟩
    refine lc_it walk_list (fun i H' => Ex H H' ∧ H' d1 = some (.lst ((prs.take i).map fun p => V.int (p.2 : Int)))) ⟨Ex.n nd1, upd_same⟩ (fun i H' hi hI => exL hmp hI.1) (fun i x H' H2 hi hI hy => ?_) (fun H' hI => ?_)
    · obtain ⟨e2, hd1⟩ := hI
      obtain ⟨rfl, hx⟩ := hy
      have hip : i < prs.length := by omega
      obtain ⟨qa, hq1, hq2⟩ := hprs.2 i prs[i] (List.getElem?_eq_getElem hip)
      obtain rfl := Option.some.inj (hx.symm.trans hq1)
      refine ⟨_, _, rfl, tpOf (e2 _ _ hq2), rfl, _, _, rfl, _, _, rfl, rfl, rfl, ?_⟩
      refine ⟨_, rfl, ?_⟩
      refine ⟨_, hd1, smlt (by rw [List.length_map, List.length_take]; omega), e2.mut nd1, ?_⟩
      rw [upd_same, List.take_add_one, List.getElem?_eq_getElem hip, List.map_append]
      rfl
    · obtain ⟨e2, hd1⟩ := hI
      rw [hxl, List.take_length, stZ] at hd1
      obtain ⟨rows, hr1, hr2, hr3⟩ := rows_pairs hprs
      have hrl : rows.length = xs.length := by rw [hr1, List.length_map]
      refine ⟨_, rfl, _, rows, rfl, (by rw [← hr1]; exact exL hmp e2), (fun p hp => tpOf (e2 _ _ (hr3 p hp))), by omega, (by rw [hr2]; exact nd_pairs rnd), fun a2 na2 => ?_⟩
      have e3 := e2.trans (Ex.n (o := SzO a2 rows.length) na2)
      have hd3 := Ex.n (o := SzO a2 rows.length) na2 _ _ hd1
      refine ⟨_, _, rfl, upd_same, by omega, _, rfl, _, _, rfl, .inl (exL hmp e3), rfl, _, rfl, ?_⟩
      rw [hrl] at e3 hd3 ⊢
      rw [vDT rfl]
      generalize upd H' a2 (SzO a2 xs.length) = H3 at e3 hd3
      refine ifF rfl ?_
      refine ⟨_, rfl, _, rfl, _, _, rfl, lsOf hd3, fun ns p4 pm pw np4 => ?_⟩
      have ens : ns = nZ (prs.map (·.2)) := perm_le_eq pm pw (nZ_le rst)
      have e4 := e3.trans (Ex.n (o := HO.lst (ns.map V.int)) np4)
      have hd4 := Ex.n (o := HO.lst (ns.map V.int)) np4 _ _ hd3
      have hp4 : (upd H3 p4 (.lst (ns.map V.int))) p4 = some (.lst (ns.map V.int)) := upd_same
      generalize upd H3 p4 (.lst (ns.map V.int)) = H4 at e4 hd4 hp4
      rw [ens] at hp4
      refine ⟨_, _, dp_lints (lsOf hd4), dp_lints (lsOf hp4), PySem.W.ke_shaped_ints _, PySem.W.ke_shaped_ints _, _, rfl, ?_⟩
      rw [eqv_self (PySem.W.ke_shaped_ints _)]
      refine ifF rfl ?_
      refine ⟨_, rfl, _, t, ks, rfl, hta.ex e4, hf, hk8, hd, fun p5 named H5 np5 e5 hp5 hnm hnl => ?_⟩
      have e05 := e4.trans e5
      refine ⟨_, rfl, _, rfl, ⟨_, exL hmp e05⟩, fun d6 nd6 => ?_⟩
      refine lc_it walk_list (fun i H' => Ex H5 H' ∧ H' d6 = some (.lst ((List.replicate i true).map V.bl))) ⟨Ex.n nd6, upd_same⟩ (fun i H' hi hI => exL hmp (e05.trans hI.1)) (fun i x H' H6 hi hI hy => ?_) (fun H' hI => ?_)
      · obtain ⟨e6, hd6⟩ := hI
        obtain ⟨rfl, hx⟩ := hy
        have hip : i < prs.length := by omega
        obtain ⟨qa, hq1, hq2⟩ := hprs.2 i prs[i] (List.getElem?_eq_getElem hip)
        obtain rfl := Option.some.inj (hx.symm.trans hq1)
        refine ⟨_, _, rfl, tpOf (e6 _ _ (e05 _ _ hq2)), rfl, _, _, rfl, _, _, rfl, rfl, rfl, ?_⟩
        refine ⟨_, rfl, _, rfl, _, _, rfl, .inl (lsOf (e6 _ _ hp5)), ?_, ?_, ?_⟩
        · rfl
        · exact List.all_eq_true.mpr fun z hz => by
            obtain ⟨k, _, rfl⟩ := List.mem_map.mp hz
            rfl
        · show ∃ acc, _ ∧ _ ∧ _ ∧ _
          have hin : inV (V.int ((prs[i].1 : Nat) : Int)) ((nZ named).map V.int) = true := by
            rw [mem_scal]
            exact decide_eq_true ((hnm _).mpr (rpl _ (List.getElem_mem hip)))
          rw [hin]
          refine ⟨_, hd6, smlt (by rw [List.length_map, List.length_replicate]; omega), e6.mut nd6, ?_⟩
          rw [upd_same, List.replicate_succ', List.map_append]
          rfl
      · obtain ⟨e6, hd6⟩ := hI
        have e06 := e05.trans e6
        refine ⟨_, _, rfl, lsOf hd6, _, rfl, ?_⟩
        rw [all_rep]
        refine ifF rfl ?_
        obtain ⟨tag, txs, htg, htc⟩ := rt_tag hta
        refine ⟨_, rfl, _, _, _, _, rfl, rfl, exT htg e06, at_k (k := 0) rfl rfl, rfl, _, rfl, ?_⟩
        rcases htc with ⟨rfl, p, ct, b, rfl, rfl⟩ | htc
        · refine ifF (by decide +kernel) ?_
          have hcut : (((mask.map bI).length : Int) + (long : Int) - 1) / (long : Int) = ((nSt long mask.length : Nat) : Int) := by
            rw [List.length_map]
            have e : ((mask.length : Int) + (long : Int) - 1) = ((mask.length + long - 1 : Nat) : Int) := by omega
            rw [e]
            rfl
          have hns : nSt long mask.length ≤ mask.length := nSt_le (by omega)
          refine ⟨_, rfl, _, _, rfl, .inl (exL hmk e06), _, rfl, _, _, rfl, rfl, _, _, rfl, rfl, _, rfl, _, _, rfl, rfl, (by rw [List.length_map]; exact ⟨by omega, by omega⟩), _, congrArg (fun z => [V.int z]) hcut, by omega, by omega, for_it (walk_range (lo := 0) (n := nSt long mask.length)) (fun i σ' H2 => Ex H H2 ∧ ∃ y6 y7, σ' = [some (.ref mp), some (.ref ta), some (.ref mk), some (.int (long : Int)), some (.ref d1), some (.ref p5), y6, y7, none])
            ⟨e06, _, _, rfl⟩ (fun _ _ _ _ _ => trivial) (fun i x σ' H2 H7 hi hI hy => ?_) (fun σ' H2 hI => ?_)⟩
          · obtain ⟨e7, y6, y7, rfl⟩ := hI
            obtain ⟨rfl, rfl⟩ := hy
            have hsl : i * long < mask.length := nSt_lt (by omega) hi
            have ea : (0 + (i : Int)) * (long : Int) = ((i * long : Nat) : Int) := by rw [Int.zero_add]; rfl
            have eb : (0 + (i : Int)) * (long : Int) + (long : Int) = ((i * long + long : Nat) : Int) := by rw [ea]; rfl
            have hbits : cutV (mask.map bI) (some ((0 + (i : Int)) * (long : Int))) (some ((0 + (i : Int)) * (long : Int) + (long : Int))) = ((mask.drop (i * long)).take long).map bI := by
              rw [eb, ea, cut_nat _ (by omega), ← List.map_drop, ← List.map_take, Nat.add_sub_cancel_left]
            refine ⟨_, rfl, _, rfl, _, rfl, _, _, rfl, rfl, (.inl ⟨by omega, by omega⟩), _, rfl, _, rfl, _, rfl, _, _, rfl, rfl, (.inl ⟨by omega, by omega⟩), _, rfl, _, _, rfl, rfl, _, rfl, _, _, rfl, exL hmk e7, fun p8 np8 => ?_⟩
            rw [hbits]
            have e8 := e7.trans (Ex.n (o := HO.lst (((mask.drop (i * long)).take long).map bI)) np8)
            have hp8 : (upd H7 p8 (HO.lst (((mask.drop (i * long)).take long).map bI))) p8 = some (HO.lst (((mask.drop (i * long)).take long).map bI)) := upd_same
            generalize upd H7 p8 (HO.lst (((mask.drop (i * long)).take long).map bI)) = H8 at e8 hp8
            refine ⟨_, rfl, _, _, _, _, rfl, rfl, exT htg e8, at_k (k := 1) rfl rfl, _, rfl, Nat.le_of_ble_eq_true rfl, fun p9 np9 => ?_⟩
            have htp : HO.tup [V.int (p : Int), V.int (0 + (i : Int))] = HO.tup [V.int (p : Int), V.int (i : Int)] := by rw [Int.zero_add]
            rw [htp]
            have e9 := e8.trans (Ex.n (o := HO.tup [V.int (p : Int), V.int (i : Int)]) np9)
            have hp9 : (upd H8 p9 (HO.tup [V.int (p : Int), V.int (i : Int)])) p9 = some (HO.tup [V.int (p : Int), V.int (i : Int)]) := upd_same
            have hp89 := Ex.n (o := HO.tup [V.int (p : Int), V.int (i : Int)]) np9 _ _ hp8
            generalize upd H8 p9 (HO.tup [V.int (p : Int), V.int (i : Int)]) = H9 at e9 hp9 hp89
            refine ⟨_, rfl, dP (p, i), prs.map dP, .tup (tpOf hp9) (.cons (.int _) (.cons (.int _) .nil)), .lst (exL hmp e9) (dp_pairs (hprs.keep fun a ys h => e9 _ _ h)), shp_dP _, shp_list (lay_dPs _) (dep_dPs _) (by decide), _, rfl, ?_⟩
            rw [any_dP]
            refine ifB (fun hni => ?_) (fun hni => ?_)
            · have hni2 : (p, i) ∉ prs := fun z => by
                rw [decide_eq_true z] at hni
                cases hni
              have halike := rcell p ct rfl i hi hni2
              rw [bI_map] at hp89
              refine ⟨_, rfl, _, _, rfl, lsOf hp89, (by rw [List.length_map, List.length_take, List.length_drop]; omega), fun a10 S n10 na10 hS hn10 hone => ?_⟩
              have hn1 : n10 ≤ 1 := by
                cases hb : (mask.drop (i * long)).take long with
                | nil => rw [hb] at hn10; exact Nat.le_trans hn10 (Nat.zero_le _)
                | cons x0 r0 =>
                  refine hone (if x0 = true then 1 else 0) fun j hj => ?_
                  obtain ⟨y, hy, rfl⟩ := List.mem_map.mp hj
                  rw [halike y hy x0 (by rw [hb]; exact List.mem_cons_self ..)]
              refine ⟨_, _, _, rfl, upd_same, by omega, _, _, rfl, rfl, _, rfl, ifF (dF (by omega)) ?_⟩
              exact ⟨e9.trans (Ex.n na10), _, _, rfl⟩
            · exact ⟨e9, _, _, rfl⟩
          · obtain ⟨e7, y6, y7, rfl⟩ := hI
            exact q.go e7
        · refine ifT (by rw [htc]; rfl) ?_
          exact q.go e06
end
end Pk
set_option Elab.async false
set_option linter.all false
set_option maxRecDepth 100000
set_option maxHeartbeats 4000000
set_option autoImplicit false
namespace Pk
open PySem PySem.Spec PyProof.Rows L2
/-! ### what is read, all stretches -/
def pairK (pms : List PM) (long n : Nat) (t : RT) (k : Nat) : List (Nat × Nat) := (List.range k).flatMap fun s => (seenM pms long n s t []).map fun p => (p, s)
theorem pairK_succ (pms : List PM) (long n : Nat) (t : RT) (k : Nat) : pairK pms long n t (k + 1) = pairK pms long n t k ++ (seenM pms long n k t []).map fun p => (p, k) := by
  unfold pairK
  rw [List.range_succ, List.flatMap_append]
  simp only [List.flatMap_cons, List.flatMap_nil, List.append_nil]
theorem pairK_mem {pms : List PM} {long n : Nat} {t : RT} {k : Nat} {q : Nat × Nat} : q ∈ pairK pms long n t k ↔ q.2 < k ∧ q.1 ∈ seenM pms long n q.2 t [] := by
  unfold pairK
  rw [List.mem_flatMap]
  constructor
  · rintro ⟨s, hs, h⟩
    obtain ⟨p, hp, rfl⟩ := List.mem_map.mp h
    exact ⟨List.mem_range.mp hs, hp⟩
  · rintro ⟨h1, h2⟩
    exact ⟨q.2, List.mem_range.mpr h1, List.mem_map.mpr ⟨q.1, h2, rfl⟩⟩
theorem pairK_nd (pms : List PM) (long n : Nat) (t : RT) : ∀ k, (pairK pms long n t k).Nodup
  | 0 => List.nodup_nil
  | k + 1 => by
    rw [pairK_succ]
    refine List.nodup_append.mpr ⟨pairK_nd pms long n t k, ?_, fun a ha b hb e => ?_⟩
    · exact List.pairwise_map.mpr (List.Pairwise.imp (fun {p q} hne e => hne (congrArg Prod.fst e)) (seen_nd (t := t) (S := []) List.nodup_nil))
    · obtain ⟨p, hp, rfl⟩ := List.mem_map.mp hb
      have := (pairK_mem.mp ha).1
      rw [e] at this
      exact Nat.lt_irrefl _ this
theorem pairK_st (pms : List PM) (long n : Nat) (t : RT) : ∀ k, ((pairK pms long n t k).map (·.2)).Pairwise (· ≤ ·)
  | 0 => List.Pairwise.nil
  | k + 1 => by
    rw [pairK_succ, List.map_append]
    refine List.pairwise_append.mpr ⟨pairK_st pms long n t k, ?_, fun a ha b hb => ?_⟩
    · rw [List.map_map]
      exact List.pairwise_map.mpr (List.pairwise_iff_forall_sublist.mpr fun {a b} _ => Nat.le_refl _)
    · obtain ⟨p, hp, rfl⟩ := List.mem_map.mp ha
      obtain ⟨q, hq, rfl⟩ := List.mem_map.mp hb
      obtain ⟨r, hr, rfl⟩ := List.mem_map.mp hq
      exact Nat.le_of_lt (pairK_mem.mp hp).1
theorem seen_pl {pms : List PM} {long n s : Nat} {t : RT} {p : Nat} (h : p ∈ seenM pms long n s t []) : p ∈ plR t := by
  rcases seen_sub h with h | h
  · cases h
  · exact h
theorem seen_8 {pms : List PM} {long n s : Nat} {t : RT} {ks : List Bool} (hf : RFit ks t) (h8 : ks.length ≤ 8) : (seenM pms long n s t []).length ≤ 8 := by
  have := nat_nodup_len _ (List.range 8) (seen_nd (pms := pms) (long := long) (n := n) (s := s) (t := t) (S := []) List.nodup_nil) fun p hp => List.mem_range.mpr (Nat.lt_of_lt_of_le (plR_lt hf p (seen_pl hp)) h8)
  rwa [List.length_range] at this
theorem pairK_len {pms : List PM} {long n : Nat} {t : RT} {ks : List Bool} (hf : RFit ks t) (h8 : ks.length ≤ 8) : ∀ k, (pairK pms long n t k).length ≤ 8 * k
  | 0 => Nat.zero_le _
  | k + 1 => by
    rw [pairK_succ, List.length_append, List.length_map]
    have := pairK_len (pms := pms) (long := long) (n := n) hf h8 k
    have := seen_8 (pms := pms) (long := long) (n := n) (s := k) hf h8
    omega
theorem mask_len {pms : List PM} {long n : Nat} {t : RT} (hl : 0 < long) : (maskM pms long n t).length = n := by
  rw [mask_rows hl, List.length_map]
  unfold rowsM
  rw [List.length_map, List.length_range]
theorem mask_get {pms : List PM} {long n : Nat} {t : RT} (hl : 0 < long) {k : Nat} (hk : k < n) : (maskM pms long n t)[k]? = some (rowB (rowS pms k) t) := by
  rw [mask_rows hl]
  unfold rowsM
  rw [List.getElem?_map, List.getElem?_map, List.getElem?_range hk]
  rfl
theorem row_cel {pms : List PM} {k p : Nat} (h : p < pms.length) : cel (rowS pms k) p = ((pmAt pms p).cells[k]?).getD .non := by
  unfold cel rowS pmAt
  rw [List.getElem?_map, List.getElem?_eq_getElem h]
  rfl
theorem take_drop_mem {α : Type} {l : List α} {a m : Nat} {x : α} (h : x ∈ (l.drop a).take m) : ∃ i, i < m ∧ l[a + i]? = some x := by
  obtain ⟨i, hi, e⟩ := List.getElem_of_mem h
  rw [List.length_take, List.length_drop] at hi
  refine ⟨i, by omega, ?_⟩
  rw [List.getElem_take, List.getElem_drop] at e
  rw [List.getElem?_eq_getElem (by omega), e]
theorem mem_take_drop {α : Type} {l : List α} {a m i : Nat} {x : α} (hi : i < m) (h : l[a + i]? = some x) : x ∈ (l.drop a).take m := by
  have hl : a + i < l.length := (List.getElem?_eq_some_iff.mp h).1
  refine List.mem_of_getElem? (i := i) ?_
  rw [List.getElem?_take_of_lt hi, List.getElem?_drop, h]
theorem rd_ok {pms : List PM} {long n : Nat} {t : RT} (ga : GAll long n pms) (hf : RFit (kdsOf pms) t) : RdOk (pairM pms long n t) t (maskM pms long n t) long := by
  have hl : 0 < long := ga.l1
  have h8 : (kdsOf pms).length ≤ 8 := by unfold kdsOf; rw [List.length_map]; exact ga.p2
  have hns := ga.ns
  refine ⟨pairK_nd pms long n t _, ?_, pairK_st pms long n t _, fun p hp => seen_pl (pairK_mem.mp hp).2, ?_⟩
  · have := pairK_len (pms := pms) (long := long) (n := n) hf h8 (nSt long n)
    show (pairK pms long n t (nSt long n)).length < 999
    omega
  · rintro p ct rfl s hs hno
    rw [mask_len hl] at hs
    obtain ⟨k, hk, hct, _⟩ := hf
    obtain ⟨hp, hpb⟩ := kds_at hk
    have hnot : p ∉ seenM pms long n s (.cell p ct) [] := fun z => hno (pairK_mem.mpr ⟨hs, z⟩)
    have hlk : lkP pms long s p ct ≠ wdS := fun e => by
      apply hnot
      show p ∈ if (!decide (V.str (lkP pms long s p ct) = V.str wdS)) = true then [] else hasP [] p
      rw [e, decide_eq_true rfl]
      exact hasP_mem [] p
    have hpm : pmAt pms p ∈ pms := by
      unfold pmAt
      rw [List.getElem?_eq_getElem hp]
      exact List.getElem_mem hp
    have hok := ga.ok _ hpm
    have hcase := lk_cases (b := k) (cs := stP pms long s p) (lo := (pmAt pms p).lo s) (hi := (pmAt pms p).hi s) (t := ct) (fun c hc => by
      have := hok.kd c (stc_mem hc)
      rw [hpb] at this
      exact this.v) (hok.note s hs) hct
    have key : ∀ x ∈ ((maskM pms long n (.cell p ct)).drop (s * long)).take long, ∃ c ∈ stP pms long s p, x = meetB c ct := fun x hx => by
      obtain ⟨i, hi, e⟩ := take_drop_mem hx
      have hin : s * long + i < n := by
        have := (List.getElem?_eq_some_iff.mp e).1
        rwa [mask_len hl] at this
      rw [mask_get hl hin] at e
      have e := (Option.some.inj e).symm
      have hlt : s * long + i < (pmAt pms p).cells.length := by rw [hok.len]; exact hin
      refine ⟨(pmAt pms p).cells[s * long + i], mem_take_drop hi (List.getElem?_eq_getElem hlt), ?_⟩
      rw [e]
      show meetB (cel (rowS pms (s * long + i)) p) ct = _
      rw [row_cel hp, List.getElem?_eq_getElem hlt]
      rfl
    intro x hx y hy
    obtain ⟨c, hc, rfl⟩ := key x hx
    obtain ⟨c2, hc2, rfl⟩ := key y hy
    rcases hcase with ⟨_, h⟩ | ⟨_, h⟩ | h
    · rw [h c hc, h c2 hc2]
    · rw [h c hc, h c2 hc2]
    · exact absurd h hlk
theorem row_fit {pms : List PM} {long n k : Nat} (ga : GAll long n pms) (hk : k < n) : RowFit (kdsOf pms) (rowS pms k) := fun i b hb => by
  obtain ⟨hp, hpb⟩ := kds_at hb
  have hpm : pmAt pms i ∈ pms := by
    unfold pmAt
    rw [List.getElem?_eq_getElem hp]
    exact List.getElem_mem hp
  have hok := ga.ok _ hpm
  have hlt : k < (pmAt pms i).cells.length := by rw [hok.len]; exact hk
  refine ⟨(pmAt pms i).cells[k], ?_, ?_⟩
  · have : rowS pms k = pms.map fun p => (p.cells[k]?).getD .non := rfl
    rw [this, List.getElem?_map, List.getElem?_eq_getElem hp]
    have e : pmAt pms i = pms[i] := by unfold pmAt; rw [List.getElem?_eq_getElem hp]; rfl
    rw [← e, Option.map_some, List.getElem?_eq_getElem hlt]
    rfl
  · have := hok.kd _ (List.getElem_mem hlt)
    rw [hpb] at this
    exact this.v
theorem ck_flat {b : Bool} {c : V} (h : CK b c) : FlatC c := by
  cases b with
  | true =>
    have h : NumC c := h
    cases h with
    | non => exact .inl rfl
    | @int i g => exact .inr (.inl ⟨i, rfl⟩)
  | false =>
    have h : TxtC c := h
    cases h with
    | non => exact .inl rfl
    | @str z g => exact .inr (.inr ⟨z, rfl⟩)
theorem row_flat {pms : List PM} {long n k : Nat} (ga : GAll long n pms) (hk : k < n) : ∀ c ∈ rowS pms k, FlatC c := fun c hc => by
  obtain ⟨p, hp, rfl⟩ := List.mem_map.mp hc
  have hok := ga.ok p hp
  have hlt : k < p.cells.length := by rw [hok.len]; exact hk
  rw [List.getElem?_eq_getElem hlt]
  exact ck_flat (hok.kd _ (List.getElem_mem hlt))
end Pk
set_option Elab.async false
set_option linter.all false
set_option maxRecDepth 100000
set_option maxHeartbeats 4000000
set_option autoImplicit false
namespace Pk
open PySem PySem.Spec PyProof.Rows L2
open C8 (Cal Met Mak pe_c pe_mk pe_mt pe_mt0 pe_gc)
section
variable {P : Program} {w : World} {K : PySem.W.Frag} {mg : Str → Option Value} {base : Heap} {CG CP upA : Addr}
/-! ### _law_right -/
theorem shp_mp (ns : List Int) (ps : List (Nat × Nat)) : SeqAt.shaped (.tuple [.list (ns.map .int), .list (ps.map dP)]) = true := by
  have h1 := SeqAt.canLay_of_shaped (PySem.W.ke_shaped_ints ns)
  have h2 := lay_dPs ps
  have h3 := dep_dPs ps
  have h4 : PyData.depthAll (ns.map PyData.int) ≤ 0 := depAll fun d hd => by
    obtain ⟨i, _, rfl⟩ := List.mem_map.mp hd
    simp [PyData.depth]
  have h5 : PyData.canLayAll0 (ns.map PyData.int) = true := layAll fun d hd => by
    obtain ⟨i, _, rfl⟩ := List.mem_map.mp hd
    simp [PyData.canLay0]
  refine shp_tuple (n := 3) ?_ ?_ (by decide)
  · simp only [PyData.canLayAll0, PyData.canLay0, h2, h5, Bool.and_true]
  · simp only [PyData.depthAll, PyData.depth]
    omega
theorem rgV_eq (m : Nat) : rgV 0 (m : Int) = rngV m := by
  unfold rgV rngV
  rw [Int.sub_zero, Int.toNat_natCast]
  exact List.map_congr_left fun i _ => by rw [Int.zero_add]
theorem pick_len (l : List Bool) (f : Nat → List V) (k : Nat) : (pickR l f k).length ≤ k := by
  unfold pickR
  rw [List.length_map]
  exact Nat.le_trans (List.length_filter_le _ _) (by rw [List.length_range]; exact Nat.le_refl _)
theorem pick_mem {l : List Bool} {f : Nat → List V} {k : Nat} {r : List V} (h : r ∈ pickR l f k) : ∃ j, j < k ∧ r = f j := by
  unfold pickR at h
  obtain ⟨j, hj, rfl⟩ := List.mem_map.mp h
  exact ⟨j, List.mem_range.mp (List.mem_filter.mp hj).1, rfl⟩
theorem same_rows {H : Hp} {a b : Addr} {xs ys : List V} {rs : List (List V)} (ha : H a = some (.lst xs)) (hb : H b = some (.lst ys)) (h1 : RowsAt H rs xs) (h2 : RowsAt H rs ys) (hl : rs.length ≤ 1000) (hr : ∀ r ∈ rs, r.length ≤ 1000 ∧ ∀ c ∈ r, FlatC c) : SameAt H 3 (.ref a) (.ref b) := by
  refine .inr ⟨a, b, xs, ys, rfl, rfl, .inr ⟨ha, hb⟩, by rw [h1.1, h2.1], by rw [h1.1]; exact hl, fun i u v hu hv => ?_⟩
  have hi : i < rs.length := by rw [← h1.1]; exact lt_of_at hu
  obtain ⟨q1, g1, k1⟩ := h1.2 i rs[i] (List.getElem?_eq_getElem hi)
  obtain ⟨q2, g2, k2⟩ := h2.2 i rs[i] (List.getElem?_eq_getElem hi)
  obtain rfl := Option.some.inj (hu.symm.trans g1)
  obtain rfl := Option.some.inj (hv.symm.trans g2)
  obtain ⟨hrl, hrf⟩ := hr rs[i] (List.getElem_mem hi)
  refine .inr ⟨q1, q2, rs[i], rs[i], rfl, rfl, .inl ⟨k1, k2⟩, rfl, hrl, fun j u v hu hv => ?_⟩
  obtain rfl := Option.some.inj (hu.symm.trans hv)
  exact .inl ⟨rfl, hrf u (List.mem_of_getElem? hu)⟩
def sp_law_right (K : PySem.W.Frag) (CG CP : Addr) (d : Nat) : Sp := fun vs H Q _ => ∃ (pl rw_ ta : Addr) (long n : Nat) (pms : List PM) (rows : List V) (t : RT), vs = [.ref pl, .ref rw_, .ref ta, .int (long : Int)] ∧ PilsAt CP H long n pms pl ∧ GAll long n pms ∧ H rw_ = some (.lst rows) ∧ RowsAt H (rowsM pms n) rows ∧
  RTAt K H t ta ∧ RFit (kdsOf pms) t ∧ t.dep + 1 < d ∧ 2 ^ (t.dep + 2) ≤ 800 ∧ ∀ m H2, Ex H H2 → H2 m = some (.lst ((maskM pms long n t).map bI)) → Q (.ref m) H2
theorem ok_law_right (T : Gf K mg CG CP upA) (D : Dfn K mg "_law_right" s_law_right) (d : Nat) (c_sieved : Cal P w K mg base (13 + d + 1) "sieved" (sp_sieved K CG CP d) []) (c_picked : Cal P w K mg base 13 "picked" (sp_picked K CG CP) []) (c_law_same : Cal P w K mg base (1 + 3) "_law_same" (sp_law_same K 3) []) (c_law_reads_right : Cal P w K mg base (1 + d + 1) "_law_reads_right" (sp_law_reads_right K d) []) (c_row_meets : Cal P w K mg base (4 + d) "row_meets" (sp_row_meets K d) []) : Cal P w K mg base (15 + d) "_law_right" (sp_law_right K CG CP d) [] := by
  rw [show 15 + d = 14 + d + 1 by omega]
  refine cal_mk D sc_law_right (fun _ _ _ _ _ _ us hl => match us, hl with | [_, _, _, _], _ => rfl) (fun vs H Q E h => ?_) (fun f cdv A outer s H vs Q E hr h => ?_)
  · obtain ⟨_, _, _, _, _, _, _, _, rfl, _⟩ := h; rfl
  · obtain ⟨pl, rw_, ta, long, n, pms, rows, t, rfl, hP, ga, hrw, hrows, hta, hf, hd, hpw, q⟩ := h
    refine ⟨_, pss_cons (ps_asg (pe_c c_sieved hr (by omega) (by rfl) (pa_cons (pv 0) (pa_cons (pv 2) pa_nil))) (pg_tup (by rfl) (pgs_cons (pg_name (i := 4) sc_law_right.nd rfl (Or.inl rfl)) (pgs_cons (pg_name (i := 5) sc_law_right.nd rfl (Or.inl rfl)) pgs_nil))))
      (pss_cons (ps_if (PW.pt (pw_or (pt_cmpR (op_neD hr.units) (pv 4) (pe_lc (own := [("_law_row", 8)]) (g := gName 8) (tt := tYes) (by rfl) sc_law_right.nd (pi_list (pv 1)) (blkOk_by (N := N_law_right) (sc := defScope s_law_right) (by decide +kernel)) (fun _ _ _ _ _ => pg_name (i := 8) sc_law_right.nd rfl (Or.inl rfl)) (fun _ _ _ _ _ => pts_nil) (fun _ _ _ _ _ => pe_callTy call_int1 (by rfl) T.int (by decide +kernel) (pa_cons (pe_c c_row_meets hr (by omega) (by rfl) (pa_cons (pv 8) (pa_cons (pv 2) pa_nil))) pa_nil))) (nomark _)) (pw_or1 (pt_not (pt_val (pe_c c_law_reads_right hr (by omega) (by rfl) (pa_cons (pv 5) (pa_cons (pv 2) (pa_cons (pv 4) (pa_cons (pv 3) pa_nil)))))))))) (pss_one (ps_ret (pe_non))) (pss_nil))
      (pss_cons (ps_set (i := 6) sc_law_right.nd rfl (Or.inl rfl) (pe_ix ix_tup (pe_c c_picked hr (by omega) (by rfl) (pa_cons (pv 0) (pa_cons (pv 4) (pa_cons (pe_listRg rfl (by rfl) T.list (prg_1 (by rfl) T.range (pe_callB call_len_seq (by rfl) T.len (by decide +kernel) (pa_cons (pv 0) pa_nil)))) pa_nil)))) (pe_int) (fun _ _ => rfl)))
      (pss_cons (ps_if (pt_not (pt_val (pe_c c_law_same hr (by omega) (by rfl) (pa_cons (pv 6) (pa_cons (pe_lc (own := [("_law_row", 8), ("_law_bit", 9)]) (g := gTup K 2 _) (by rfl) sc_law_right.nd (pi_zip (by rfl) T.zip (pa_cons (pv 1) (pa_cons (pv 4) pa_nil))) (blkOk_by (N := N_law_right) (sc := defScope s_law_right) (by decide +kernel)) (fun _ _ _ _ _ => pg_tup (by rfl) (pgs_cons (pg_name (i := 8) sc_law_right.nd rfl (Or.inl rfl)) (pgs_cons (pg_name (i := 9) sc_law_right.nd rfl (Or.inl rfl)) pgs_nil))) (fun _ _ _ _ _ => pts_one (pt_cmpR op_eq (pv 9) (pe_int) (nomark _))) (fun _ _ _ _ _ => pv 8)) pa_nil))))) (pss_one (ps_ret (pe_non))) (pss_nil))
      (pss_cons (ps_set (i := 7) sc_law_right.nd rfl (Or.inl rfl) (pe_c c_sieved hr (by omega) (by rfl) (pa_cons (pv 0) (pa_cons (pe_tup (pa_cons (pe_str) (pa_cons (pv 2) pa_nil))) pa_nil))))
      (pss_cons (ps_if (pt_cmpR (op_neD hr.units) (pv 7) (pe_tup (pa_cons (pe_lc (own := [("_law_bit", 9)]) (g := gName 9) (tt := tYes) (by rfl) sc_law_right.nd (pi_list (pv 4)) (blkOk_by (N := N_law_right) (sc := defScope s_law_right) (by decide +kernel)) (fun _ _ _ _ _ => pg_name (i := 9) sc_law_right.nd rfl (Or.inl rfl)) (fun _ _ _ _ _ => pts_nil) (fun _ _ _ _ _ => pe_op op_sub (pe_int) (pv 9))) (pa_cons (pv 5) pa_nil))) (nomark _)) (pss_one (ps_ret (pe_non))) (pss_nil))
      (pss_one (ps_ret (pv 4)))))))), ?_⟩
    have hl0 : 0 < long := ga.l1
    have hn100 := ga.n1
    have hk8 : (kdsOf pms).length ≤ 8 := by unfold kdsOf; rw [List.length_map]; exact ga.p2
    have hpw1 : 2 ^ (t.dep + 1) ≤ 800 := Nat.le_trans (Nat.pow_le_pow_right (by decide) (by omega)) hpw
    have hrl : rows.length = n := by
      rw [hrows.1]
      unfold rowsM
      rw [List.length_map, List.length_range]
    refine ⟨_, rfl, _, rfl, pl, ta, long, n, pms, t, rfl, hP, ga, hta, hf, by omega, hpw1, fun p1 m r xs H1 e1 hm hr1 hxs hp1 => ?_⟩
    refine ⟨_, _, rfl, tpOf hp1, rfl, _, _, rfl, _, _, rfl, rfl, ?_⟩
    refine ⟨_, rfl, _, rfl, _, rfl, ⟨_, exL (lsOf hrw) e1⟩, fun d1 nd1 => ?_⟩
    refine lc_it walk_list (fun i H' => Ex H1 H' ∧ H' d1 = some (.lst (((maskM pms long n t).take i).map bI))) ⟨Ex.n nd1, upd_same⟩ (fun i H' hi hI => exL (lsOf hrw) (e1.trans hI.1)) (fun i x H' H2 hi hI hy => ?_) (fun H' hI => ?_)
    · obtain ⟨e2, hd1⟩ := hI
      obtain ⟨rfl, hx⟩ := hy
      have hin : i < n := by omega
      obtain ⟨qa, hq1, hq2⟩ := hrows.2 i (rowS pms i) (by unfold rowsM; rw [List.getElem?_map, List.getElem?_range hin]; rfl)
      obtain rfl := Option.some.inj (hx.symm.trans hq1)
      refine ⟨rfl, ?_⟩
      refine ⟨_, rfl, _, rfl, qa, ta, kdsOf pms, rowS pms i, t, rfl, tpOf (e2 _ _ (e1 _ _ hq2)), row_fit ga hin, (hta.ex e1).ex e2, hf, by omega, fun H3 e3 => ?_⟩
      refine .inr ⟨_, rfl, ?_⟩
      refine ⟨_, e3 _ _ hd1, smlt (by rw [List.length_map, List.length_take]; omega), (e2.trans e3).mut nd1, ?_⟩
      rw [upd_same, List.take_add_one, mask_get hl0 hin, List.map_append]
      rw [← bI_int]
      rfl
    · obtain ⟨e2, hd1⟩ := hI
      rw [hrl, List.take_of_length_le (Nat.le_of_eq (mask_len hl0))] at hd1
      have e02 := e1.trans e2
      have hm2 := e2 _ _ hm
      have dpm : ∀ {H : Hp} {a : Addr}, H a = some (.lst ((maskM pms long n t).map bI)) → Dp K H (.ref a) (.list (((maskM pms long n t).map fun b => if b = true then (1 : Int) else 0).map .int)) := fun h => dp_mask (lsOf h)
      refine ⟨_, _, dpm hm2, dpm hd1, PySem.W.ke_shaped_ints _, PySem.W.ke_shaped_ints _, _, rfl, ?_⟩
      rw [eqv_self (PySem.W.ke_shaped_ints _)]
      refine ifF rfl ?_
      have hxs2 := hxs.keep fun a ys h => e2 _ _ h
      refine ⟨_, rfl, _, rfl, _, rfl, _, rfl, r, ta, m, long, xs, pairM pms long n t, t, kdsOf pms, maskM pms long n t, rfl, lsOf (e2 _ _ hr1), hxs2, hta.ex e02, hf, hk8, by omega, lsOf hm2, by rw [mask_len hl0]; exact hn100, ga.l1, ga.l2, rd_ok ga hf, fun H3 e3 => ?_⟩
      have e03 := e02.trans e3
      refine ⟨_, rfl, ifF rfl ?_⟩
      obtain ⟨ps, hpl, hpsl, hps⟩ := hP.mono e03
      refine ⟨_, rfl, _, rfl, _, rfl, _, _, rfl, .inl (lsOf hpl), ?_⟩
      have hpb : pms.length ≤ 8 := ga.p2
      refine ⟨_, rfl, RgOk.of_le (by omega) (by omega) (by omega) (by omega), fun q4 nq4 => ?_⟩
      rw [hpsl, rgV_eq]
      have e4 := e03.trans (Ex.n (o := HO.lst (rngV pms.length)) nq4)
      have hq4 : (upd H3 q4 (HO.lst (rngV pms.length))) q4 = some (HO.lst (rngV pms.length)) := upd_same
      have hm4 := Ex.n (o := HO.lst (rngV pms.length)) nq4 _ _ (e3 _ _ hm2)
      have hr4 := Ex.n (o := HO.lst (rngV pms.length)) nq4 _ _ (e3 _ _ (e2 _ _ hr1))
      have hxs4 : PairsAt (upd H3 q4 (HO.lst (rngV pms.length))) (pairM pms long n t) xs := hxs2.keep fun a ys h => Ex.n (o := HO.lst (rngV pms.length)) nq4 _ _ (e3 _ _ h)
      generalize upd H3 q4 (HO.lst (rngV pms.length)) = H4 at e4 hq4 hm4 hr4 hxs4
      refine ⟨pl, m, q4, long, n, pms, maskM pms long n t, rfl, hP.mono e4, ga, lsOf hm4, mask_len hl0, lsOf hq4, fun p5 fl r5 ys H5 e5 hfl hys hp5 => ?_⟩
      have e05 := e4.trans e5
      have hm5 := e5 _ _ hm4
      have hr5 := e5 _ _ hr4
      have hxs5 := hxs4.keep fun a ys h => e5 _ _ h
      refine ⟨_, _, _, _, rfl, rfl, tpOf hp5, at_k (k := 0) rfl rfl, ?_⟩
      have hrows5 := hrows.keep fun a ys h => e05 _ _ h
      refine ⟨_, rfl, _, rfl, _, rfl, _, _, _, _, rfl, lsOf (e05 _ _ hrw), lsOf hm5, fun d6 nd6 => ?_⟩
      refine lc_it (walk_zip (n := n) (by rw [hrl, List.length_map, mask_len hl0, Nat.min_self])) (fun i H' => Ex H5 H' ∧ ∃ zs, H' d6 = some (.lst zs) ∧ RowsAt H5 (pickR (maskM pms long n t) (rowS pms) i) zs) ⟨Ex.n nd6, [], upd_same, RowsAt.nil⟩ (fun i H' hi hI => ⟨lsOf (hI.1 _ _ (e05 _ _ hrw)), lsOf (hI.1 _ _ hm5)⟩) (fun i x H' H6 hi hI hy => ?_) (fun H' hI => ?_)
      · obtain ⟨e6, zs, hd6, hzs⟩ := hI
        obtain ⟨T', x1, y1, rfl, nT, rfl, hx, hy⟩ := hy
        obtain ⟨qa, hq1, hq2⟩ := hrows5.2 i (rowS pms i) (by unfold rowsM; rw [List.getElem?_map, List.getElem?_range hi]; rfl)
        obtain rfl := Option.some.inj (hx.symm.trans hq1)
        have hy : ((maskM pms long n t).map bI)[i]? = some y1 := hy
        rw [List.getElem?_map, mask_get hl0 hi] at hy
        obtain rfl := Option.some.inj hy
        have hzl : zs.length ≤ 100 := by
          rw [hzs.1]
          exact Nat.le_trans (pick_len _ _ _) (by omega)
        refine ⟨_, _, rfl, tpOf upd_same, rfl, _, _, rfl, _, _, rfl, rfl, rfl, ?_⟩
        refine ⟨_, rfl, by cases rowB (rowS pms i) t <;> rfl, _, rfl, ?_⟩
        have hpk := pickR_succ (maskM pms long n t) (rowS pms) i
        rw [mask_get hl0 hi] at hpk
        refine ifB (fun hb => ?_) (fun hb => ?_)
        · have hb' : rowB (rowS pms i) t = true := by
            cases hc : rowB (rowS pms i) t with
            | true => rfl
            | false => rw [hc] at hb; exact absurd hb (by decide +kernel)
          rw [hb'] at hpk
          refine ⟨_, rfl, _, Ex.n nT _ _ hd6, smlt (by omega), (e6.trans (Ex.n nT)).mut nd6, _, upd_same, ?_⟩
          rw [hpk]
          refine hzs.app ⟨rfl, fun j r' hr' => ?_⟩
          cases j with
          | zero => obtain rfl := Option.some.inj hr'; exact ⟨qa, rfl, hq2⟩
          | succ j => cases hr'
        · have hb' : rowB (rowS pms i) t = false := by
            cases hc : rowB (rowS pms i) t with
            | false => rfl
            | true => rw [hc] at hb; exact absurd hb (by decide +kernel)
          rw [hb'] at hpk
          refine ⟨e6.trans (Ex.n nT), zs, Ex.n nT _ _ hd6, ?_⟩
          rw [hpk]
          show RowsAt _ (_ ++ []) _
          rw [List.append_nil]
          exact hzs
      · obtain ⟨e6, zs, hd6, hzs⟩ := hI
        have e06 := e05.trans e6
        refine ⟨_, _, rfl, same_rows (e6 _ _ hfl) hd6 (hys.keep fun a ys h => e6 _ _ h) (hzs.keep fun a ys h => e6 _ _ h) (Nat.le_trans (pick_len _ _ _) (by omega)) (fun r' hr' => ?_), fun H7 e7 => ?_⟩
        · obtain ⟨j, hj, rfl⟩ := pick_mem hr'
          refine ⟨?_, row_flat ga hj⟩
          unfold rowS
          rw [List.length_map]
          omega
        refine ⟨_, rfl, ifF rfl ?_⟩
        have e07 := e06.trans e7
        have hm7 := e7 _ _ (e6 _ _ hm5)
        have hr7 := e7 _ _ (e6 _ _ hr5)
        have hxs7 := (hxs5.keep fun a ys h => e6 _ _ h).keep fun a ys h => e7 _ _ h
        refine ⟨_, rfl, _, rfl, Nat.le_of_ble_eq_true rfl, fun p8 np8 => ?_⟩
        have e8 := e07.trans (Ex.n (o := HO.tup [V.str "not", .ref ta]) np8)
        have hp8 : (upd H7 p8 (HO.tup [V.str "not", .ref ta])) p8 = some (HO.tup [V.str "not", .ref ta]) := upd_same
        have hm8 := Ex.n (o := HO.tup [V.str "not", .ref ta]) np8 _ _ hm7
        have hr8 := Ex.n (o := HO.tup [V.str "not", .ref ta]) np8 _ _ hr7
        have hxs8 := hxs7.keep fun a ys h => Ex.n (o := HO.tup [V.str "not", .ref ta]) np8 _ _ h
        generalize upd H7 p8 (HO.tup [V.str "not", .ref ta]) = H8 at e8 hp8 hm8 hr8 hxs8
        refine ⟨pl, p8, long, n, pms, .neg t, rfl, hP.mono e8, ga, ⟨ta, tpOf hp8, hta.ex e8⟩, hf, hd, hpw, fun p9 m9 r9 xs9 H9 e9 hm9 hr9 hxs9 hp9 => ?_⟩
        have e09 := e8.trans e9
        have hpair : pairM pms long n (.neg t) = pairM pms long n t := rfl
        have hmask : maskM pms long n (.neg t) = (maskM pms long n t).map (!·) := by
          rw [mask_rows hl0, mask_rows hl0, List.map_map]
          rfl
        rw [hpair] at hxs9
        rw [hmask] at hm9
        refine ⟨_, rfl, _, rfl, _, rfl, ⟨_, lsOf (e9 _ _ hm8)⟩, fun d10 nd10 => ?_⟩
        refine lc_it walk_list (fun i H' => Ex H9 H' ∧ H' d10 = some (.lst ((((maskM pms long n t).map (!·)).take i).map bI))) ⟨Ex.n nd10, upd_same⟩ (fun i H' hi hI => lsOf (hI.1 _ _ (e9 _ _ hm8))) (fun i x H' H10 hi hI hy => ?_) (fun H' hI => ?_)
        · obtain ⟨e10, hd10⟩ := hI
          obtain ⟨rfl, hx⟩ := hy
          rw [List.getElem?_map] at hx
          cases hb : (maskM pms long n t)[i]? with
          | none => rw [hb] at hx; cases hx
          | some bb =>
            rw [hb] at hx
            obtain rfl := Option.some.inj hx
            refine ⟨rfl, ?_⟩
            refine ⟨_, rfl, _, _, rfl, bI_int bb, ?_⟩
            have hil : i < (maskM pms long n t).length := lt_of_at hb
            rw [mask_len hl0] at hil
            refine ⟨_, hd10, smlt (by rw [List.length_map, List.length_take]; omega), e10.mut nd10, ?_⟩
            rw [upd_same, List.take_add_one, List.getElem?_map, hb, List.map_append]
            cases bb <;> rfl
        · obtain ⟨e10, hd10⟩ := hI
          rw [List.length_map, List.take_of_length_le (by rw [List.length_map]; exact Nat.le_refl _)] at hd10
          have hr10 := e10 _ _ (e9 _ _ hr8)
          refine ⟨_, rfl, Nat.le_of_ble_eq_true rfl, fun p11 np11 => ?_⟩
          have eZ := Ex.n (o := HO.tup [V.ref d10, .ref r]) np11
          have dq : ∀ (H : Hp) (a m' r' : Addr) (ys : List V), H a = some (.tup [.ref m', .ref r']) → H m' = some (.lst (((maskM pms long n t).map (!·)).map bI)) → H r' = some (.lst ys) → PairsAt H (pairM pms long n t) ys →
              Dp K H (.ref a) (.tuple [.list ((((maskM pms long n t).map (!·)).map fun b => if b = true then (1 : Int) else 0).map .int), .list ((pairM pms long n t).map dP)]) := fun H a m' r' ys h1 h2 h3 h4 =>
            .tup (tpOf h1) (.cons (dp_mask (lsOf h2)) (.cons (.lst (lsOf h3) (dp_pairs h4)) .nil))
          have shq : SeqAt.shaped (.tuple [.list ((((maskM pms long n t).map (!·)).map fun b => if b = true then (1 : Int) else 0).map .int), .list ((pairM pms long n t).map dP)]) = true := shp_mp _ _
          refine ⟨_, _, dq _ p9 m9 r9 xs9 (eZ _ _ (e10 _ _ hp9)) (eZ _ _ (e10 _ _ hm9)) (eZ _ _ (e10 _ _ hr9)) (hxs9.keep fun a ys h => eZ _ _ (e10 _ _ h)), dq _ p11 d10 r xs upd_same (eZ _ _ hd10) (eZ _ _ hr10) (hxs8.keep fun a ys h => eZ _ _ (e10 _ _ (e9 _ _ h))), shq, shq, _, rfl, ?_⟩
          rw [eqv_self shq]
          refine ifF rfl ?_
          exact ⟨_, rfl, q m _ ((e09.trans e10).trans eZ) (eZ _ _ (e10 _ _ (e9 _ _ hm8)))⟩
end
end Pk
set_option Elab.async false
set_option linter.all false
set_option maxRecDepth 100000
set_option maxHeartbeats 4000000
set_option autoImplicit false
namespace Pk
open PySem PySem.Spec PyProof.Rows L2
open C8 (Cal Met Mak pe_c pe_mk pe_mt pe_mt0 pe_gc)
section
variable {P : Program} {w : World} {K : PySem.W.Frag} {mg : Str → Option Value} {base : Heap} {CG CP upA : Addr}
/-! ### law -/
def rmL (L : List Addr) (H : Hp) : Hp := fun a => if a ∈ L then none else H a
theorem rmL_get {L : List Addr} {H : Hp} {a : Addr} {o : HO} (h : rmL L H a = some o) : H a = some o ∧ a ∉ L := by
  unfold rmL at h
  by_cases c : a ∈ L
  · rw [if_pos c] at h; cases h
  · rw [if_neg c] at h; exact ⟨h, c⟩
theorem rmL_of {L : List Addr} {H : Hp} {a : Addr} {o : HO} (h : H a = some o) (c : a ∉ L) : rmL L H a = some o := by
  unfold rmL
  rw [if_neg c]
  exact h
theorem rmL_upd {L : List Addr} {H H2 : Hp} {d : Addr} {o : HO} (e : Ex H H2) (hd : d ∈ L) : Ex (rmL L H) (rmL L (upd H2 d o)) := fun a u h => by
  obtain ⟨h1, h2⟩ := rmL_get h
  refine rmL_of ?_ h2
  rw [upd_ne (fun z => h2 (by rw [z]; exact hd))]
  exact e _ _ h1
theorem rmL_rmS {sd c d : Addr} {H : Hp} : Ex (rmL [sd, c, d] H) (rmS sd c H) := fun a o h => by
  obtain ⟨h1, h2⟩ := rmL_get h
  simp only [List.mem_cons, List.not_mem_nil, or_false, not_or] at h2
  exact rmS_of h1 h2.1 h2.2.1
def rowC (css : List (List V)) (k : Nat) : List V := css.map fun cs => (cs[k]?).getD .non
def PilsL (CP : Addr) (L : List Addr) (H : Hp) (long many : Nat) (ks : List Bool) (css : List (List V)) (i : Nat) (ps : List V) (pms : List PM) : Prop := ps.length = i ∧ pms.length = i ∧ ∀ (j : Nat) (pm : PM), pms[j]? = some pm →
  (∃ a, ps[j]? = some (.ref a) ∧ PilAt CP (rmL L H) long many pm a) ∧ pm.Ok long many ∧ css[j]? = some pm.cells ∧ ks[j]? = some pm.b
theorem pil_new {CP : Addr} {L : List Addr} {x dx C : Addr} {H H6 : Hp} {o : HO} {d : Addr} {long many : Nat} {pm : PM} (hL : ∀ a ∈ L, ∃ o, H a = some o) (hd : d ∈ L) (nx : H x = none)
    (h : PilAt CP (newH x (upd (upd H dx (.own x)) x (.ins C dx [])) H6) long many pm x) : PilAt CP (rmL L (upd H6 d o)) long many pm x := h.mono fun a u hu => by
  obtain ⟨h1, h2⟩ := newH_of hu
  have hal : a ∉ L := fun z => by
    obtain ⟨o2, ho2⟩ := hL a z
    rcases h2 with h2 | h2
    · rw [h2, nx] at ho2; cases ho2
    · by_cases e1 : a = x
      · rw [e1, nx] at ho2; cases ho2
      · rw [upd_ne e1] at h2
        by_cases e2 : a = dx
        · rw [e2, upd_same] at h2; cases h2
        · rw [upd_ne e2, ho2] at h2; cases h2
  refine rmL_of ?_ hal
  rw [upd_ne (fun z => hal (by rw [z]; exact hd))]
  exact h1
theorem PilsL.snoc {CP : Addr} {L : List Addr} {H H2 : Hp} {o : HO} {d x : Addr} {long many i : Nat} {ks : List Bool} {css : List (List V)} {ps : List V} {pms : List PM} {pm : PM} (h : PilsL CP L H long many ks css i ps pms) (e : Ex H H2) (hd : d ∈ L)
    (hp : PilAt CP (rmL L (upd H2 d o)) long many pm x) (ok : pm.Ok long many) (hc : css[i]? = some pm.cells) (hk : ks[i]? = some pm.b) : PilsL CP L (upd H2 d o) long many ks css (i + 1) (ps ++ [.ref x]) (pms ++ [pm]) := by
  obtain ⟨h1, h2, h3⟩ := h
  refine ⟨by rw [List.length_append, h1]; rfl, by rw [List.length_append, h2]; rfl, fun j q hq => ?_⟩
  rcases Nat.lt_or_ge j pms.length with hj | hj
  · rw [List.getElem?_append_left hj] at hq
    obtain ⟨⟨a, g1, g2⟩, g3, g4, g5⟩ := h3 j q hq
    exact ⟨⟨a, by rw [List.getElem?_append_left (by omega)]; exact g1, g2.mono (rmL_upd e hd)⟩, g3, g4, g5⟩
  · rw [List.getElem?_append_right hj] at hq
    have hj0 : j - pms.length = 0 := by
      rcases Nat.eq_zero_or_pos (j - pms.length) with e | e
      · exact e
      · rw [List.getElem?_eq_none (by exact e)] at hq; cases hq
    rw [hj0] at hq
    obtain rfl := Option.some.inj hq
    have hji : j = i := by omega
    subst hji
    exact ⟨⟨x, by rw [List.getElem?_append_right (by omega), h1, Nat.sub_self]; rfl, hp⟩, ok, hc, hk⟩
theorem list_ext2 {α : Type} {a b : List α} (hl : a.length = b.length) (h : ∀ (i : Nat) (x : α), a[i]? = some x → b[i]? = some x) : a = b := by
  refine List.ext_getElem? fun i => ?_
  cases e : a[i]? with
  | some x => rw [h i x e]
  | none =>
    rw [List.getElem?_eq_none_iff] at e
    rw [eq_comm, List.getElem?_eq_none_iff]
    omega
theorem PilsL.fin {CP : Addr} {sd c d : Addr} {H : Hp} {long many : Nat} {ks : List Bool} {css : List (List V)} {ps : List V} {pms : List PM} (h : PilsL CP [sd, c, d] H long many ks css ks.length ps pms) (hcs : css.length = ks.length) (hd : H d = some (.lst ps)) (n1 : d ≠ sd) (n2 : d ≠ c) :
    PilsAt CP (rmS sd c H) long many pms d ∧ kdsOf pms = ks ∧ (∀ k, rowS pms k = rowC css k) ∧ ∀ pm ∈ pms, pm.Ok long many := by
  obtain ⟨h1, h2, h3⟩ := h
  refine ⟨⟨ps, rmS_of hd n1 n2, by omega, fun i pm hi => ?_⟩, ?_, fun k => ?_, fun pm hp => ?_⟩
  · obtain ⟨⟨a, g1, g2⟩, _⟩ := h3 i pm hi
    exact ⟨a, g1, g2.mono rmL_rmS⟩
  · refine list_ext2 (by unfold kdsOf; rw [List.length_map, h2]) fun i x hx => ?_
    unfold kdsOf at hx
    rw [List.getElem?_map] at hx
    cases e : pms[i]? with
    | none => rw [e] at hx; cases hx
    | some pm =>
      rw [e] at hx
      obtain rfl := Option.some.inj hx
      exact (h3 i pm e).2.2.2
  · refine list_ext2 (by unfold rowS rowC; rw [List.length_map, List.length_map, h2, hcs]) fun i x hx => ?_
    unfold rowS at hx
    unfold rowC
    rw [List.getElem?_map] at hx ⊢
    cases e : pms[i]? with
    | none => rw [e] at hx; cases hx
    | some pm =>
      rw [e] at hx
      rw [(h3 i pm e).2.2.1]
      exact hx
  · obtain ⟨i, hi, e⟩ := List.getElem_of_mem hp
    exact (h3 i pm (by rw [List.getElem?_eq_getElem hi, e])).2.1
end
end Pk
set_option Elab.async false
set_option linter.all false
set_option maxRecDepth 100000
set_option maxHeartbeats 4000000
set_option autoImplicit false
namespace Pk
open PySem PySem.Spec PyProof.Rows L2
open C8 (Cal Met Mak pe_c pe_mk pe_mt pe_mt0 pe_gc)
section
variable {P : Program} {w : World} {K : PySem.W.Frag} {mg : Str → Option Value} {base : Heap} {CG CP upA : Addr}
/-! ### law -/
def sp_law (K : PySem.W.Frag) : Sp := fun vs H Q _ => ∃ (a : Addr) (ns : List Int), vs = [.ref a] ∧ SqL K H a (ns.map V.int) ∧ ∀ H2, Q (.bl true) H2
theorem rows_exS {sd c : Addr} {H H' : Hp} {n : Nat} {rs : List (List V)} {xs : List V} (L : LSt H sd c n) (h : RowsAt H rs xs) : RowsAt (rmS sd c H) rs xs := by
  obtain ⟨ns, t, h1, h2, _⟩ := L.ex
  exact h.keep fun p ys g => rmS_of g (fun z => by rw [z, h1] at g; cases g) (fun z => by rw [z, h2] at g; cases g)
theorem pw_le {k : Nat} (h : k ≤ 8) : 2 ^ k ≤ 800 := Nat.le_trans (Nat.pow_le_pow_right (by decide) h) (by decide)
theorem cst_le {e : Nat} (h : e ≤ 2) : cstT e ≤ 5000 := by
  rcases (show e = 0 ∨ e = 1 ∨ e = 2 by omega) with rfl | rfl | rfl <;> decide
theorem dp_sv {K : PySem.W.Frag} {H : Hp} {a m r : Addr} {mask : List Bool} {prs : List (Nat × Nat)} {xs : List V} (h1 : H a = some (.tup [.ref m, .ref r])) (h2 : H m = some (.lst (mask.map bI))) (h3 : H r = some (.lst xs)) (h4 : PairsAt H prs xs) :
    Dp K H (.ref a) (.tuple [.list ((mask.map fun b => if b = true then (1 : Int) else 0).map .int), .list (prs.map dP)]) :=
  .tup (tpOf h1) (.cons (dp_mask (lsOf h2)) (.cons (.lst (lsOf h3) (dp_pairs h4)) .nil))
theorem mask_dm1 {pms : List PM} {long n : Nat} {a b : RT} (hl : 0 < long) : maskM pms long n (.neg (.eith (.neg a) (.neg b))) = maskM pms long n (.both a b) := by
  rw [mask_rows hl, mask_rows hl]
  exact List.map_congr_left fun r _ => row_dm1 r a b
theorem mask_dm2 {pms : List PM} {long n : Nat} {a b : RT} (hl : 0 < long) : maskM pms long n (.neg (.both (.neg a) (.neg b))) = maskM pms long n (.eith a b) := by
  rw [mask_rows hl, mask_rows hl]
  exact List.map_congr_left fun r _ => row_dm2 r a b
theorem pair_dm1 {pms : List PM} {long n : Nat} {a b : RT} : pairM pms long n (.neg (.eith (.neg a) (.neg b))) = pairM pms long n (.both a b) := by
  unfold pairM
  congr 1
  funext s
  rw [seen_dm1]
theorem pair_dm2 {pms : List PM} {long n : Nat} {a b : RT} : pairM pms long n (.neg (.both (.neg a) (.neg b))) = pairM pms long n (.eith a b) := by
  unfold pairM
  congr 1
  funext s
  rw [seen_dm2]
/-- what stands through the turns -/
structure Stn (K : PySem.W.Frag) (CP : Addr) (Z : Hp) (ks : List Bool) (many long other : Nat) (cas : List Addr) (rows : List V) (pms pms2 : List PM) (kl d4 d5 d6 d8 : Addr) : Prop where
  kl : SqL K Z kl (ks.map kdV)
  co : ColsAt K Z ks many cas d4
  rw_ : Z d5 = some (.lst rows)
  ro : RowsAt Z (rowsM pms many) rows
  p1 : PilsAt CP Z long many pms d6
  p2 : PilsAt CP Z other many pms2 d8
theorem Stn.ex {K : PySem.W.Frag} {CP : Addr} {Z Z' : Hp} {ks : List Bool} {many long other : Nat} {cas : List Addr} {rows : List V} {pms pms2 : List PM} {kl d4 d5 d6 d8 : Addr} (h : Stn K CP Z ks many long other cas rows pms pms2 kl d4 d5 d6 d8) (e : Ex Z Z') : Stn K CP Z' ks many long other cas rows pms pms2 kl d4 d5 d6 d8 :=
  ⟨exL h.kl e, h.co.ex e, e _ _ h.rw_, h.ro.keep fun a ys g => e _ _ g, h.p1.mono e, h.p2.mono e⟩
theorem bk_none {sd c p : Addr} {H H' : Hp} {n : Nat} (e : ExS sd c H H') (L : LSt H' sd c n) (np : H' p = none) : H p = none := by
  obtain ⟨n1, n2⟩ := L.fresh np
  cases g : H p with
  | none => rfl
  | some o =>
    have := (rmS_get (e p o (rmS_of g n1 n2))).1
    rw [this] at np
    cases np
theorem len_law (vs : List V) (H : Hp) (Q : VK) (E : XK) (h : sp_law K vs H Q E) : vs.length = ["_law_script"].length := by
  obtain ⟨_, _, rfl, _⟩ := h; rfl
theorem bdy_law (T : Gf K mg CG CP upA) (c_law_begin : Cal P w K mg base 1 "_law_begin" (sp_law_begin K) []) (c_law_kinds : Cal P w K mg base 2 "_law_kinds" (sp_law_kinds K) []) (c_law_shape : Cal P w K mg base 2 "_law_shape" (sp_law_shape K) []) (c_law_cells : Cal P w K mg base 3 "_law_cells" (sp_law_cells K) []) (c_Pillar : Mak P w K mg base 9 "Pillar" CP (sp_Pillar_init K CP) []) (c_law_take : Cal P w K mg base 1 "_law_take" (sp_law_take K) []) (c_law_test : Cal P w K mg base (5 + 3) "_law_test" (sp_law_test K 3) []) (c_law_right : Cal P w K mg base (15 + 6) "_law_right" (sp_law_right K CG CP 6) []) (c_sieved : Cal P w K mg base (13 + 6 + 1) "sieved" (sp_sieved K CG CP 6) []) : Bdy P w K mg base "law" s_law N_law 21 (sp_law K) := by
    intro f cdv A outer s H vs Q E hr h
    obtain ⟨a, ns, rfl, hS, q⟩ := h
    refine ⟨_, pss_cons (ps_set (i := 1) sc_law.nd rfl (Or.inr rfl) (pe_c c_law_begin hr (by omega) (by rfl) (pa_cons (pv 0) pa_nil)))
      (pss_cons (ps_set (i := 2) sc_law.nd rfl (Or.inl rfl) (pe_c c_law_kinds hr (by omega) (by rfl) (pa_cons (pv 1) pa_nil)))
      (pss_cons (ps_asg (pe_c c_law_shape hr (by omega) (by rfl) (pa_cons (pv 1) pa_nil)) (pg_tup (by rfl) (pgs_cons (pg_name (i := 3) sc_law.nd rfl (Or.inr rfl)) (pgs_cons (pg_name (i := 4) sc_law.nd rfl (Or.inr rfl)) pgs_nil))))
      (pss_cons (ps_set (i := 5) sc_law.nd rfl (Or.inr rfl) (pe_lc (own := [("_law_kind", 15)]) (g := gName 15) (tt := tYes) (by rfl) sc_law.nd (pi_list (pv 2)) (blkOk_by (N := N_law) (sc := defScope s_law) (by decide +kernel)) (fun _ _ _ _ _ => pg_name (i := 15) sc_law.nd rfl (Or.inl rfl)) (fun _ _ _ _ _ => pts_nil) (fun _ _ _ _ _ => pe_c c_law_cells hr (by omega) (by rfl) (pa_cons (pv 1) (pa_cons (pv 15) (pa_cons (pv 3) pa_nil))))))
      (pss_cons (ps_setLc (i := 6) (own := [("_law_k", 16)]) (g := gName 16) (tt := tYes) (te := (tCB (rTupS K) (tCons (tLc (iList K _) _ tYes (tOp (rIxL K) _ _) _) tNil))) (by rfl) sc_law.nd rfl rfl (sw_true rfl rfl rfl (by decide +kernel)) (pi_range1 (by rfl) T.range (pa_cons (pv 3) pa_nil)) (blkOk_by (N := N_law) (sc := defScope s_law) (by decide +kernel)) (fun _ _ _ _ _ => pg_name (i := 16) sc_law.nd rfl (Or.inr rfl)) (fun _ _ _ _ _ => pts_nil) (fun _ _ _ _ _ => pe_callTy call_tuple_of (by rfl) T.tuple (by decide +kernel) (pa_cons (pe_lc (own := [("_law_column", 17)]) (g := gName 17) (tt := tYes) (te := (tOp (rIxL K) _ _)) (by rfl) sc_law.nd (pi_list (pv 5)) (blkOk_by (by kernel_rfl)) (fun _ _ _ _ _ => pg_name (i := 17) sc_law.nd rfl (Or.inl rfl)) (fun _ _ _ _ _ => pts_nil) (fun _ _ _ _ _ => pe_ix ix_list (pv 17) (pv 16) (fun _ _ => rfl))) pa_nil)))
      (pss_cons (ps_setLc (i := 7) (own := [("_law_column", 17)]) (g := gName 17) (tt := tYes) (by rfl) sc_law.nd rfl rfl (sw_true rfl rfl rfl (by decide +kernel)) (pi_list (pv 5)) (blkOk_by (N := N_law) (sc := defScope s_law) (by decide +kernel)) (fun _ _ _ _ _ => pg_name (i := 17) sc_law.nd rfl (Or.inl rfl)) (fun _ _ _ _ _ => pts_nil) (fun _ _ _ _ _ => pe_mk c_Pillar hr (by omega) (by rfl) (pa_cons (pv 4) (pa_cons (pv 17) pa_nil))))
      (pss_cons (ps_set (i := 8) sc_law.nd rfl (Or.inr rfl) (pe_op op_add (pe_int) (pe_c c_law_take hr (by omega) (by rfl) (pa_cons (pv 1) (pa_cons (pe_int) pa_nil)))))
      (pss_cons (ps_setLc (i := 9) (own := [("_law_column", 17)]) (g := gName 17) (tt := tYes) (by rfl) sc_law.nd rfl rfl (sw_true rfl rfl rfl (by decide +kernel)) (pi_list (pv 5)) (blkOk_by (N := N_law) (sc := defScope s_law) (by decide +kernel)) (fun _ _ _ _ _ => pg_name (i := 17) sc_law.nd rfl (Or.inl rfl)) (fun _ _ _ _ _ => pts_nil) (fun _ _ _ _ _ => pe_mk c_Pillar hr (by omega) (by rfl) (pa_cons (pv 8) (pa_cons (pv 17) pa_nil))))
      (pss_cons (ps_for PassesOwn.never rfl (pi_range1 (by rfl) T.range (pa_cons (pe_op op_add (pe_int) (pe_c c_law_take hr (by omega) (by rfl) (pa_cons (pv 1) (pa_cons (pe_int) pa_nil)))) pa_nil)) (pg_name (i := 10) sc_law.nd rfl (Or.inl rfl))
        (pss_cons (ps_set (i := 11) sc_law.nd rfl (Or.inl rfl) (pe_c c_law_test hr (by omega) (by rfl) (pa_cons (pv 1) (pa_cons (pv 2) (pa_cons (pv 5) (pa_cons (pe_c c_law_take hr (by omega) (by rfl) (pa_cons (pv 1) (pa_cons (pe_int) pa_nil))) pa_nil))))))
        (pss_cons (ps_set (i := 12) sc_law.nd rfl (Or.inl rfl) (pe_c c_law_test hr (by omega) (by rfl) (pa_cons (pv 1) (pa_cons (pv 2) (pa_cons (pv 5) (pa_cons (pe_c c_law_take hr (by omega) (by rfl) (pa_cons (pv 1) (pa_cons (pe_int) pa_nil))) pa_nil))))))
        (pss_cons (ps_for PassesOwn.never rfl (pi_list (pe_lst (pa_cons (pv 11) (pa_cons (pe_tup (pa_cons (pe_str) (pa_cons (pv 11) (pa_cons (pv 12) pa_nil)))) (pa_cons (pe_tup (pa_cons (pe_str) (pa_cons (pv 12) (pa_cons (pv 11) pa_nil)))) (pa_cons (pe_tup (pa_cons (pe_str) (pa_cons (pv 12) (pa_cons (pv 11) pa_nil)))) pa_nil)))))) (pg_name (i := 13) sc_law.nd rfl (Or.inl rfl))
          (pss_cons (ps_set (i := 14) sc_law.nd rfl (Or.inl rfl) (pe_c c_law_right hr (by omega) (by rfl) (pa_cons (pv 7) (pa_cons (pv 6) (pa_cons (pv 13) (pa_cons (pv 4) pa_nil))))))
          (pss_one (ps_if (PW.pt (pw_or (pt_cmpR op_isN (pv 14) pe_non (nomark _)) (pw_or1 (pt_cmpR (op_neD hr.units) (pe_c c_law_right hr (by omega) (by rfl) (pa_cons (pv 9) (pa_cons (pv 6) (pa_cons (pv 13) (pa_cons (pv 8) pa_nil))))) (pv 14) (nomark _))))) (pss_one (ps_ret (pe_bl))) (pss_nil)))))
        (pss_cons (ps_if (pt_cmpR (op_neD hr.units) (pe_c c_sieved hr (by omega) (by rfl) (pa_cons (pv 7) (pa_cons (pe_tup (pa_cons (pe_str) (pa_cons (pe_tup (pa_cons (pe_str) (pa_cons (pe_tup (pa_cons (pe_str) (pa_cons (pv 11) pa_nil))) (pa_cons (pe_tup (pa_cons (pe_str) (pa_cons (pv 12) pa_nil))) pa_nil)))) pa_nil))) pa_nil))) (pe_c c_sieved hr (by omega) (by rfl) (pa_cons (pv 7) (pa_cons (pe_tup (pa_cons (pe_str) (pa_cons (pv 11) (pa_cons (pv 12) pa_nil)))) pa_nil))) (nomark _)) (pss_one (ps_ret (pe_bl))) (pss_nil))
        (pss_one (ps_if (pt_cmpR (op_neD hr.units) (pe_c c_sieved hr (by omega) (by rfl) (pa_cons (pv 7) (pa_cons (pe_tup (pa_cons (pe_str) (pa_cons (pe_tup (pa_cons (pe_str) (pa_cons (pe_tup (pa_cons (pe_str) (pa_cons (pv 11) pa_nil))) (pa_cons (pe_tup (pa_cons (pe_str) (pa_cons (pv 12) pa_nil))) pa_nil)))) pa_nil))) pa_nil))) (pe_c c_sieved hr (by omega) (by rfl) (pa_cons (pv 7) (pa_cons (pe_tup (pa_cons (pe_str) (pa_cons (pv 11) (pa_cons (pv 12) pa_nil)))) pa_nil))) (nomark _)) (pss_one (ps_ret (pe_bl))) (pss_nil))))))))
      (pss_one (ps_ret (pe_bl))))))))))), ?_⟩
    refine ⟨_, rfl, a, ns, rfl, hS, fun sd c H1 e1 L1 => ?_⟩
    refine ⟨_, rfl, sd, c, 0, rfl, L1, by omega, fun kl ks H2 k1 k8 e2 L2 nkl hkl => ?_⟩
    obtain ⟨kl1, kl2⟩ := L1.fresh nkl
    refine ⟨_, rfl, sd, c, 20, rfl, L2, by omega, fun p3 many long H3 hmany hl1 hl2 e3 L3 hp3 p31 p32 => ?_⟩
    refine ⟨_, _, rfl, tpOf hp3, rfl, _, _, rfl, _, _, rfl, rfl, ?_⟩
    have hkl3 := L2.keep e3 hkl kl1 kl2
    refine ⟨_, rfl, _, rfl, ⟨_, lsOf hkl3⟩, fun d4 nd4 => ?_⟩
    obtain ⟨d41, d42⟩ := L3.fresh nd4
    have ekl : (ks.map kdV).length = ks.length := List.length_map ..
    refine lc_it walk_list (fun i H' => ExS sd c H3 H' ∧ LSt H' sd c (40 + 5000 * i) ∧ ∃ (cas : List Addr) (css : List (List V)), H' d4 = some (.lst (cas.map V.ref)) ∧ cas.length = i ∧ css.length = i ∧
      ∀ (j : Nat) (k : Bool), j < i → ks[j]? = some k → ∃ ca cs, cas[j]? = some ca ∧ css[j]? = some cs ∧ H' ca = some (.lst cs) ∧ ca ≠ d4 ∧ ca ≠ sd ∧ ca ≠ c ∧ cs.length = many ∧ ∀ x ∈ cs, CK k x)
      ⟨.of (Ex.n nd4), L3.mut d41 d42, [], [], upd_same, rfl, rfl, fun j k hj => absurd hj (Nat.not_lt_zero _)⟩ (fun i H' hi hI => lsOf (L3.keep hI.1 hkl3 kl1 kl2)) (fun i x H' H5 hi hI hy => ?_) (fun H' hI => ?_)
    · obtain ⟨e4, L4, cas, css, hd4, hcl, hcsl, hcol⟩ := hI
      obtain ⟨rfl, hx⟩ := hy
      rw [ekl] at hi
      have hki : ks[i]? = some ks[i] := List.getElem?_eq_getElem hi
      rw [List.getElem?_map, hki] at hx
      obtain rfl := Option.some.inj hx
      refine ⟨rfl, ?_⟩
      refine ⟨_, rfl, _, rfl, _, rfl, sd, c, ks[i], many, _, rfl, L4, by omega, hmany, fun ca cs H6 nca hca hcsl2 hck e6 L6 => ?_⟩
      obtain ⟨ca1, ca2⟩ := L4.fresh nca
      have hcad : ca ≠ d4 := fun z => by rw [z, hd4] at nca; cases nca
      have hd6 := L4.keep e6 hd4 d41 d42
      refine ⟨_, hd6, smlt (by rw [List.length_map]; omega), (e4.trans e6).mut nd4, (L6.up (by omega)).mut d41 d42, cas ++ [ca], css ++ [cs], ?_, by rw [List.length_append, hcl]; rfl, by rw [List.length_append, hcsl]; rfl, fun j k hj hk => ?_⟩
      · rw [upd_same, List.map_append]
        rfl
      · rcases Nat.lt_or_ge j i with h | h
        · obtain ⟨ca', cs', g1, g2, g3, g4, g5, g6, g7⟩ := hcol j k h hk
          refine ⟨ca', cs', by rw [List.getElem?_append_left (by omega)]; exact g1, by rw [List.getElem?_append_left (by omega)]; exact g2, ?_, g4, g5, g6, g7⟩
          rw [upd_ne g4]
          exact L4.keep e6 g3 g5 g6
        · obtain rfl : j = i := by omega
          obtain rfl := Option.some.inj (hki.symm.trans hk)
          refine ⟨ca, cs, by rw [List.getElem?_append_right (by omega), hcl, Nat.sub_self]; rfl, by rw [List.getElem?_append_right (by omega), hcsl, Nat.sub_self]; rfl, ?_, hcad, ca1, ca2, hcsl2, hck⟩
          rw [upd_ne hcad]
          exact hca
    obtain ⟨e4, L4, cas, css, hd4, hcl, hcsl, hcol⟩ := hI
    rw [ekl] at L4 hcl hcsl hcol
    have L4 := L4.up (show 40 + 5000 * ks.length ≤ 50000 by omega)
    have hcol4 : ∀ (j : Nat) (k : Bool), ks[j]? = some k → ∃ ca cs, cas[j]? = some ca ∧ css[j]? = some cs ∧ H' ca = some (.lst cs) ∧ ca ≠ sd ∧ ca ≠ c ∧ cs.length = many ∧ ∀ x ∈ cs, CK k x := fun j k hk => by
      obtain ⟨ca, cs, g1, g2, g3, g4, g5, g6, g7⟩ := hcol j k (lt_of_at hk) hk
      exact ⟨ca, cs, g1, g2, g3, g5, g6, g7⟩
    have hkl4 := L3.keep e4 hkl3 kl1 kl2
    clear hcol
    refine ⟨_, rfl, _, rfl, by omega, by omega, fun d5 nd5 => ?_⟩
    refine lc_it (walk_range (lo := 0) (n := many)) (fun i H5 => Ex H' H5 ∧ ∃ xs, H5 d5 = some (.lst xs) ∧ RowsAt H5 ((List.range i).map (rowC css)) xs) ⟨Ex.n nd5, [], upd_same, RowsAt.nil⟩ (fun _ _ _ _ => trivial) (fun i x H5 H6 hi hI hy => ?_) (fun H5 hI => ?_)
    · obtain ⟨e5, xs, hd5, hxs⟩ := hI
      obtain ⟨rfl, rfl⟩ := hy
      refine ⟨rfl, ?_⟩
      refine ⟨_, rfl, _, rfl, ⟨_, lsOf (e5 _ _ hd4)⟩, fun d6 nd6 => ?_⟩
      have ecl : (cas.map V.ref).length = ks.length := by rw [List.length_map, hcl]
      refine lc_it walk_list (fun j H7 => Ex H6 H7 ∧ H7 d6 = some (.lst ((rowC css i).take j))) ⟨Ex.n nd6, upd_same⟩ (fun j H7 hj hJ => lsOf (hJ.1 _ _ (e5 _ _ hd4))) (fun j y H7 H8 hj hJ hy => ?_) (fun H7 hJ => ?_)
      · obtain ⟨e7, hd6⟩ := hJ
        obtain ⟨rfl, hy⟩ := hy
        rw [ecl] at hj
        obtain ⟨ca, cs, g1, g2, g3, g4, g5, g6, g7⟩ := hcol4 j ks[j] (List.getElem?_eq_getElem hj)
        rw [List.getElem?_map, g1] at hy
        obtain rfl := Option.some.inj hy
        have hil : i < cs.length := by omega
        refine ⟨rfl, ?_⟩
        refine ⟨_, rfl, _, rfl, _, _, _, _, rfl, rfl, lsOf (e7 _ _ (e5 _ _ g3)), at_k (k := i) (List.getElem?_eq_getElem hil) (by omega), ?_⟩
        refine ⟨_, hd6, smlt (by rw [List.length_take]; omega), e7.mut nd6, ?_⟩
        have er : (rowC css i)[j]? = some cs[i] := by
          unfold rowC
          rw [List.getElem?_map, g2, Option.map_some, List.getElem?_eq_getElem hil]
          rfl
        rw [upd_same, List.take_add_one, er]
        rfl
      · obtain ⟨e7, hd6⟩ := hJ
        rw [ecl, List.take_of_length_le (by unfold rowC; rw [List.length_map]; omega)] at hd6
        refine ⟨_, _, rfl, .inl ⟨lsOf hd6, fun p np => ?_⟩⟩
        have eP := e7.trans (Ex.n (o := HO.tup (rowC css i)) np)
        have hd5' := eP _ _ hd5
        have hxl : xs.length = i := by rw [hxs.1, List.length_map, List.length_range]
        refine ⟨_, hd5', smlt (by omega), (e5.trans eP).mut nd5, _, upd_same, ?_⟩
        rw [List.range_succ, List.map_append]
        refine ((hxs.keep fun a ys h => eP _ _ h).app ⟨rfl, fun j r hr => ?_⟩).keep fun a ys h => tupK hd5' h
        cases j with
        | zero => obtain rfl := Option.some.inj hr; exact ⟨p, rfl, upd_same⟩
        | succ j => cases hr
    obtain ⟨e5, rows, hd5, hrows⟩ := hI
    obtain ⟨d51, d52⟩ := L4.fresh nd5
    have L5 := L4.mono e5
    have hd45 := e5 _ _ hd4
    have hkl5 := e5 _ _ hkl4
    have hcol5 : ∀ (j : Nat) (k : Bool), ks[j]? = some k → ∃ ca cs, cas[j]? = some ca ∧ css[j]? = some cs ∧ H5 ca = some (.lst cs) ∧ ca ≠ sd ∧ ca ≠ c ∧ cs.length = many ∧ ∀ x ∈ cs, CK k x := fun j k hk => by
      obtain ⟨ca, cs, g1, g2, g3, g4⟩ := hcol4 j k hk
      exact ⟨ca, cs, g1, g2, e5 _ _ g3, g4⟩
    clear hcol4
    have ecl : (cas.map V.ref).length = ks.length := by rw [List.length_map, hcl]
    refine ⟨_, rfl, _, rfl, ⟨_, lsOf hd45⟩, fun d6 nd6 => ?_⟩
    obtain ⟨d61, d62⟩ := L5.fresh nd6
    obtain ⟨uns, ut, uS1, uS2, _⟩ := L5.ex
    refine lc_it walk_list (fun i H' => Ex H5 H' ∧ ∃ ps pms, H' d6 = some (.lst ps) ∧ PilsL CP [sd, c, d6] H' long many ks css i ps pms) ⟨Ex.n nd6, [], [], upd_same, rfl, rfl, fun j pm h => by cases h⟩ (fun i H' hi hI => lsOf (hI.1 _ _ hd45)) (fun i x H' H6 hi hI hy => ?_) (fun H' hI => ?_)
    · obtain ⟨e6, ps, pms, hps, hpl⟩ := hI
      obtain ⟨rfl, hy⟩ := hy
      rw [ecl] at hi
      have hki : ks[i]? = some ks[i] := List.getElem?_eq_getElem hi
      obtain ⟨ca, cs, g1, g2, g3, g4, g5, g6, g7⟩ := hcol5 i ks[i] hki
      rw [List.getElem?_map, g1] at hy
      obtain rfl := Option.some.inj hy
      refine ⟨rfl, ?_⟩
      refine ⟨_, rfl, _, rfl, fun x dx nx ndx hdx => ?_⟩
      have hca := e6 _ _ g3
      have e7 : Ex H6 (upd (upd H6 dx (.own x)) x (.ins CP dx [])) := by
        refine (Ex.n ndx).trans (Ex.n ?_)
        rw [upd_ne hdx.symm]
        exact nx
      refine ⟨ks[i], x, dx, ca, _, long, cs, rfl, rfl, upd_same, lsOf (e7 _ _ hca), g7, hl1, hl2, by omega, fun pm H8 hpc hpb hok e8 hpa => ⟨rfl, ?_⟩⟩
      have e68 : Ex H6 H8 := fun a o h => e8 a o (ne_of_none h nx) (e7 _ _ h)
      have hpsl := hpl.1
      refine ⟨ps, e68 _ _ hps, smlt (by omega), (e6.trans e68).mut nd6, ps ++ [.ref x], pms ++ [pm], upd_same, ?_⟩
      rw [g6] at hpa hok
      have hLs : ∀ a ∈ [sd, c, d6], ∃ o, H6 a = some o := fun a ha => by
        simp only [List.mem_cons, List.not_mem_nil, or_false] at ha
        rcases ha with rfl | rfl | rfl
        · exact ⟨_, e6 _ _ uS1⟩
        · exact ⟨_, e6 _ _ uS2⟩
        · exact ⟨_, hps⟩
      exact hpl.snoc e68 (by simp) (pil_new hLs (by simp) nx hpa) hok (by rw [g2, hpc]) (by rw [hki, hpb])
    obtain ⟨e6, ps, pms, hd6, hpil⟩ := hI
    rw [ecl] at hpil
    have L6 := L5.mono e6
    obtain ⟨hP1, hk1', hrow1, hok1⟩ := hpil.fin (by rw [hcsl]) hd6 d61 d62
    have hZr := rows_exS (H' := H') L6 (hrows.keep fun a ys h => e6 _ _ h)
    have hZ5 : rmS sd c H' d5 = some (.lst rows) := rmS_of (e6 _ _ hd5) d51 d52
    refine ⟨_, rfl, sd, c, 64, _, rfl, L6, by omega, by decide, by decide, fun w0 H7 w1 w2 e7 L7 => ?_⟩
    refine ⟨_, _, rfl, rfl, ?_⟩
    have hd47 := L6.keep e7 (e6 _ _ hd45) d41 d42
    have hkl7 := L6.keep e7 (e6 _ _ hkl5) kl1 kl2
    have hcol7 : ∀ (j : Nat) (k : Bool), ks[j]? = some k → ∃ ca cs, cas[j]? = some ca ∧ css[j]? = some cs ∧ H7 ca = some (.lst cs) ∧ ca ≠ sd ∧ ca ≠ c ∧ cs.length = many ∧ ∀ x ∈ cs, CK k x := fun j k hk => by
      obtain ⟨ca, cs, g1, g2, g3, g4, g5, g6⟩ := hcol5 j k hk
      exact ⟨ca, cs, g1, g2, L6.keep e7 (e6 _ _ g3) g4 g5, g4, g5, g6⟩
    obtain ⟨other, hother⟩ : ∃ other : Nat, 1 + w0 = (other : Int) := ⟨(1 + w0).toNat, by omega⟩
    have ho1 : 1 ≤ other := by omega
    have ho2 : other ≤ 64 := by omega
    refine ⟨_, rfl, _, rfl, ⟨_, lsOf hd47⟩, fun d8 nd8 => ?_⟩
    obtain ⟨d81, d82⟩ := L7.fresh nd8
    obtain ⟨vns, vt, vS1, vS2, _⟩ := L7.ex
    refine lc_it walk_list (fun i H' => Ex H7 H' ∧ ∃ ps pms, H' d8 = some (.lst ps) ∧ PilsL CP [sd, c, d8] H' other many ks css i ps pms) ⟨Ex.n nd8, [], [], upd_same, rfl, rfl, fun j pm h => by cases h⟩ (fun i H' hi hI => lsOf (hI.1 _ _ hd47)) (fun i x H' H6 hi hI hy => ?_) (fun H8 hI => ?_)
    · obtain ⟨e6, ps, pms, hps, hpl⟩ := hI
      obtain ⟨rfl, hy⟩ := hy
      rw [ecl] at hi
      have hki : ks[i]? = some ks[i] := List.getElem?_eq_getElem hi
      obtain ⟨ca, cs, g1, g2, g3, g4, g5, g6, g7⟩ := hcol7 i ks[i] hki
      rw [List.getElem?_map, g1] at hy
      obtain rfl := Option.some.inj hy
      refine ⟨rfl, ?_⟩
      refine ⟨_, rfl, _, rfl, fun x dx nx ndx hdx => ?_⟩
      have hca := e6 _ _ g3
      have e7 : Ex H6 (upd (upd H6 dx (.own x)) x (.ins CP dx [])) := by
        refine (Ex.n ndx).trans (Ex.n ?_)
        rw [upd_ne hdx.symm]
        exact nx
      refine ⟨ks[i], x, dx, ca, _, other, cs, rfl, hother, upd_same, lsOf (e7 _ _ hca), g7, ho1, ho2, by omega, fun pm H8 hpc hpb hok e8 hpa => ⟨rfl, ?_⟩⟩
      have e68 : Ex H6 H8 := fun a o h => e8 a o (ne_of_none h nx) (e7 _ _ h)
      have hpsl := hpl.1
      refine ⟨ps, e68 _ _ hps, smlt (by omega), (e6.trans e68).mut nd8, ps ++ [.ref x], pms ++ [pm], upd_same, ?_⟩
      rw [g6] at hpa hok
      have hLs : ∀ a ∈ [sd, c, d8], ∃ o, H6 a = some o := fun a ha => by
        simp only [List.mem_cons, List.not_mem_nil, or_false] at ha
        rcases ha with rfl | rfl | rfl
        · exact ⟨_, e6 _ _ vS1⟩
        · exact ⟨_, e6 _ _ vS2⟩
        · exact ⟨_, hps⟩
      exact hpl.snoc e68 (by simp) (pil_new hLs (by simp) nx hpa) hok (by rw [g2, hpc]) (by rw [hki, hpb])
    obtain ⟨e8, ps2, pms2, hd8, hpil2⟩ := hI
    rw [ecl] at hpil2
    have L8 := L7.mono e8
    obtain ⟨hP2, hk2', hrow2, hok2⟩ := hpil2.fin (by rw [hcsl]) hd8 d81 d82
    have e78 := e7.trans (ExS.of (sd := sd) (c := c) e8)
    have hrm : (List.range many).map (rowC css) = rowsM pms many := by
      unfold rowsM
      exact List.map_congr_left fun k _ => (hrow1 k).symm
    have hrm2 : rowsM pms2 many = rowsM pms many := by
      unfold rowsM
      exact List.map_congr_left fun k _ => (hrow2 k).trans (hrow1 k).symm
    rw [hrm] at hZr
    have S8 : Stn K CP (rmS sd c H8) ks many long other cas rows pms pms2 kl d4 d5 d6 d8 := by
      refine ⟨rm_l (e8 _ _ hkl7) kl1 kl2, ⟨rm_l (e8 _ _ hd47) d41 d42, hcl, fun i k hk => ?_⟩, e78 _ _ hZ5, hZr.keep fun a ys g => e78 _ _ g, hP1.mono e78, hP2⟩
      obtain ⟨ca, cs, g1, g2, g3, g4, g5, g6, g7⟩ := hcol7 i k hk
      exact ⟨ca, cs, g1, rm_l (e8 _ _ g3) g4 g5, g6, g7⟩
    have hpl1 : pms.length = ks.length := hpil.2.1
    have hpl2 : pms2.length = ks.length := hpil2.2.1
    have ga1 : GAll long many pms := ⟨hl1, hl2, hmany, by omega, by omega, hok1⟩
    have ga2 : GAll other many pms2 := ⟨ho1, ho2, hmany, by omega, by omega, hok2⟩
    refine ⟨_, rfl, sd, c, 2, _, rfl, L8, by omega, by decide, by decide, fun u0 H9 u1 u2 e9 L9 => ?_⟩
    obtain ⟨tn, htn⟩ : ∃ tn : Nat, 1 + u0 = (tn : Int) := ⟨(1 + u0).toNat, by omega⟩
    have S9 := S8.ex e9
    have L9 := L9.up (show 50000 + 1 + 1 ≤ 60000 by omega)
    refine ⟨_, _, rfl, rfl, _, congrArg (fun z => [V.int z]) htn, by omega, by omega, for_it (walk_range (lo := 0) (n := tn)) (fun i σ' H' => ExS sd c H9 H' ∧ LSt H' sd c (60000 + 20000 * i) ∧ ∃ y10 y11 y12 y13 y14, σ' = [some (.ref a), some (.ref sd), some (.ref kl), some (.int (many : Int)), some (.int (long : Int)), some (.ref d4), some (.ref d5), some (.ref d6), some (.int (1 + w0)), some (.ref d8), y10, y11, y12, y13, y14, none, none, none])
      ⟨ExS.r _ _ _, L9, _, _, _, _, _, rfl⟩ (fun _ _ _ _ _ => trivial) (fun i x σ' H' HA hi hI hy => ?_) (fun σ' H' hI => ?_)⟩
    · obtain ⟨eA, LA, y10, y11, y12, y13, y14, rfl⟩ := hI
      obtain ⟨rfl, rfl⟩ := hy
      have htn2 : tn ≤ 2 := by omega
      refine ⟨_, rfl, _, rfl, _, rfl, _, rfl, sd, c, 3, _, rfl, LA, by omega, by decide, by decide, fun v0 HB v1 v2 eB LB => ?_⟩
      obtain ⟨g0, rfl⟩ : ∃ g0 : Nat, v0 = (g0 : Int) := ⟨v0.toNat, by omega⟩
      have hc0 := cst_le (e := g0) (by omega)
      have SB := (S9.ex eA).ex eB
      refine ⟨sd, c, kl, d4, g0, _, many, ks, cas, rfl, by omega, LB, by omega, SB.kl, k1, k8, SB.co, hmany, fun a1 t1 HC r1 f1 dp1 eC LC => ?_⟩
      have SC := SB.ex eC
      refine ⟨_, rfl, _, rfl, _, rfl, _, rfl, sd, c, 3, _, rfl, LC, by omega, by decide, by decide, fun v0 HD v1 v2 eD LD => ?_⟩
      obtain ⟨g2, rfl⟩ : ∃ g2 : Nat, v0 = (g2 : Int) := ⟨v0.toNat, by omega⟩
      have hc2 := cst_le (e := g2) (by omega)
      have SD := SC.ex eD
      refine ⟨sd, c, kl, d4, g2, _, many, ks, cas, rfl, by omega, LD, by omega, SD.kl, k1, k8, SD.co, hmany, fun a2 t2 HE r2 f2 dp2 eE LE => ?_⟩
      have SE := SD.ex eE
      have r1E := (r1.ex eD).ex eE
      have LE := LE.up (show _ ≤ 60000 + 20000 * (i + 1) by omega)
      have e9E := (((eA.trans eB).trans eC).trans eD).trans eE
      have f1' : RFit (kdsOf pms) t1 := by rw [hk1']; exact f1
      have f2' : RFit (kdsOf pms) t2 := by rw [hk1']; exact f2
      refine ⟨_, rfl, _, rfl, _, rfl, Nat.le_of_ble_eq_true rfl, fun b1 nb1 => ?_⟩
      have z1n := Ex.n (o := HO.tup [V.str "both", .ref a1, .ref a2]) nb1
      have z1 := (Ex.r HE).trans z1n
      have hb1 : (upd HE b1 (HO.tup [V.str "both", .ref a1, .ref a2])) b1 = some (HO.tup [V.str "both", .ref a1, .ref a2]) := upd_same
      clear z1n
      generalize upd HE b1 (HO.tup [V.str "both", .ref a1, .ref a2]) = F1 at z1 hb1 
      refine ⟨_, rfl, _, rfl, Nat.le_of_ble_eq_true rfl, fun b2 nb2 => ?_⟩
      have z2n := Ex.n (o := HO.tup [V.str "both", .ref a2, .ref a1]) nb2
      have z2 := z1.trans z2n
      have hb2 : (upd F1 b2 (HO.tup [V.str "both", .ref a2, .ref a1])) b2 = some (HO.tup [V.str "both", .ref a2, .ref a1]) := upd_same
      have hb1 := z2n _ _ hb1
      clear z2n
      generalize upd F1 b2 (HO.tup [V.str "both", .ref a2, .ref a1]) = F2 at z2 hb2 hb1
      refine ⟨_, rfl, _, rfl, Nat.le_of_ble_eq_true rfl, fun b3 nb3 => ?_⟩
      have z3n := Ex.n (o := HO.tup [V.str "either", .ref a2, .ref a1]) nb3
      have z3 := z2.trans z3n
      have hb3 : (upd F2 b3 (HO.tup [V.str "either", .ref a2, .ref a1])) b3 = some (HO.tup [V.str "either", .ref a2, .ref a1]) := upd_same
      have hb1 := z3n _ _ hb1
      have hb2 := z3n _ _ hb2
      clear z3n
      generalize upd F2 b3 (HO.tup [V.str "either", .ref a2, .ref a1]) = F3 at z3 hb3 hb1 hb2
      refine ⟨Nat.le_of_ble_eq_true rfl, fun b4 nb4 => ?_⟩
      have z4n := Ex.n (o := HO.lst [V.ref a1, .ref b1, .ref b2, .ref b3]) nb4
      have z4 := z3.trans z4n
      have hb4 : (upd F3 b4 (HO.lst [V.ref a1, .ref b1, .ref b2, .ref b3])) b4 = some (HO.lst [V.ref a1, .ref b1, .ref b2, .ref b3]) := upd_same
      have hb1 := z4n _ _ hb1
      have hb2 := z4n _ _ hb2
      have hb3 := z4n _ _ hb3
      clear z4n
      generalize upd F3 b4 (HO.lst [V.ref a1, .ref b1, .ref b2, .ref b3]) = F4 at z4 hb4 hb1 hb2 hb3
      have RA1 : RTAt K F4 t1 a1 := (r1E.ex rmS_ex).ex z4
      have RA2 : RTAt K F4 t2 a2 := (r2.ex rmS_ex).ex z4
      have hts : ∀ (j : Nat) (x : V), [V.ref a1, .ref b1, .ref b2, .ref b3][j]? = some x → ∃ ta t, x = .ref ta ∧ RTAt K F4 t ta ∧ RFit ks t ∧ t.dep ≤ 3 := fun j x hx => by
        match j, hx with
        | 0, hx => obtain rfl := Option.some.inj hx; exact ⟨a1, t1, rfl, RA1, f1, by omega⟩
        | 1, hx => obtain rfl := Option.some.inj hx; exact ⟨b1, .both t1 t2, rfl, ⟨a1, a2, tpOf hb1, RA1, RA2⟩, ⟨f1, f2⟩, by show max t1.dep t2.dep + 1 ≤ 3; omega⟩
        | 2, hx => obtain rfl := Option.some.inj hx; exact ⟨b2, .both t2 t1, rfl, ⟨a2, a1, tpOf hb2, RA2, RA1⟩, ⟨f2, f1⟩, by show max t2.dep t1.dep + 1 ≤ 3; omega⟩
        | 3, hx => obtain rfl := Option.some.inj hx; exact ⟨b3, .eith t2 t1, rfl, ⟨a2, a1, tpOf hb3, RA2, RA1⟩, ⟨f2, f1⟩, by show max t2.dep t1.dep + 1 ≤ 3; omega⟩
        | j + 4, hx => cases hx
      have SF4 := SE.ex (ExS.of (sd := sd) (c := c) z4)
      refine ⟨_, rfl, ⟨_, lsOf hb4⟩, for_it walk_list (fun j σ' H' => Ex F4 H' ∧ ∃ y13 y14, σ' = [some (.ref a), some (.ref sd), some (.ref kl), some (.int (many : Int)), some (.int (long : Int)), some (.ref d4), some (.ref d5), some (.ref d6), some (.int (1 + w0)), some (.ref d8), some (.int (0 + (i : Int))), some (.ref a1), some (.ref a2), y13, y14, none, none, none])
        ⟨Ex.r _, _, _, rfl⟩ (fun j σ' H' _ hI => lsOf (hI.1 _ _ hb4)) (fun j x σ' H' G0 hj hI hy => ?_) (fun σ' HI hI => ?_)⟩
      · obtain ⟨eG, y13, y14, rfl⟩ := hI
        obtain ⟨rfl, hx⟩ := hy
        obtain ⟨ta, t, rfl, rt, ft, dt⟩ := hts j x hx
        have SG := SF4.ex (ExS.of (sd := sd) (c := c) eG)
        have fk1 : RFit (kdsOf pms) t := by rw [hk1']; exact ft
        have fk2 : RFit (kdsOf pms2) t := by rw [hk2']; exact ft
        refine ⟨_, rfl, _, rfl, _, rfl, _, rfl, d6, d5, ta, long, many, pms, rows, t, rfl, SG.p1.mono rmS_ex, ga1, rmS_ex _ _ SG.rw_, SG.ro.keep fun a ys h => rmS_ex _ _ h, rt.ex eG, fk1, by omega, pw_le (by omega), fun m1 G1 g1 hm1 => ?_⟩
        have SG1 := SG.ex (ExS.of (sd := sd) (c := c) g1)
        refine ⟨_, rfl, rfl, _, rfl, ifF rfl ?_⟩
        refine ⟨_, rfl, _, rfl, _, rfl, _, rfl, d8, d5, ta, other, many, pms2, rows, t, by rw [hother]; rfl, SG1.p2.mono rmS_ex, ga2, rmS_ex _ _ SG1.rw_, (by rw [hrm2]; exact SG1.ro.keep fun a ys h => rmS_ex _ _ h), (rt.ex eG).ex g1, fk2, by omega, pw_le (by omega), fun m2 G2 g2 hm2 => ?_⟩
        have hme : maskM pms2 other many t = maskM pms long many t := by
          rw [mask_rows ga2.l1, mask_rows ga1.l1, hrm2]
        rw [hme] at hm2
        refine ⟨_, rfl, _, _, dp_mask (lsOf hm2), dp_mask (lsOf (g2 _ _ hm1)), PySem.W.ke_shaped_ints _, PySem.W.ke_shaped_ints _, _, rfl, ?_⟩
        rw [eqv_self (PySem.W.ke_shaped_ints _)]
        refine ifF rfl ?_
        exact ⟨(eG.trans g1).trans g2, _, _, rfl⟩
      · obtain ⟨eI, y13, y14, rfl⟩ := hI
        have SF := SF4.ex (ExS.of (sd := sd) (c := c) eI)
        have RA1 := RA1.ex eI
        have RA2 := RA2.ex eI
        have eIn := Ex.r HI
        refine ⟨_, rfl, _, rfl, Nat.le_of_ble_eq_true rfl, fun q1 nq1 => ?_⟩
        have k1 := eIn.trans (Ex.n (o := HO.tup [V.str "not", .ref a1]) nq1)
        have hq1 : (upd HI q1 (HO.tup [V.str "not", .ref a1])) q1 = some (HO.tup [V.str "not", .ref a1]) := upd_same
        generalize upd HI q1 (HO.tup [V.str "not", .ref a1]) = J1 at k1 hq1
        refine ⟨_, rfl, Nat.le_of_ble_eq_true rfl, fun q2 nq2 => ?_⟩
        have k2 := k1.trans (Ex.n (o := HO.tup [V.str "not", .ref a2]) nq2)
        have hq2 : (upd J1 q2 (HO.tup [V.str "not", .ref a2])) q2 = some (HO.tup [V.str "not", .ref a2]) := upd_same
        have hq12 := Ex.n (o := HO.tup [V.str "not", .ref a2]) nq2 _ _ hq1
        generalize upd J1 q2 (HO.tup [V.str "not", .ref a2]) = J2 at k2 hq2 hq12
        refine ⟨Nat.le_of_ble_eq_true rfl, fun q3 nq3 => ?_⟩
        have k3 := k2.trans (Ex.n (o := HO.tup [V.str "either", .ref q1, .ref q2]) nq3)
        have hq3 : (upd J2 q3 (HO.tup [V.str "either", .ref q1, .ref q2])) q3 = some (HO.tup [V.str "either", .ref q1, .ref q2]) := upd_same
        have hq13 := Ex.n (o := HO.tup [V.str "either", .ref q1, .ref q2]) nq3 _ _ hq12
        have hq23 := Ex.n (o := HO.tup [V.str "either", .ref q1, .ref q2]) nq3 _ _ hq2
        generalize upd J2 q3 (HO.tup [V.str "either", .ref q1, .ref q2]) = J3 at k3 hq3 hq13 hq23
        refine ⟨Nat.le_of_ble_eq_true rfl, fun q4 nq4 => ?_⟩
        have k4 := k3.trans (Ex.n (o := HO.tup [V.str "not", .ref q3]) nq4)
        have hq4 : (upd J3 q4 (HO.tup [V.str "not", .ref q3])) q4 = some (HO.tup [V.str "not", .ref q3]) := upd_same
        have hq14 := Ex.n (o := HO.tup [V.str "not", .ref q3]) nq4 _ _ hq13
        have hq24 := Ex.n (o := HO.tup [V.str "not", .ref q3]) nq4 _ _ hq23
        have hq34 := Ex.n (o := HO.tup [V.str "not", .ref q3]) nq4 _ _ hq3
        generalize upd J3 q4 (HO.tup [V.str "not", .ref q3]) = J4 at k4 hq4 hq14 hq24 hq34
        refine ⟨d6, q4, long, many, pms, .neg (.eith (.neg t1) (.neg t2)), rfl, SF.p1.mono (Evl.Ex.trans rmS_ex k4), ga1, ⟨q3, tpOf hq4, q1, q2, tpOf hq34, ⟨a1, tpOf hq14, RA1.ex k4⟩, ⟨a2, tpOf hq24, RA2.ex k4⟩⟩, ⟨f1', f2'⟩, (by show max (t1.dep + 1) (t2.dep + 1) + 1 + 1 < 6; omega), (pw_le (by show max (t1.dep + 1) (t2.dep + 1) + 1 + 1 + 1 ≤ 8; omega)), fun r1 m1 s1 xs1 J5 k5 hm5 hs5 hx5 hr5 => ?_⟩
        refine ⟨_, rfl, _, rfl, _, rfl, Nat.le_of_ble_eq_true rfl, fun q6 nq6 => ?_⟩
        have k6 := (k4.trans k5).trans (Ex.n (o := HO.tup [V.str "both", .ref a1, .ref a2]) nq6)
        have hq6 : (upd J5 q6 (HO.tup [V.str "both", .ref a1, .ref a2])) q6 = some (HO.tup [V.str "both", .ref a1, .ref a2]) := upd_same
        have k56 := Ex.n (o := HO.tup [V.str "both", .ref a1, .ref a2]) nq6
        generalize upd J5 q6 (HO.tup [V.str "both", .ref a1, .ref a2]) = J6 at k6 hq6 k56
        refine ⟨d6, q6, long, many, pms, .both t1 t2, rfl, SF.p1.mono (Evl.Ex.trans rmS_ex k6), ga1, ⟨a1, a2, tpOf hq6, RA1.ex k6, RA2.ex k6⟩, ⟨f1', f2'⟩, (by show max t1.dep t2.dep + 1 < 6; omega), (pw_le (by show max t1.dep t2.dep + 1 + 1 ≤ 8; omega)), fun r2 m2 s2 xs2 J7 k7 hm7 hs7 hx7 hr7 => ?_⟩
        rw [mask_dm1 ga1.l1] at hm5
        rw [pair_dm1] at hx5
        refine ⟨_, _, dp_sv (k7 _ _ (k56 _ _ hr5)) (k7 _ _ (k56 _ _ hm5)) (k7 _ _ (k56 _ _ hs5)) (hx5.keep fun a ys h => k7 _ _ (k56 _ _ h)), dp_sv hr7 hm7 hs7 hx7, shp_mp _ _, shp_mp _ _, _, rfl, ?_⟩
        rw [eqv_self (shp_mp _ _)]
        refine ifF rfl ?_
        have eIn2 := k6.trans k7
        refine ⟨_, rfl, _, rfl, Nat.le_of_ble_eq_true rfl, fun q1 nq1 => ?_⟩
        have k1 := eIn2.trans (Ex.n (o := HO.tup [V.str "not", .ref a1]) nq1)
        have hq1 : (upd J7 q1 (HO.tup [V.str "not", .ref a1])) q1 = some (HO.tup [V.str "not", .ref a1]) := upd_same
        generalize upd J7 q1 (HO.tup [V.str "not", .ref a1]) = J1 at k1 hq1
        refine ⟨_, rfl, Nat.le_of_ble_eq_true rfl, fun q2 nq2 => ?_⟩
        have k2 := k1.trans (Ex.n (o := HO.tup [V.str "not", .ref a2]) nq2)
        have hq2 : (upd J1 q2 (HO.tup [V.str "not", .ref a2])) q2 = some (HO.tup [V.str "not", .ref a2]) := upd_same
        have hq12 := Ex.n (o := HO.tup [V.str "not", .ref a2]) nq2 _ _ hq1
        generalize upd J1 q2 (HO.tup [V.str "not", .ref a2]) = J2 at k2 hq2 hq12
        refine ⟨Nat.le_of_ble_eq_true rfl, fun q3 nq3 => ?_⟩
        have k3 := k2.trans (Ex.n (o := HO.tup [V.str "both", .ref q1, .ref q2]) nq3)
        have hq3 : (upd J2 q3 (HO.tup [V.str "both", .ref q1, .ref q2])) q3 = some (HO.tup [V.str "both", .ref q1, .ref q2]) := upd_same
        have hq13 := Ex.n (o := HO.tup [V.str "both", .ref q1, .ref q2]) nq3 _ _ hq12
        have hq23 := Ex.n (o := HO.tup [V.str "both", .ref q1, .ref q2]) nq3 _ _ hq2
        generalize upd J2 q3 (HO.tup [V.str "both", .ref q1, .ref q2]) = J3 at k3 hq3 hq13 hq23
        refine ⟨Nat.le_of_ble_eq_true rfl, fun q4 nq4 => ?_⟩
        have k4 := k3.trans (Ex.n (o := HO.tup [V.str "not", .ref q3]) nq4)
        have hq4 : (upd J3 q4 (HO.tup [V.str "not", .ref q3])) q4 = some (HO.tup [V.str "not", .ref q3]) := upd_same
        have hq14 := Ex.n (o := HO.tup [V.str "not", .ref q3]) nq4 _ _ hq13
        have hq24 := Ex.n (o := HO.tup [V.str "not", .ref q3]) nq4 _ _ hq23
        have hq34 := Ex.n (o := HO.tup [V.str "not", .ref q3]) nq4 _ _ hq3
        generalize upd J3 q4 (HO.tup [V.str "not", .ref q3]) = J4 at k4 hq4 hq14 hq24 hq34
        refine ⟨d6, q4, long, many, pms, .neg (.both (.neg t1) (.neg t2)), rfl, SF.p1.mono (Evl.Ex.trans rmS_ex k4), ga1, ⟨q3, tpOf hq4, q1, q2, tpOf hq34, ⟨a1, tpOf hq14, RA1.ex k4⟩, ⟨a2, tpOf hq24, RA2.ex k4⟩⟩, ⟨f1', f2'⟩, (by show max (t1.dep + 1) (t2.dep + 1) + 1 + 1 < 6; omega), (pw_le (by show max (t1.dep + 1) (t2.dep + 1) + 1 + 1 + 1 ≤ 8; omega)), fun r1 m1 s1 xs1 J5 k5 hm5 hs5 hx5 hr5 => ?_⟩
        refine ⟨_, rfl, _, rfl, _, rfl, Nat.le_of_ble_eq_true rfl, fun q6 nq6 => ?_⟩
        have k6 := (k4.trans k5).trans (Ex.n (o := HO.tup [V.str "either", .ref a1, .ref a2]) nq6)
        have hq6 : (upd J5 q6 (HO.tup [V.str "either", .ref a1, .ref a2])) q6 = some (HO.tup [V.str "either", .ref a1, .ref a2]) := upd_same
        have k56 := Ex.n (o := HO.tup [V.str "either", .ref a1, .ref a2]) nq6
        generalize upd J5 q6 (HO.tup [V.str "either", .ref a1, .ref a2]) = J6 at k6 hq6 k56
        refine ⟨d6, q6, long, many, pms, .eith t1 t2, rfl, SF.p1.mono (Evl.Ex.trans rmS_ex k6), ga1, ⟨a1, a2, tpOf hq6, RA1.ex k6, RA2.ex k6⟩, ⟨f1', f2'⟩, (by show max t1.dep t2.dep + 1 < 6; omega), (pw_le (by show max t1.dep t2.dep + 1 + 1 ≤ 8; omega)), fun r2 m2 s2 xs2 J7 k7 hm7 hs7 hx7 hr7 => ?_⟩
        rw [mask_dm2 ga1.l1] at hm5
        rw [pair_dm2] at hx5
        refine ⟨_, _, dp_sv (k7 _ _ (k56 _ _ hr5)) (k7 _ _ (k56 _ _ hm5)) (k7 _ _ (k56 _ _ hs5)) (hx5.keep fun a ys h => k7 _ _ (k56 _ _ h)), dp_sv hr7 hm7 hs7 hx7, shp_mp _ _, shp_mp _ _, _, rfl, ?_⟩
        rw [eqv_self (shp_mp _ _)]
        refine ifF rfl ?_
        have eZ := (z4.trans eI).trans (k6.trans k7)
        exact ⟨e9E.trans (ExS.of eZ), LE.mono eZ, _, _, _, _, _, rfl⟩
    · obtain ⟨eA, LA, y10, y11, y12, y13, y14, rfl⟩ := hI
      exact q _
end
end Pk
set_option Elab.async false
set_option linter.all false
set_option maxRecDepth 100000
set_option maxHeartbeats 4000000
set_option autoImplicit false
namespace Pk
open PySem PySem.Spec PyProof.Rows L2
open C8 (Cal Met Mak)
section
theorem isC_int {mg : Str → Option Value} {x : Str} {i : Int} (h : ∃ t, mg x = some (.int i t)) : isC mg x (.int i) := by
  obtain ⟨t, e⟩ := h
  exact ⟨_, e, t, rfl⟩
theorem isC_str {mg : Str → Option Value} {x z : Str} (h : ∃ t, mg x = some (.str z t)) : isC mg x (.str z) := by
  obtain ⟨t, e⟩ := h
  exact ⟨_, e, t, rfl⟩
variable {P : Program} {w : World} {K : PySem.W.Frag} {h : Heap} {mg : Str → Option Value} {base : Heap}
theorem gf_of (X : K.In h) (G : h.Ns mainGlobals mg) (c : He.SaysD faL fnL K) (cx : exB K = true) : Gf K mg (He.ga K "Glance") (He.ga K "Pillar") (He.ga K "SIGNS_UP") where
  len := He.free_ok X G (c.fact 72 (f := .free "len") rfl)
  min := He.free_ok X G (c.fact 73 (f := .free "min") rfl)
  max := He.free_ok X G (c.fact 74 (f := .free "max") rfl)
  all := He.free_ok X G (c.fact 75 (f := .free "all") rfl)
  int := He.free_ok X G (c.fact 76 (f := .free "int") rfl)
  str := He.free_ok X G (c.fact 77 (f := .free "str") rfl)
  bool := He.free_ok X G (c.fact 78 (f := .free "bool") rfl)
  dict := He.free_ok X G (c.fact 79 (f := .free "dict") rfl)
  list := He.free_ok X G (c.fact 80 (f := .free "list") rfl)
  tuple := He.free_ok X G (c.fact 81 (f := .free "tuple") rfl)
  set := He.free_ok X G (c.fact 82 (f := .free "set") rfl)
  isinstance := He.free_ok X G (c.fact 83 (f := .free "isinstance") rfl)
  sorted := He.free_ok X G (c.fact 84 (f := .free "sorted") rfl)
  range := He.free_ok X G (c.fact 85 (f := .free "range") rfl)
  zip := He.free_ok X G (c.fact 86 (f := .free "zip") rfl)
  enumerate := He.free_ok X G (c.fact 87 (f := .free "enumerate") rfl)
  reversed := He.free_ok X G (c.fact 88 (f := .free "reversed") rfl)
  abs := He.free_ok X G (c.fact 89 (f := .free "abs") rfl)
  divmod := He.free_ok X G (c.fact 90 (f := .free "divmod") rfl)
  most_number := isC_int (He.int_ok X G (c.fact 91 (f := .int "MOST_NUMBER" 1000000000000000000) rfl))
  most_signs := isC_int (He.int_ok X G (c.fact 92 (f := .int "MOST_SIGNS" 20) rfl))
  more := isC_int (He.int_ok X G (c.fact 93 (f := .int "MORE" 128) rfl))
  byte := isC_int (He.int_ok X G (c.fact 94 (f := .int "BYTE" 256) rfl))
  bits := isC_int (He.int_ok X G (c.fact 95 (f := .int "BITS" 8) rfl))
  most_bytes := isC_int (He.int_ok X G (c.fact 96 (f := .int "MOST_BYTES" 9) rfl))
  ways := isC_int (He.int_ok X G (c.fact 97 (f := .int "WAYS" 5) rfl))
  most_cells := isC_int (He.int_ok X G (c.fact 98 (f := .int "MOST_CELLS" 64) rfl))
  most_way := isC_int (He.int_ok X G (c.fact 99 (f := .int "MOST_WAY" 4) rfl))
  most_wide := isC_int (He.int_ok X G (c.fact 100 (f := .int "MOST_WIDE" 62) rfl))
  signs := isC_str (He.str_ok X G (c.fact 101 (f := .str "SIGNS" signsS) rfl))
  signs_up := ⟨_, He.glo_ok X G (c.fact 71 (f := .glo "SIGNS_UP") rfl), rfl⟩
  upT := fun H => He.tupB_ok cx H
  clG := He.cls_ok (c.fact 102 (f := .cls "Glance") rfl)
  clP := He.cls_ok (c.fact 103 (f := .cls "Pillar") rfl)
  g_some := He.noat_ok (c.fact 115 (f := .noat "Glance" "some") rfl)
  g_notes := He.noat_ok (c.fact 116 (f := .noat "Glance" "notes_there") rfl)
  g_at := He.noat_ok (c.fact 117 (f := .noat "Glance" "at") rfl)
  g_seen := He.noat_ok (c.fact 118 (f := .noat "Glance" "seen") rfl)
  p_each := He.noat_ok (c.fact 119 (f := .noat "Pillar" "each") rfl)
  p_so := He.noat_ok (c.fact 120 (f := .noat "Pillar" "so_many") rfl)
  p_rows := He.noat_ok (c.fact 121 (f := .noat "Pillar" "own_rows") rfl)
  p_notes := He.noat_ok (c.fact 122 (f := .noat "Pillar" "own_notes") rfl)
theorem fc_is_so (X : K.In h) (G : h.Ns mainGlobals mg) (c : He.SaysD faL fnL K) : Dfn K mg "is_so" s_is_so := by
  obtain ⟨fd, F⟩ := c.def_ 0 (d := d_is_so) rfl
  exact ⟨_, fd, F, He.glo_ok X G (c.fact 0 (f := .glo "is_so") rfl)⟩
theorem fc_meets (X : K.In h) (G : h.Ns mainGlobals mg) (c : He.SaysD faL fnL K) : Dfn K mg "meets" s_meets := by
  obtain ⟨fd, F⟩ := c.def_ 1 (d := d_meets) rfl
  exact ⟨_, fd, F, He.glo_ok X G (c.fact 1 (f := .glo "meets") rfl)⟩
theorem fc_note_of (X : K.In h) (G : h.Ns mainGlobals mg) (c : He.SaysD faL fnL K) : Dfn K mg "note_of" s_note_of := by
  obtain ⟨fd, F⟩ := c.def_ 2 (d := d_note_of) rfl
  exact ⟨_, fd, F, He.glo_ok X G (c.fact 2 (f := .glo "note_of") rfl)⟩
theorem fc_has_none (X : K.In h) (G : h.Ns mainGlobals mg) (c : He.SaysD faL fnL K) : Dfn K mg "has_none" s_has_none := by
  obtain ⟨fd, F⟩ := c.def_ 3 (d := d_has_none) rfl
  exact ⟨_, fd, F, He.glo_ok X G (c.fact 3 (f := .glo "has_none") rfl)⟩
theorem fc_has_all (X : K.In h) (G : h.Ns mainGlobals mg) (c : He.SaysD faL fnL K) : Dfn K mg "has_all" s_has_all := by
  obtain ⟨fd, F⟩ := c.def_ 4 (d := d_has_all) rfl
  exact ⟨_, fd, F, He.glo_ok X G (c.fact 4 (f := .glo "has_all") rfl)⟩
theorem fc_looked_open (X : K.In h) (G : h.Ns mainGlobals mg) (c : He.SaysD faL fnL K) : Dfn K mg "looked_open" s_looked_open := by
  obtain ⟨fd, F⟩ := c.def_ 5 (d := d_looked_open) rfl
  exact ⟨_, fd, F, He.glo_ok X G (c.fact 5 (f := .glo "looked_open") rfl)⟩
theorem fc_looked (X : K.In h) (G : h.Ns mainGlobals mg) (c : He.SaysD faL fnL K) : Dfn K mg "looked" s_looked := by
  obtain ⟨fd, F⟩ := c.def_ 6 (d := d_looked) rfl
  exact ⟨_, fd, F, He.glo_ok X G (c.fact 6 (f := .glo "looked") rfl)⟩
theorem fc_pair_meets (X : K.In h) (G : h.Ns mainGlobals mg) (c : He.SaysD faL fnL K) : Dfn K mg "pair_meets" s_pair_meets := by
  obtain ⟨fd, F⟩ := c.def_ 7 (d := d_pair_meets) rfl
  exact ⟨_, fd, F, He.glo_ok X G (c.fact 7 (f := .glo "pair_meets") rfl)⟩
theorem fc_row_meets (X : K.In h) (G : h.Ns mainGlobals mg) (c : He.SaysD faL fnL K) : Dfn K mg "row_meets" s_row_meets := by
  obtain ⟨fd, F⟩ := c.def_ 8 (d := d_row_meets) rfl
  exact ⟨_, fd, F, He.glo_ok X G (c.fact 8 (f := .glo "row_meets") rfl)⟩
theorem fc_places_in (X : K.In h) (G : h.Ns mainGlobals mg) (c : He.SaysD faL fnL K) : Dfn K mg "places_in" s_places_in := by
  obtain ⟨fd, F⟩ := c.def_ 9 (d := d_places_in) rfl
  exact ⟨_, fd, F, He.glo_ok X G (c.fact 9 (f := .glo "places_in") rfl)⟩
theorem fc_Glance_init (X : K.In h) (G : h.Ns mainGlobals mg) (c : He.SaysD faL fnL K) : Ifn K mg "Glance" (He.ga K "Glance") "Glance.__init__" s_Glance_init := by
  obtain ⟨fd, F⟩ := c.def_ 10 (d := d_Glance_init) rfl
  exact ⟨_, fd, F, He.mkr_ok (c.fact 104 (f := .mkr "Glance") rfl), He.glo_ok X G (c.fact 69 (f := .glo "Glance") rfl)⟩
theorem fc_Glance_size (X : K.In h) (G : h.Ns mainGlobals mg) (c : He.SaysD faL fnL K) : Mfn K (He.ga K "Glance") "size" "Glance.size" s_Glance_size := by
  obtain ⟨fd, F⟩ := c.def_ 11 (d := d_Glance_size) rfl
  exact ⟨_, fd, F, He.cls_ok (c.fact 102 (f := .cls "Glance") rfl), He.meth_ok (c.fact 106 (f := .meth "Glance" "size") rfl)⟩
theorem fc_Glance_all_open (X : K.In h) (G : h.Ns mainGlobals mg) (c : He.SaysD faL fnL K) : Mfn K (He.ga K "Glance") "all_open" "Glance.all_open" s_Glance_all_open := by
  obtain ⟨fd, F⟩ := c.def_ 12 (d := d_Glance_all_open) rfl
  exact ⟨_, fd, F, He.cls_ok (c.fact 102 (f := .cls "Glance") rfl), He.meth_ok (c.fact 107 (f := .meth "Glance" "all_open") rfl)⟩
theorem fc_Glance_had (X : K.In h) (G : h.Ns mainGlobals mg) (c : He.SaysD faL fnL K) : Mfn K (He.ga K "Glance") "had" "Glance.had" s_Glance_had := by
  obtain ⟨fd, F⟩ := c.def_ 13 (d := d_Glance_had) rfl
  exact ⟨_, fd, F, He.cls_ok (c.fact 102 (f := .cls "Glance") rfl), He.meth_ok (c.fact 108 (f := .meth "Glance" "had") rfl)⟩
theorem fc_Glance_places_seen (X : K.In h) (G : h.Ns mainGlobals mg) (c : He.SaysD faL fnL K) : Mfn K (He.ga K "Glance") "places_seen" "Glance.places_seen" s_Glance_places_seen := by
  obtain ⟨fd, F⟩ := c.def_ 14 (d := d_Glance_places_seen) rfl
  exact ⟨_, fd, F, He.cls_ok (c.fact 102 (f := .cls "Glance") rfl), He.meth_ok (c.fact 109 (f := .meth "Glance" "places_seen") rfl)⟩
theorem fc_Glance_cell_bits (X : K.In h) (G : h.Ns mainGlobals mg) (c : He.SaysD faL fnL K) : Mfn K (He.ga K "Glance") "cell_bits" "Glance.cell_bits" s_Glance_cell_bits := by
  obtain ⟨fd, F⟩ := c.def_ 15 (d := d_Glance_cell_bits) rfl
  exact ⟨_, fd, F, He.cls_ok (c.fact 102 (f := .cls "Glance") rfl), He.meth_ok (c.fact 110 (f := .meth "Glance" "cell_bits") rfl)⟩
theorem fc_Glance_pair_bits (X : K.In h) (G : h.Ns mainGlobals mg) (c : He.SaysD faL fnL K) : Mfn K (He.ga K "Glance") "pair_bits" "Glance.pair_bits" s_Glance_pair_bits := by
  obtain ⟨fd, F⟩ := c.def_ 16 (d := d_Glance_pair_bits) rfl
  exact ⟨_, fd, F, He.cls_ok (c.fact 102 (f := .cls "Glance") rfl), He.meth_ok (c.fact 111 (f := .meth "Glance" "pair_bits") rfl)⟩
theorem fc_Glance_bits (X : K.In h) (G : h.Ns mainGlobals mg) (c : He.SaysD faL fnL K) : Mfn K (He.ga K "Glance") "bits" "Glance.bits" s_Glance_bits := by
  obtain ⟨fd, F⟩ := c.def_ 17 (d := d_Glance_bits) rfl
  exact ⟨_, fd, F, He.cls_ok (c.fact 102 (f := .cls "Glance") rfl), He.meth_ok (c.fact 112 (f := .meth "Glance" "bits") rfl)⟩
theorem fc_glances (X : K.In h) (G : h.Ns mainGlobals mg) (c : He.SaysD faL fnL K) : Dfn K mg "glances" s_glances := by
  obtain ⟨fd, F⟩ := c.def_ 18 (d := d_glances) rfl
  exact ⟨_, fd, F, He.glo_ok X G (c.fact 10 (f := .glo "glances") rfl)⟩
theorem fc_sieved (X : K.In h) (G : h.Ns mainGlobals mg) (c : He.SaysD faL fnL K) : Dfn K mg "sieved" s_sieved := by
  obtain ⟨fd, F⟩ := c.def_ 19 (d := d_sieved) rfl
  exact ⟨_, fd, F, He.glo_ok X G (c.fact 11 (f := .glo "sieved") rfl)⟩
theorem fc_rows_picked (X : K.In h) (G : h.Ns mainGlobals mg) (c : He.SaysD faL fnL K) : Dfn K mg "rows_picked" s_rows_picked := by
  obtain ⟨fd, F⟩ := c.def_ 20 (d := d_rows_picked) rfl
  exact ⟨_, fd, F, He.glo_ok X G (c.fact 12 (f := .glo "rows_picked") rfl)⟩
theorem fc_picked (X : K.In h) (G : h.Ns mainGlobals mg) (c : He.SaysD faL fnL K) : Dfn K mg "picked" s_picked := by
  obtain ⟨fd, F⟩ := c.def_ 21 (d := d_picked) rfl
  exact ⟨_, fd, F, He.glo_ok X G (c.fact 13 (f := .glo "picked") rfl)⟩
theorem fc_is_number (X : K.In h) (G : h.Ns mainGlobals mg) (c : He.SaysD faL fnL K) : Dfn K mg "is_number" s_is_number := by
  obtain ⟨fd, F⟩ := c.def_ 22 (d := d_is_number) rfl
  exact ⟨_, fd, F, He.glo_ok X G (c.fact 14 (f := .glo "is_number") rfl)⟩
theorem fc_is_text_cell (X : K.In h) (G : h.Ns mainGlobals mg) (c : He.SaysD faL fnL K) : Dfn K mg "is_text_cell" s_is_text_cell := by
  obtain ⟨fd, F⟩ := c.def_ 23 (d := d_is_text_cell) rfl
  exact ⟨_, fd, F, He.glo_ok X G (c.fact 15 (f := .glo "is_text_cell") rfl)⟩
theorem fc_is_cell_of (X : K.In h) (G : h.Ns mainGlobals mg) (c : He.SaysD faL fnL K) : Dfn K mg "is_cell_of" s_is_cell_of := by
  obtain ⟨fd, F⟩ := c.def_ 24 (d := d_is_cell_of) rfl
  exact ⟨_, fd, F, He.glo_ok X G (c.fact 16 (f := .glo "is_cell_of") rfl)⟩
theorem fc_cell_key (X : K.In h) (G : h.Ns mainGlobals mg) (c : He.SaysD faL fnL K) : Dfn K mg "cell_key" s_cell_key := by
  obtain ⟨fd, F⟩ := c.def_ 25 (d := d_cell_key) rfl
  exact ⟨_, fd, F, He.glo_ok X G (c.fact 17 (f := .glo "cell_key") rfl)⟩
theorem fc_number_bytes (X : K.In h) (G : h.Ns mainGlobals mg) (c : He.SaysD faL fnL K) : Dfn K mg "number_bytes" s_number_bytes := by
  obtain ⟨fd, F⟩ := c.def_ 26 (d := d_number_bytes) rfl
  exact ⟨_, fd, F, He.glo_ok X G (c.fact 18 (f := .glo "number_bytes") rfl)⟩
theorem fc_text_bytes (X : K.In h) (G : h.Ns mainGlobals mg) (c : He.SaysD faL fnL K) : Dfn K mg "text_bytes" s_text_bytes := by
  obtain ⟨fd, F⟩ := c.def_ 27 (d := d_text_bytes) rfl
  exact ⟨_, fd, F, He.glo_ok X G (c.fact 19 (f := .glo "text_bytes") rfl)⟩
theorem fc_cell_bytes (X : K.In h) (G : h.Ns mainGlobals mg) (c : He.SaysD faL fnL K) : Dfn K mg "cell_bytes" s_cell_bytes := by
  obtain ⟨fd, F⟩ := c.def_ 28 (d := d_cell_bytes) rfl
  exact ⟨_, fd, F, He.glo_ok X G (c.fact 20 (f := .glo "cell_bytes") rfl)⟩
theorem fc_byte_at (X : K.In h) (G : h.Ns mainGlobals mg) (c : He.SaysD faL fnL K) : Dfn K mg "byte_at" s_byte_at := by
  obtain ⟨fd, F⟩ := c.def_ 29 (d := d_byte_at) rfl
  exact ⟨_, fd, F, He.glo_ok X G (c.fact 21 (f := .glo "byte_at") rfl)⟩
theorem fc_number_of (X : K.In h) (G : h.Ns mainGlobals mg) (c : He.SaysD faL fnL K) : Dfn K mg "number_of" s_number_of := by
  obtain ⟨fd, F⟩ := c.def_ 30 (d := d_number_of) rfl
  exact ⟨_, fd, F, He.glo_ok X G (c.fact 22 (f := .glo "number_of") rfl)⟩
theorem fc_take_number (X : K.In h) (G : h.Ns mainGlobals mg) (c : He.SaysD faL fnL K) : Dfn K mg "take_number" s_take_number := by
  obtain ⟨fd, F⟩ := c.def_ 31 (d := d_take_number) rfl
  exact ⟨_, fd, F, He.glo_ok X G (c.fact 23 (f := .glo "take_number") rfl)⟩
theorem fc_take_text (X : K.In h) (G : h.Ns mainGlobals mg) (c : He.SaysD faL fnL K) : Dfn K mg "take_text" s_take_text := by
  obtain ⟨fd, F⟩ := c.def_ 32 (d := d_take_text) rfl
  exact ⟨_, fd, F, He.glo_ok X G (c.fact 24 (f := .glo "take_text") rfl)⟩
theorem fc_take_cell (X : K.In h) (G : h.Ns mainGlobals mg) (c : He.SaysD faL fnL K) : Dfn K mg "take_cell" s_take_cell := by
  obtain ⟨fd, F⟩ := c.def_ 33 (d := d_take_cell) rfl
  exact ⟨_, fd, F, He.glo_ok X G (c.fact 25 (f := .glo "take_cell") rfl)⟩
theorem fc_bits_for (X : K.In h) (G : h.Ns mainGlobals mg) (c : He.SaysD faL fnL K) : Dfn K mg "bits_for" s_bits_for := by
  obtain ⟨fd, F⟩ := c.def_ 34 (d := d_bits_for) rfl
  exact ⟨_, fd, F, He.glo_ok X G (c.fact 26 (f := .glo "bits_for") rfl)⟩
theorem fc_power_of (X : K.In h) (G : h.Ns mainGlobals mg) (c : He.SaysD faL fnL K) : Dfn K mg "power_of" s_power_of := by
  obtain ⟨fd, F⟩ := c.def_ 35 (d := d_power_of) rfl
  exact ⟨_, fd, F, He.glo_ok X G (c.fact 27 (f := .glo "power_of") rfl)⟩
theorem fc_byte_count (X : K.In h) (G : h.Ns mainGlobals mg) (c : He.SaysD faL fnL K) : Dfn K mg "byte_count" s_byte_count := by
  obtain ⟨fd, F⟩ := c.def_ 36 (d := d_byte_count) rfl
  exact ⟨_, fd, F, He.glo_ok X G (c.fact 28 (f := .glo "byte_count") rfl)⟩
theorem fc_packed (X : K.In h) (G : h.Ns mainGlobals mg) (c : He.SaysD faL fnL K) : Dfn K mg "packed" s_packed := by
  obtain ⟨fd, F⟩ := c.def_ 37 (d := d_packed) rfl
  exact ⟨_, fd, F, He.glo_ok X G (c.fact 29 (f := .glo "packed") rfl)⟩
theorem fc_take_packed (X : K.In h) (G : h.Ns mainGlobals mg) (c : He.SaysD faL fnL K) : Dfn K mg "take_packed" s_take_packed := by
  obtain ⟨fd, F⟩ := c.def_ 38 (d := d_take_packed) rfl
  exact ⟨_, fd, F, He.glo_ok X G (c.fact 30 (f := .glo "take_packed") rfl)⟩
theorem fc_runs_of (X : K.In h) (G : h.Ns mainGlobals mg) (c : He.SaysD faL fnL K) : Dfn K mg "runs_of" s_runs_of := by
  obtain ⟨fd, F⟩ := c.def_ 39 (d := d_runs_of) rfl
  exact ⟨_, fd, F, He.glo_ok X G (c.fact 31 (f := .glo "runs_of") rfl)⟩
theorem fc_book_of (X : K.In h) (G : h.Ns mainGlobals mg) (c : He.SaysD faL fnL K) : Dfn K mg "book_of" s_book_of := by
  obtain ⟨fd, F⟩ := c.def_ 40 (d := d_book_of) rfl
  exact ⟨_, fd, F, He.glo_ok X G (c.fact 32 (f := .glo "book_of") rfl)⟩
theorem fc_all_bytes (X : K.In h) (G : h.Ns mainGlobals mg) (c : He.SaysD faL fnL K) : Dfn K mg "all_bytes" s_all_bytes := by
  obtain ⟨fd, F⟩ := c.def_ 41 (d := d_all_bytes) rfl
  exact ⟨_, fd, F, He.glo_ok X G (c.fact 33 (f := .glo "all_bytes") rfl)⟩
theorem fc_run_bytes (X : K.In h) (G : h.Ns mainGlobals mg) (c : He.SaysD faL fnL K) : Dfn K mg "run_bytes" s_run_bytes := by
  obtain ⟨fd, F⟩ := c.def_ 42 (d := d_run_bytes) rfl
  exact ⟨_, fd, F, He.glo_ok X G (c.fact 34 (f := .glo "run_bytes") rfl)⟩
theorem fc_book_bytes (X : K.In h) (G : h.Ns mainGlobals mg) (c : He.SaysD faL fnL K) : Dfn K mg "book_bytes" s_book_bytes := by
  obtain ⟨fd, F⟩ := c.def_ 43 (d := d_book_bytes) rfl
  exact ⟨_, fd, F, He.glo_ok X G (c.fact 35 (f := .glo "book_bytes") rfl)⟩
theorem fc_small_bytes (X : K.In h) (G : h.Ns mainGlobals mg) (c : He.SaysD faL fnL K) : Dfn K mg "small_bytes" s_small_bytes := by
  obtain ⟨fd, F⟩ := c.def_ 44 (d := d_small_bytes) rfl
  exact ⟨_, fd, F, He.glo_ok X G (c.fact 36 (f := .glo "small_bytes") rfl)⟩
theorem fc_base_bytes (X : K.In h) (G : h.Ns mainGlobals mg) (c : He.SaysD faL fnL K) : Dfn K mg "base_bytes" s_base_bytes := by
  obtain ⟨fd, F⟩ := c.def_ 45 (d := d_base_bytes) rfl
  exact ⟨_, fd, F, He.glo_ok X G (c.fact 37 (f := .glo "base_bytes") rfl)⟩
theorem fc_step_bytes (X : K.In h) (G : h.Ns mainGlobals mg) (c : He.SaysD faL fnL K) : Dfn K mg "step_bytes" s_step_bytes := by
  obtain ⟨fd, F⟩ := c.def_ 46 (d := d_step_bytes) rfl
  exact ⟨_, fd, F, He.glo_ok X G (c.fact 38 (f := .glo "step_bytes") rfl)⟩
theorem fc_press_by (X : K.In h) (G : h.Ns mainGlobals mg) (c : He.SaysD faL fnL K) : Dfn K mg "press_by" s_press_by := by
  obtain ⟨fd, F⟩ := c.def_ 47 (d := d_press_by) rfl
  exact ⟨_, fd, F, He.glo_ok X G (c.fact 39 (f := .glo "press_by") rfl)⟩
theorem fc_pressed (X : K.In h) (G : h.Ns mainGlobals mg) (c : He.SaysD faL fnL K) : Dfn K mg "pressed" s_pressed := by
  obtain ⟨fd, F⟩ := c.def_ 48 (d := d_pressed) rfl
  exact ⟨_, fd, F, He.glo_ok X G (c.fact 40 (f := .glo "pressed") rfl)⟩
theorem fc_take_byte (X : K.In h) (G : h.Ns mainGlobals mg) (c : He.SaysD faL fnL K) : Dfn K mg "take_byte" s_take_byte := by
  obtain ⟨fd, F⟩ := c.def_ 49 (d := d_take_byte) rfl
  exact ⟨_, fd, F, He.glo_ok X G (c.fact 41 (f := .glo "take_byte") rfl)⟩
theorem fc_take_count (X : K.In h) (G : h.Ns mainGlobals mg) (c : He.SaysD faL fnL K) : Dfn K mg "take_count" s_take_count := by
  obtain ⟨fd, F⟩ := c.def_ 50 (d := d_take_count) rfl
  exact ⟨_, fd, F, He.glo_ok X G (c.fact 42 (f := .glo "take_count") rfl)⟩
theorem fc_take_cells (X : K.In h) (G : h.Ns mainGlobals mg) (c : He.SaysD faL fnL K) : Dfn K mg "take_cells" s_take_cells := by
  obtain ⟨fd, F⟩ := c.def_ 51 (d := d_take_cells) rfl
  exact ⟨_, fd, F, He.glo_ok X G (c.fact 43 (f := .glo "take_cells") rfl)⟩
theorem fc_take_runs (X : K.In h) (G : h.Ns mainGlobals mg) (c : He.SaysD faL fnL K) : Dfn K mg "take_runs" s_take_runs := by
  obtain ⟨fd, F⟩ := c.def_ 52 (d := d_take_runs) rfl
  exact ⟨_, fd, F, He.glo_ok X G (c.fact 44 (f := .glo "take_runs") rfl)⟩
theorem fc_take_book (X : K.In h) (G : h.Ns mainGlobals mg) (c : He.SaysD faL fnL K) : Dfn K mg "take_book" s_take_book := by
  obtain ⟨fd, F⟩ := c.def_ 53 (d := d_take_book) rfl
  exact ⟨_, fd, F, He.glo_ok X G (c.fact 45 (f := .glo "take_book") rfl)⟩
theorem fc_take_small (X : K.In h) (G : h.Ns mainGlobals mg) (c : He.SaysD faL fnL K) : Dfn K mg "take_small" s_take_small := by
  obtain ⟨fd, F⟩ := c.def_ 54 (d := d_take_small) rfl
  exact ⟨_, fd, F, He.glo_ok X G (c.fact 46 (f := .glo "take_small") rfl)⟩
theorem fc_run_cells (X : K.In h) (G : h.Ns mainGlobals mg) (c : He.SaysD faL fnL K) : Dfn K mg "run_cells" s_run_cells := by
  obtain ⟨fd, F⟩ := c.def_ 55 (d := d_run_cells) rfl
  exact ⟨_, fd, F, He.glo_ok X G (c.fact 47 (f := .glo "run_cells") rfl)⟩
theorem fc_book_cells (X : K.In h) (G : h.Ns mainGlobals mg) (c : He.SaysD faL fnL K) : Dfn K mg "book_cells" s_book_cells := by
  obtain ⟨fd, F⟩ := c.def_ 56 (d := d_book_cells) rfl
  exact ⟨_, fd, F, He.glo_ok X G (c.fact 48 (f := .glo "book_cells") rfl)⟩
theorem fc_base_cells (X : K.In h) (G : h.Ns mainGlobals mg) (c : He.SaysD faL fnL K) : Dfn K mg "base_cells" s_base_cells := by
  obtain ⟨fd, F⟩ := c.def_ 57 (d := d_base_cells) rfl
  exact ⟨_, fd, F, He.glo_ok X G (c.fact 49 (f := .glo "base_cells") rfl)⟩
theorem fc_step_cells (X : K.In h) (G : h.Ns mainGlobals mg) (c : He.SaysD faL fnL K) : Dfn K mg "step_cells" s_step_cells := by
  obtain ⟨fd, F⟩ := c.def_ 58 (d := d_step_cells) rfl
  exact ⟨_, fd, F, He.glo_ok X G (c.fact 50 (f := .glo "step_cells") rfl)⟩
theorem fc_cells_by (X : K.In h) (G : h.Ns mainGlobals mg) (c : He.SaysD faL fnL K) : Dfn K mg "cells_by" s_cells_by := by
  obtain ⟨fd, F⟩ := c.def_ 59 (d := d_cells_by) rfl
  exact ⟨_, fd, F, He.glo_ok X G (c.fact 51 (f := .glo "cells_by") rfl)⟩
theorem fc_take_head (X : K.In h) (G : h.Ns mainGlobals mg) (c : He.SaysD faL fnL K) : Dfn K mg "take_head" s_take_head := by
  obtain ⟨fd, F⟩ := c.def_ 60 (d := d_take_head) rfl
  exact ⟨_, fd, F, He.glo_ok X G (c.fact 52 (f := .glo "take_head") rfl)⟩
theorem fc_is_stretch (X : K.In h) (G : h.Ns mainGlobals mg) (c : He.SaysD faL fnL K) : Dfn K mg "is_stretch" s_is_stretch := by
  obtain ⟨fd, F⟩ := c.def_ 61 (d := d_is_stretch) rfl
  exact ⟨_, fd, F, He.glo_ok X G (c.fact 53 (f := .glo "is_stretch") rfl)⟩
theorem fc_unpressed (X : K.In h) (G : h.Ns mainGlobals mg) (c : He.SaysD faL fnL K) : Dfn K mg "unpressed" s_unpressed := by
  obtain ⟨fd, F⟩ := c.def_ 62 (d := d_unpressed) rfl
  exact ⟨_, fd, F, He.glo_ok X G (c.fact 54 (f := .glo "unpressed") rfl)⟩
theorem fc_Pillar_init (X : K.In h) (G : h.Ns mainGlobals mg) (c : He.SaysD faL fnL K) : Ifn K mg "Pillar" (He.ga K "Pillar") "Pillar.__init__" s_Pillar_init := by
  obtain ⟨fd, F⟩ := c.def_ 63 (d := d_Pillar_init) rfl
  exact ⟨_, fd, F, He.mkr_ok (c.fact 105 (f := .mkr "Pillar") rfl), He.glo_ok X G (c.fact 70 (f := .glo "Pillar") rfl)⟩
theorem fc_Pillar_notes (X : K.In h) (G : h.Ns mainGlobals mg) (c : He.SaysD faL fnL K) : Mfn K (He.ga K "Pillar") "notes" "Pillar.notes" s_Pillar_notes := by
  obtain ⟨fd, F⟩ := c.def_ 64 (d := d_Pillar_notes) rfl
  exact ⟨_, fd, F, He.cls_ok (c.fact 103 (f := .cls "Pillar") rfl), He.meth_ok (c.fact 113 (f := .meth "Pillar" "notes") rfl)⟩
theorem fc_Pillar_stretch (X : K.In h) (G : h.Ns mainGlobals mg) (c : He.SaysD faL fnL K) : Mfn K (He.ga K "Pillar") "stretch" "Pillar.stretch" s_Pillar_stretch := by
  obtain ⟨fd, F⟩ := c.def_ 65 (d := d_Pillar_stretch) rfl
  exact ⟨_, fd, F, He.cls_ok (c.fact 103 (f := .cls "Pillar") rfl), He.meth_ok (c.fact 114 (f := .meth "Pillar" "stretch") rfl)⟩
theorem fc_law_begin (X : K.In h) (G : h.Ns mainGlobals mg) (c : He.SaysD faL fnL K) : Dfn K mg "_law_begin" s_law_begin := by
  obtain ⟨fd, F⟩ := c.def_ 66 (d := d_law_begin) rfl
  exact ⟨_, fd, F, He.glo_ok X G (c.fact 55 (f := .glo "_law_begin") rfl)⟩
theorem fc_law_take (X : K.In h) (G : h.Ns mainGlobals mg) (c : He.SaysD faL fnL K) : Dfn K mg "_law_take" s_law_take := by
  obtain ⟨fd, F⟩ := c.def_ 67 (d := d_law_take) rfl
  exact ⟨_, fd, F, He.glo_ok X G (c.fact 56 (f := .glo "_law_take") rfl)⟩
theorem fc_law_number (X : K.In h) (G : h.Ns mainGlobals mg) (c : He.SaysD faL fnL K) : Dfn K mg "_law_number" s_law_number := by
  obtain ⟨fd, F⟩ := c.def_ 68 (d := d_law_number) rfl
  exact ⟨_, fd, F, He.glo_ok X G (c.fact 57 (f := .glo "_law_number") rfl)⟩
theorem fc_law_text (X : K.In h) (G : h.Ns mainGlobals mg) (c : He.SaysD faL fnL K) : Dfn K mg "_law_text" s_law_text := by
  obtain ⟨fd, F⟩ := c.def_ 69 (d := d_law_text) rfl
  exact ⟨_, fd, F, He.glo_ok X G (c.fact 58 (f := .glo "_law_text") rfl)⟩
theorem fc_law_cells (X : K.In h) (G : h.Ns mainGlobals mg) (c : He.SaysD faL fnL K) : Dfn K mg "_law_cells" s_law_cells := by
  obtain ⟨fd, F⟩ := c.def_ 70 (d := d_law_cells) rfl
  exact ⟨_, fd, F, He.glo_ok X G (c.fact 59 (f := .glo "_law_cells") rfl)⟩
theorem fc_law_kinds (X : K.In h) (G : h.Ns mainGlobals mg) (c : He.SaysD faL fnL K) : Dfn K mg "_law_kinds" s_law_kinds := by
  obtain ⟨fd, F⟩ := c.def_ 71 (d := d_law_kinds) rfl
  exact ⟨_, fd, F, He.glo_ok X G (c.fact 60 (f := .glo "_law_kinds") rfl)⟩
theorem fc_law_near (X : K.In h) (G : h.Ns mainGlobals mg) (c : He.SaysD faL fnL K) : Dfn K mg "_law_near" s_law_near := by
  obtain ⟨fd, F⟩ := c.def_ 72 (d := d_law_near) rfl
  exact ⟨_, fd, F, He.glo_ok X G (c.fact 61 (f := .glo "_law_near") rfl)⟩
theorem fc_law_cell_test (X : K.In h) (G : h.Ns mainGlobals mg) (c : He.SaysD faL fnL K) : Dfn K mg "_law_cell_test" s_law_cell_test := by
  obtain ⟨fd, F⟩ := c.def_ 73 (d := d_law_cell_test) rfl
  exact ⟨_, fd, F, He.glo_ok X G (c.fact 62 (f := .glo "_law_cell_test") rfl)⟩
theorem fc_law_test (X : K.In h) (G : h.Ns mainGlobals mg) (c : He.SaysD faL fnL K) : Dfn K mg "_law_test" s_law_test := by
  obtain ⟨fd, F⟩ := c.def_ 74 (d := d_law_test) rfl
  exact ⟨_, fd, F, He.glo_ok X G (c.fact 63 (f := .glo "_law_test") rfl)⟩
theorem fc_law_shape (X : K.In h) (G : h.Ns mainGlobals mg) (c : He.SaysD faL fnL K) : Dfn K mg "_law_shape" s_law_shape := by
  obtain ⟨fd, F⟩ := c.def_ 75 (d := d_law_shape) rfl
  exact ⟨_, fd, F, He.glo_ok X G (c.fact 64 (f := .glo "_law_shape") rfl)⟩
theorem fc_law_same (X : K.In h) (G : h.Ns mainGlobals mg) (c : He.SaysD faL fnL K) : Dfn K mg "_law_same" s_law_same := by
  obtain ⟨fd, F⟩ := c.def_ 76 (d := d_law_same) rfl
  exact ⟨_, fd, F, He.glo_ok X G (c.fact 65 (f := .glo "_law_same") rfl)⟩
theorem fc_law_reads_right (X : K.In h) (G : h.Ns mainGlobals mg) (c : He.SaysD faL fnL K) : Dfn K mg "_law_reads_right" s_law_reads_right := by
  obtain ⟨fd, F⟩ := c.def_ 77 (d := d_law_reads_right) rfl
  exact ⟨_, fd, F, He.glo_ok X G (c.fact 66 (f := .glo "_law_reads_right") rfl)⟩
theorem fc_law_right (X : K.In h) (G : h.Ns mainGlobals mg) (c : He.SaysD faL fnL K) : Dfn K mg "_law_right" s_law_right := by
  obtain ⟨fd, F⟩ := c.def_ 78 (d := d_law_right) rfl
  exact ⟨_, fd, F, He.glo_ok X G (c.fact 67 (f := .glo "_law_right") rfl)⟩
theorem fc_law (X : K.In h) (G : h.Ns mainGlobals mg) (c : He.SaysD faL fnL K) : Dfn K mg "law" s_law := by
  obtain ⟨fd, F⟩ := c.def_ 79 (d := d_law) rfl
  exact ⟨_, fd, F, He.glo_ok X G (c.fact 68 (f := .glo "law") rfl)⟩
theorem law_body (X : K.In h) (G : h.Ns mainGlobals mg) (c : He.SaysD faL fnL K) (cx : exB K = true) : Bdy P w K mg base "law" s_law N_law 21 (sp_law K) := by
  have T := gf_of X G c cx
  have c_number_bytes := ok_number_bytes (P := P) (w := w) (base := base) T (fc_number_bytes X G c)
  have c_text_bytes := ok_text_bytes (P := P) (w := w) (base := base) T (fc_text_bytes X G c) c_number_bytes
  have c_cell_bytes := ok_cell_bytes (P := P) (w := w) (base := base) T (fc_cell_bytes X G c) c_text_bytes c_number_bytes
  have c_byte_at := ok_byte_at (P := P) (w := w) (base := base) T (fc_byte_at X G c)
  have c_number_of := ok_number_of (P := P) (w := w) (base := base) T (fc_number_of X G c)
  have c_take_number := ok_take_number (P := P) (w := w) (base := base) T (fc_take_number X G c) c_byte_at c_number_of
  have c_take_text := ok_take_text (P := P) (w := w) (base := base) T (fc_take_text X G c) c_take_number c_byte_at
  have c_take_cell := ok_take_cell (P := P) (w := w) (base := base) T (fc_take_cell X G c) c_byte_at c_take_number c_take_text
  have c_bits_for := ok_bits_for (P := P) (w := w) (base := base) T (fc_bits_for X G c)
  have c_power_of := ok_power_of (P := P) (w := w) (base := base) T (fc_power_of X G c)
  have c_byte_count := ok_byte_count (P := P) (w := w) (base := base) T (fc_byte_count X G c)
  have c_packed := ok_packed (P := P) (w := w) (base := base) T (fc_packed X G c) c_power_of c_byte_count
  have c_take_packed := ok_take_packed (P := P) (w := w) (base := base) T (fc_take_packed X G c) c_power_of c_byte_count
  have c_is_number := ok_is_number (P := P) (w := w) (base := base) T (fc_is_number X G c)
  have c_is_text_cell := ok_is_text_cell (P := P) (w := w) (base := base) T (fc_is_text_cell X G c)
  have c_is_cell_of := ok_is_cell_of (P := P) (w := w) (base := base) T (fc_is_cell_of X G c) c_is_text_cell c_is_number
  have c_cell_key := ok_cell_key (P := P) (w := w) (base := base) T (fc_cell_key X G c) c_is_number
  have c_is_so := ok_is_so (P := P) (w := w) (base := base) T (fc_is_so X G c)
  have c_meets := ok_meets (P := P) (w := w) (base := base) T (fc_meets X G c) c_is_so
  have c_has_none := ok_has_none (P := P) (w := w) (base := base) T (fc_has_none X G c) c_is_so
  have c_has_all := ok_has_all (P := P) (w := w) (base := base) T (fc_has_all X G c) c_is_so
  have c_looked_open := ok_looked_open (P := P) (w := w) (base := base) T (fc_looked_open X G c)
  have c_looked := ok_looked (P := P) (w := w) (base := base) T (fc_looked X G c) c_looked_open c_has_none c_has_all
  have c_pair_meets := ok_pair_meets (P := P) (w := w) (base := base) T (fc_pair_meets X G c) c_meets
  have c_row_meets := ok_row_meetsN (P := P) (w := w) (base := base) T (fc_row_meets X G c) c_meets c_pair_meets 6
  have c_note_of := ok_note_of (P := P) (w := w) (base := base) T (fc_note_of X G c)
  have c_runs_of := ok_runs_of (P := P) (w := w) (base := base) T (fc_runs_of X G c)
  have c_book_of := ok_book_of (P := P) (w := w) (base := base) T (fc_book_of X G c) c_cell_key
  have c_all_bytes := ok_all_bytes (P := P) (w := w) (base := base) T (fc_all_bytes X G c) c_cell_bytes
  have c_run_bytes := ok_run_bytes (P := P) (w := w) (base := base) T (fc_run_bytes X G c) c_runs_of c_number_bytes c_cell_bytes
  have c_book_bytes := ok_book_bytes (P := P) (w := w) (base := base) T (fc_book_bytes X G c) c_book_of c_packed c_bits_for c_number_bytes c_all_bytes
  have c_small_bytes := ok_small_bytes (P := P) (w := w) (base := base) T (fc_small_bytes X G c) c_bits_for c_packed
  have c_base_bytes := ok_base_bytes (P := P) (w := w) (base := base) T (fc_base_bytes X G c) c_number_bytes c_small_bytes
  have c_step_bytes := ok_step_bytes (P := P) (w := w) (base := base) T (fc_step_bytes X G c) c_small_bytes c_number_bytes
  have c_press_by := ok_press_by (P := P) (w := w) (base := base) T (fc_press_by X G c) c_number_bytes c_step_bytes c_all_bytes c_run_bytes c_book_bytes c_base_bytes c_is_number
  have c_pressed := ok_pressed (P := P) (w := w) (base := base) T (fc_pressed X G c) c_press_by
  have c_take_byte := ok_take_byte (P := P) (w := w) (base := base) T (fc_take_byte X G c)
  have c_take_count := ok_take_count (P := P) (w := w) (base := base) T (fc_take_count X G c) c_take_number
  have c_take_cells := ok_take_cells (P := P) (w := w) (base := base) T (fc_take_cells X G c) c_take_cell
  have c_take_runs := ok_take_runs (P := P) (w := w) (base := base) T (fc_take_runs X G c) c_take_count c_take_cell
  have c_take_book := ok_take_book (P := P) (w := w) (base := base) T (fc_take_book X G c) c_take_count c_take_cells c_take_packed c_bits_for
  have c_take_small := ok_take_small (P := P) (w := w) (base := base) T (fc_take_small X G c) c_take_byte c_take_packed
  have c_run_cells := ok_run_cells (P := P) (w := w) (base := base) T (fc_run_cells X G c) c_take_runs
  have c_book_cells := ok_book_cells (P := P) (w := w) (base := base) T (fc_book_cells X G c) c_take_book
  have c_base_cells := ok_base_cells (P := P) (w := w) (base := base) T (fc_base_cells X G c) c_take_number c_take_small
  have c_step_cells := ok_step_cells (P := P) (w := w) (base := base) T (fc_step_cells X G c) c_take_number c_take_small
  have c_cells_by := ok_cells_by (P := P) (w := w) (base := base) T (fc_cells_by X G c) c_step_cells c_take_cells c_run_cells c_book_cells c_base_cells
  have c_take_head := ok_take_head (P := P) (w := w) (base := base) T (fc_take_head X G c) c_take_byte c_take_count
  have c_is_stretch := ok_is_stretch (P := P) (w := w) (base := base) T (fc_is_stretch X G c) c_is_cell_of
  have c_unpressed := ok_unpressed (P := P) (w := w) (base := base) T (fc_unpressed X G c) c_take_head c_cells_by c_is_stretch c_press_by
  have c_Pillar_notes := ok_Pillar_notes (P := P) (w := w) (base := base) T (fc_Pillar_notes X G c)
  have c_Pillar_stretch := ok_Pillar_stretch (P := P) (w := w) (base := base) T (fc_Pillar_stretch X G c) c_unpressed
  have c_Pillar := ok_Pillar_init (P := P) (w := w) (base := base) T (fc_Pillar_init X G c) c_pressed c_note_of
  have c_Glance := ok_Glance_init (P := P) (w := w) (base := base) T (fc_Glance_init X G c)
  have c_Glance_size := ok_Glance_size (P := P) (w := w) (base := base) T (fc_Glance_size X G c)
  have c_Glance_all_open := ok_Glance_all_open (P := P) (w := w) (base := base) T (fc_Glance_all_open X G c)
  have c_Glance_had := ok_Glance_had (P := P) (w := w) (base := base) T (fc_Glance_had X G c) c_Pillar_stretch
  have c_Glance_places_seen := ok_Glance_places_seen (P := P) (w := w) (base := base) T (fc_Glance_places_seen X G c)
  have c_Glance_cell_bits := ok_Glance_cell_bits (P := P) (w := w) (base := base) T (fc_Glance_cell_bits X G c) c_looked c_Glance_size c_meets c_Glance_had
  have c_Glance_pair_bits := ok_Glance_pair_bits (P := P) (w := w) (base := base) T (fc_Glance_pair_bits X G c) c_Glance_had c_Glance_all_open c_Glance_size c_pair_meets
  have c_Glance_bits := ok_Glance_bitsN (P := P) (w := w) (base := base) T (fc_Glance_bits X G c) c_Glance_cell_bits c_Glance_pair_bits c_Glance_size 6
  have c_glances := ok_glances (P := P) (w := w) (base := base) T (fc_glances X G c) c_Pillar_notes c_Glance
  have c_sieved := ok_sieved (P := P) (w := w) (base := base) T (fc_sieved X G c) c_glances 6 c_Glance_bits c_Glance_places_seen
  have c_rows_picked := ok_rows_picked (P := P) (w := w) (base := base) T (fc_rows_picked X G c) c_Glance_had
  have c_picked := ok_picked (P := P) (w := w) (base := base) T (fc_picked X G c) c_glances c_Glance_size c_rows_picked c_Glance_places_seen
  have c_law_begin := ok_law_begin (P := P) (w := w) (base := base) T (fc_law_begin X G c)
  have c_law_take := ok_law_take (P := P) (w := w) (base := base) T (fc_law_take X G c)
  have c_law_number := ok_law_number (P := P) (w := w) (base := base) T (fc_law_number X G c) c_law_take
  have c_law_kinds := ok_law_kinds (P := P) (w := w) (base := base) T (fc_law_kinds X G c) c_law_take
  have c_law_shape := ok_law_shape (P := P) (w := w) (base := base) T (fc_law_shape X G c) c_law_take
  have c_law_text := ok_law_text (P := P) (w := w) (base := base) T (fc_law_text X G c) c_law_take
  have c_law_near := ok_law_near (P := P) (w := w) (base := base) T (fc_law_near X G c) c_law_take c_law_text c_law_number
  have c_law_cell_test := ok_law_cell_test (P := P) (w := w) (base := base) T (fc_law_cell_test X G c) c_law_take c_law_near
  have c_law_cells := ok_law_cells (P := P) (w := w) (base := base) T (fc_law_cells X G c) c_law_take c_law_text c_law_number
  have c_law_test := ok_law_testN (P := P) (w := w) (base := base) T (fc_law_test X G c) c_law_take c_law_cell_test 3
  have c_places_in := ok_places_inN (P := P) (w := w) (base := base) T (fc_places_in X G c) 6
  have c_law_same := ok_law_sameN (P := P) (w := w) (base := base) T (fc_law_same X G c) 3
  have c_law_reads_right := ok_law_reads_right (P := P) (w := w) (base := base) T (fc_law_reads_right X G c) 6 c_places_in
  have c_law_right := ok_law_right (P := P) (w := w) (base := base) T (fc_law_right X G c) 6 c_sieved c_picked c_law_same c_law_reads_right c_row_meets
  exact bdy_law T c_law_begin c_law_kinds c_law_shape c_law_cells c_Pillar c_law_take c_law_test c_law_right c_sieved
end
end Pk
open PySem PySem.W PySem.Calls PyProof.Rows
theorem PySem.Challenge.cw_pillarstore_k27_sieves_whole_holds : PySem.Challenge.rw_pillarstore_k27_sieves_whole.Holds := by
  w_on; o_law
  refine HandSHeadRun.head_any (r := Pk.RR) (q := view Pk.RR.prog [97]) (H := Pk.hkL) (ob := Pk.obL) (M := 6000) (loose := Pk.namL) (d := HandSHeadRun.topDef Pk.RR.prog 97) (kwd := []) Pk.obL_eq
    (by kernel_rfl) (fun s => by kernel_rfl) Pk.runL (by kernel_rfl) (by kernel_rfl) (by kernel_rfl) (by rfl) (by first | assumption | decide +kernel) (by decide +kernel) ⟨rfl, rfl, rfl, rfl, rfl, by decide +kernel⟩ ?hw ?hc
  case hw => w_witness2
  case hc =>
    refine L2.walk_ofE (l := PySem.Challenge.rw_pillarstore_k27_sieves_whole) (n := 63) (k := 22) (x := "_law_script") (CX := L2.CX0) rfl (by decide) (by kernel_rfl) ⟨rfl, by decide, by decide⟩ ?F (fun _ _ _ _ z => z)
    intro w mg fa h Y G hmg0
    obtain ⟨K, KX, c, cx⟩ := Y
    have hmg : mg ("law" : PySem.Str) = some (.ref fa) := by
      have e : (HandSHeadRun.topDef Pk.RR.prog 97).name = ("law" : PySem.Str) := by kernel_rfl
      rw [← e]
      exact hmg0
    obtain ⟨fd, F⟩ := c.def_ 79 (d := Pk.d_law) rfl
    have e := hmg.symm.trans (He.glo_ok KX G (c.fact 68 (f := .glo "law") rfl))
    cases e
    have b := L2.FunD.bindsA (ps := ["_law_script"]) F fun _ _ _ _ _ _ us hl => match us, hl with | [_], _ => rfl
    exact ⟨K, fd, Pk.sp_law K, KX, fun s v => b s [v] rfl, fun H a ns hl _ hS => ⟨a, ns, rfl, hS, fun _ => rfl⟩, fun base _ _ => Pk.fnok_mk F Pk.sc_law (fun vs H Q E z => Pk.len_law vs H Q E z) (Pk.law_body KX G c cx)⟩
