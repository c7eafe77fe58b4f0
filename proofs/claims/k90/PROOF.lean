import PyProof.Rows.All
import Wide.All
import OpenK.AllK
import Wide.FinOn
import KE.KStateDown
import Lean
import HandS.ForMost
import HandS.Exc
import HandS.ExcOwn
import HandS.ExcInit
import HandS.TryOnly
import HandS.WordsExc
import HandS.Defaults
import HandS.Head0
import HandS.Head1
import HandS.Head2
import HandS.HeadEnd
import HandS.HeadHook1
import HandS.HeadHook2
import PySem.Challenge.RW_pillarstore_k90_whole_pressed_is_read
import HandS.IsInst
import HandS.Rev
import HandS.Zip
import HandS.TupAny
import HandS.Deep
import HandS.Strs
import HandS.StrMore
import HandS.Wide
import HandS.WideBits
import HandS.SortKw
import HandS.More
import HandS.NoneIn
import KE.DataMinKey
import HandS.Conv
import KE.KDictZip
import KE.GoesMore
import KE.GoesEnum
import PyProof.ListNew
import KE.SortKeyHeap
import HandS.Codes
set_option Elab.async false
set_option linter.all false
set_option maxRecDepth 100000
set_option maxHeartbeats 4000000
namespace K90
open PySem PySem.Spec PyProof.Rows L2
/-! ### the text by places -/
def top (i : Nat) : Stmt := PySem.Challenge.pw_pillarstore_k90_whole_pressed_is_read.main.body.getD i (.Pass ⟨0, 0, 0, 0⟩)
abbrev s_wall : Stmt := top 0
abbrev s_is_number : Stmt := top 5
abbrev s_is_text_cell : Stmt := top 6
abbrev s_is_cell_of : Stmt := top 7
abbrev s_cell_key : Stmt := top 8
abbrev s_BadBytes_init : Stmt := inClass (top 12) 0
abbrev s_number_bytes : Stmt := top 18
abbrev s_text_bytes : Stmt := top 19
abbrev s_cell_bytes : Stmt := top 20
abbrev s_byte_at : Stmt := top 21
abbrev s_number_of : Stmt := top 22
abbrev s_take_number : Stmt := top 23
abbrev s_take_text : Stmt := top 24
abbrev s_take_cell : Stmt := top 25
abbrev s_bits_for : Stmt := top 26
abbrev s_power_of : Stmt := top 27
abbrev s_byte_count : Stmt := top 28
abbrev s_packed : Stmt := top 29
abbrev s_take_packed : Stmt := top 30
abbrev s_is_so : Stmt := top 32
abbrev s_meets : Stmt := top 33
abbrev s_note_of : Stmt := top 34
abbrev s_runs_of : Stmt := top 37
abbrev s_book_of : Stmt := top 38
abbrev s_all_bytes : Stmt := top 39
abbrev s_run_bytes : Stmt := top 40
abbrev s_book_bytes : Stmt := top 41
abbrev s_small_bytes : Stmt := top 42
abbrev s_base_bytes : Stmt := top 43
abbrev s_step_bytes : Stmt := top 44
abbrev s_press_by : Stmt := top 45
abbrev s_pressed : Stmt := top 46
abbrev s_take_byte : Stmt := top 51
abbrev s_take_count : Stmt := top 52
abbrev s_take_cells : Stmt := top 53
abbrev s_take_runs : Stmt := top 54
abbrev s_take_book : Stmt := top 55
abbrev s_take_small : Stmt := top 56
abbrev s_run_cells : Stmt := top 57
abbrev s_book_cells : Stmt := top 58
abbrev s_base_cells : Stmt := top 59
abbrev s_step_cells : Stmt := top 60
abbrev s_cells_by : Stmt := top 61
abbrev s_take_head : Stmt := top 62
abbrev s_is_stretch : Stmt := top 63
abbrev s_unpressed : Stmt := top 64
abbrev s_count_in : Stmt := top 65
abbrev s_cell_in : Stmt := top 66
abbrev s_kept_in : Stmt := top 67
abbrev s_Pillar_init : Stmt := inClass (top 69) 0
abbrev s_Pillar_many : Stmt := inClass (top 69) 1
abbrev s_Pillar_rows : Stmt := inClass (top 69) 2
abbrev s_Pillar_notes : Stmt := inClass (top 69) 3
abbrev s_Pillar_stretch : Stmt := inClass (top 69) 4
abbrev s_Pillar_cell : Stmt := inClass (top 69) 5
abbrev s_sum_of : Stmt := top 77
abbrev s_summed : Stmt := top 78
abbrev s_columns_of : Stmt := top 79
abbrev s_pillars_of : Stmt := top 80
abbrev s_heap_bytes : Stmt := top 81
abbrev s_take_bounded : Stmt := top 82
abbrev s_take_kinds : Stmt := top 83
abbrev s_take_heap_head : Stmt := top 84
abbrev s_take_stretch : Stmt := top 85
abbrev s_take_pillar : Stmt := top 86
abbrev s_rise_from : Stmt := top 87
abbrev s_are_entries : Stmt := top 88
abbrev s_Heap_init : Stmt := inClass (top 89) 0
abbrev s_Heap_kinds : Stmt := inClass (top 89) 1
abbrev s_Heap_long : Stmt := inClass (top 89) 2
abbrev s_Heap_entries : Stmt := inClass (top 89) 3
abbrev s_Heap_pillars : Stmt := inClass (top 89) 4
abbrev s_law_begin : Stmt := top 91
abbrev s_law_take : Stmt := top 92
abbrev s_law_number : Stmt := top 93
abbrev s_law_text : Stmt := top 94
abbrev s_law_cells : Stmt := top 95
abbrev s_law_kind : Stmt := top 96
abbrev s_law_near_cells : Stmt := top 97
abbrev s_law_some_cells : Stmt := top 98
abbrev s_law_value : Stmt := top 99
abbrev s_law_test : Stmt := top 100
abbrev s_law_same : Stmt := top 101
abbrev s_law_kinds : Stmt := top 102
abbrev s_law_rows : Stmt := top 103
abbrev s_law_bent : Stmt := top 104
abbrev s_law_read : Stmt := top 105
abbrev s_law_one_row : Stmt := top 106
abbrev s_law_stretch : Stmt := top 107
abbrev s_law_entries : Stmt := top 108
abbrev s_law_heap : Stmt := top 109
abbrev s_law : Stmt := top 110
/-! ### the head: what is told of the top -/
def d_is_number : He.DefD := ⟨("is_number", none), "is_number", "is_number", defArgs s_is_number, defBody s_is_number, defScope s_is_number, [], []⟩
def d_is_text_cell : He.DefD := ⟨("is_text_cell", none), "is_text_cell", "is_text_cell", defArgs s_is_text_cell, defBody s_is_text_cell, defScope s_is_text_cell, [], []⟩
def d_is_cell_of : He.DefD := ⟨("is_cell_of", none), "is_cell_of", "is_cell_of", defArgs s_is_cell_of, defBody s_is_cell_of, defScope s_is_cell_of, [], []⟩
def d_cell_key : He.DefD := ⟨("cell_key", none), "cell_key", "cell_key", defArgs s_cell_key, defBody s_cell_key, defScope s_cell_key, [], []⟩
def d_BadBytes_init : He.DefD := ⟨("BadBytes", some "__init__"), "__init__", "BadBytes.__init__", defArgs s_BadBytes_init, defBody s_BadBytes_init, defScope s_BadBytes_init, [], []⟩
def d_number_bytes : He.DefD := ⟨("number_bytes", none), "number_bytes", "number_bytes", defArgs s_number_bytes, defBody s_number_bytes, defScope s_number_bytes, [], []⟩
def d_text_bytes : He.DefD := ⟨("text_bytes", none), "text_bytes", "text_bytes", defArgs s_text_bytes, defBody s_text_bytes, defScope s_text_bytes, [], []⟩
def d_cell_bytes : He.DefD := ⟨("cell_bytes", none), "cell_bytes", "cell_bytes", defArgs s_cell_bytes, defBody s_cell_bytes, defScope s_cell_bytes, [], []⟩
def d_byte_at : He.DefD := ⟨("byte_at", none), "byte_at", "byte_at", defArgs s_byte_at, defBody s_byte_at, defScope s_byte_at, [], []⟩
def d_number_of : He.DefD := ⟨("number_of", none), "number_of", "number_of", defArgs s_number_of, defBody s_number_of, defScope s_number_of, [], []⟩
def d_take_number : He.DefD := ⟨("take_number", none), "take_number", "take_number", defArgs s_take_number, defBody s_take_number, defScope s_take_number, [], []⟩
def d_take_text : He.DefD := ⟨("take_text", none), "take_text", "take_text", defArgs s_take_text, defBody s_take_text, defScope s_take_text, [], []⟩
def d_take_cell : He.DefD := ⟨("take_cell", none), "take_cell", "take_cell", defArgs s_take_cell, defBody s_take_cell, defScope s_take_cell, [], []⟩
def d_bits_for : He.DefD := ⟨("bits_for", none), "bits_for", "bits_for", defArgs s_bits_for, defBody s_bits_for, defScope s_bits_for, [], []⟩
def d_power_of : He.DefD := ⟨("power_of", none), "power_of", "power_of", defArgs s_power_of, defBody s_power_of, defScope s_power_of, [], []⟩
def d_byte_count : He.DefD := ⟨("byte_count", none), "byte_count", "byte_count", defArgs s_byte_count, defBody s_byte_count, defScope s_byte_count, [], []⟩
def d_packed : He.DefD := ⟨("packed", none), "packed", "packed", defArgs s_packed, defBody s_packed, defScope s_packed, [], []⟩
def d_take_packed : He.DefD := ⟨("take_packed", none), "take_packed", "take_packed", defArgs s_take_packed, defBody s_take_packed, defScope s_take_packed, [], []⟩
def d_is_so : He.DefD := ⟨("is_so", none), "is_so", "is_so", defArgs s_is_so, defBody s_is_so, defScope s_is_so, [], []⟩
def d_meets : He.DefD := ⟨("meets", none), "meets", "meets", defArgs s_meets, defBody s_meets, defScope s_meets, [], []⟩
def d_note_of : He.DefD := ⟨("note_of", none), "note_of", "note_of", defArgs s_note_of, defBody s_note_of, defScope s_note_of, [], []⟩
def d_runs_of : He.DefD := ⟨("runs_of", none), "runs_of", "runs_of", defArgs s_runs_of, defBody s_runs_of, defScope s_runs_of, [], []⟩
def d_book_of : He.DefD := ⟨("book_of", none), "book_of", "book_of", defArgs s_book_of, defBody s_book_of, defScope s_book_of, [], []⟩
def d_all_bytes : He.DefD := ⟨("all_bytes", none), "all_bytes", "all_bytes", defArgs s_all_bytes, defBody s_all_bytes, defScope s_all_bytes, [], []⟩
def d_run_bytes : He.DefD := ⟨("run_bytes", none), "run_bytes", "run_bytes", defArgs s_run_bytes, defBody s_run_bytes, defScope s_run_bytes, [], []⟩
def d_book_bytes : He.DefD := ⟨("book_bytes", none), "book_bytes", "book_bytes", defArgs s_book_bytes, defBody s_book_bytes, defScope s_book_bytes, [], []⟩
def d_small_bytes : He.DefD := ⟨("small_bytes", none), "small_bytes", "small_bytes", defArgs s_small_bytes, defBody s_small_bytes, defScope s_small_bytes, [], []⟩
def d_base_bytes : He.DefD := ⟨("base_bytes", none), "base_bytes", "base_bytes", defArgs s_base_bytes, defBody s_base_bytes, defScope s_base_bytes, [], []⟩
def d_step_bytes : He.DefD := ⟨("step_bytes", none), "step_bytes", "step_bytes", defArgs s_step_bytes, defBody s_step_bytes, defScope s_step_bytes, [], []⟩
def d_press_by : He.DefD := ⟨("press_by", none), "press_by", "press_by", defArgs s_press_by, defBody s_press_by, defScope s_press_by, [], []⟩
def d_pressed : He.DefD := ⟨("pressed", none), "pressed", "pressed", defArgs s_pressed, defBody s_pressed, defScope s_pressed, [], []⟩
def d_take_byte : He.DefD := ⟨("take_byte", none), "take_byte", "take_byte", defArgs s_take_byte, defBody s_take_byte, defScope s_take_byte, [], []⟩
def d_take_count : He.DefD := ⟨("take_count", none), "take_count", "take_count", defArgs s_take_count, defBody s_take_count, defScope s_take_count, [], []⟩
def d_take_cells : He.DefD := ⟨("take_cells", none), "take_cells", "take_cells", defArgs s_take_cells, defBody s_take_cells, defScope s_take_cells, [], []⟩
def d_take_runs : He.DefD := ⟨("take_runs", none), "take_runs", "take_runs", defArgs s_take_runs, defBody s_take_runs, defScope s_take_runs, [], []⟩
def d_take_book : He.DefD := ⟨("take_book", none), "take_book", "take_book", defArgs s_take_book, defBody s_take_book, defScope s_take_book, [], []⟩
def d_take_small : He.DefD := ⟨("take_small", none), "take_small", "take_small", defArgs s_take_small, defBody s_take_small, defScope s_take_small, [], []⟩
def d_run_cells : He.DefD := ⟨("run_cells", none), "run_cells", "run_cells", defArgs s_run_cells, defBody s_run_cells, defScope s_run_cells, [], []⟩
def d_book_cells : He.DefD := ⟨("book_cells", none), "book_cells", "book_cells", defArgs s_book_cells, defBody s_book_cells, defScope s_book_cells, [], []⟩
def d_base_cells : He.DefD := ⟨("base_cells", none), "base_cells", "base_cells", defArgs s_base_cells, defBody s_base_cells, defScope s_base_cells, [], []⟩
def d_step_cells : He.DefD := ⟨("step_cells", none), "step_cells", "step_cells", defArgs s_step_cells, defBody s_step_cells, defScope s_step_cells, [], []⟩
def d_cells_by : He.DefD := ⟨("cells_by", none), "cells_by", "cells_by", defArgs s_cells_by, defBody s_cells_by, defScope s_cells_by, [], []⟩
def d_take_head : He.DefD := ⟨("take_head", none), "take_head", "take_head", defArgs s_take_head, defBody s_take_head, defScope s_take_head, [], []⟩
def d_is_stretch : He.DefD := ⟨("is_stretch", none), "is_stretch", "is_stretch", defArgs s_is_stretch, defBody s_is_stretch, defScope s_is_stretch, [], []⟩
def d_unpressed : He.DefD := ⟨("unpressed", none), "unpressed", "unpressed", defArgs s_unpressed, defBody s_unpressed, defScope s_unpressed, [], []⟩
def d_count_in : He.DefD := ⟨("count_in", none), "count_in", "count_in", defArgs s_count_in, defBody s_count_in, defScope s_count_in, [], []⟩
def d_cell_in : He.DefD := ⟨("cell_in", none), "cell_in", "cell_in", defArgs s_cell_in, defBody s_cell_in, defScope s_cell_in, [], []⟩
def d_kept_in : He.DefD := ⟨("kept_in", none), "kept_in", "kept_in", defArgs s_kept_in, defBody s_kept_in, defScope s_kept_in, [], []⟩
def d_Pillar_init : He.DefD := ⟨("Pillar", some "__init__"), "__init__", "Pillar.__init__", defArgs s_Pillar_init, defBody s_Pillar_init, defScope s_Pillar_init, [], []⟩
def d_Pillar_many : He.DefD := ⟨("Pillar", some "many"), "many", "Pillar.many", defArgs s_Pillar_many, defBody s_Pillar_many, defScope s_Pillar_many, [], []⟩
def d_Pillar_rows : He.DefD := ⟨("Pillar", some "rows"), "rows", "Pillar.rows", defArgs s_Pillar_rows, defBody s_Pillar_rows, defScope s_Pillar_rows, [], []⟩
def d_sum_of : He.DefD := ⟨("sum_of", none), "sum_of", "sum_of", defArgs s_sum_of, defBody s_sum_of, defScope s_sum_of, [], []⟩
def d_summed : He.DefD := ⟨("summed", none), "summed", "summed", defArgs s_summed, defBody s_summed, defScope s_summed, [], []⟩
def d_columns_of : He.DefD := ⟨("columns_of", none), "columns_of", "columns_of", defArgs s_columns_of, defBody s_columns_of, defScope s_columns_of, [], []⟩
def d_pillars_of : He.DefD := ⟨("pillars_of", none), "pillars_of", "pillars_of", defArgs s_pillars_of, defBody s_pillars_of, defScope s_pillars_of, [], []⟩
def d_heap_bytes : He.DefD := ⟨("heap_bytes", none), "heap_bytes", "heap_bytes", defArgs s_heap_bytes, defBody s_heap_bytes, defScope s_heap_bytes, [], []⟩
def d_take_bounded : He.DefD := ⟨("take_bounded", none), "take_bounded", "take_bounded", defArgs s_take_bounded, defBody s_take_bounded, defScope s_take_bounded, [], []⟩
def d_take_kinds : He.DefD := ⟨("take_kinds", none), "take_kinds", "take_kinds", defArgs s_take_kinds, defBody s_take_kinds, defScope s_take_kinds, [], []⟩
def d_take_heap_head : He.DefD := ⟨("take_heap_head", none), "take_heap_head", "take_heap_head", defArgs s_take_heap_head, defBody s_take_heap_head, defScope s_take_heap_head, [], []⟩
def d_take_stretch : He.DefD := ⟨("take_stretch", none), "take_stretch", "take_stretch", defArgs s_take_stretch, defBody s_take_stretch, defScope s_take_stretch, [], []⟩
def d_take_pillar : He.DefD := ⟨("take_pillar", none), "take_pillar", "take_pillar", defArgs s_take_pillar, defBody s_take_pillar, defScope s_take_pillar, [], []⟩
def d_rise_from : He.DefD := ⟨("rise_from", none), "rise_from", "rise_from", defArgs s_rise_from, defBody s_rise_from, defScope s_rise_from, [], []⟩
def d_are_entries : He.DefD := ⟨("are_entries", none), "are_entries", "are_entries", defArgs s_are_entries, defBody s_are_entries, defScope s_are_entries, [], []⟩
def d_Heap_init : He.DefD := ⟨("Heap", some "__init__"), "__init__", "Heap.__init__", defArgs s_Heap_init, defBody s_Heap_init, defScope s_Heap_init, [], []⟩
def d_Heap_kinds : He.DefD := ⟨("Heap", some "kinds"), "kinds", "Heap.kinds", defArgs s_Heap_kinds, defBody s_Heap_kinds, defScope s_Heap_kinds, [], []⟩
def d_Heap_long : He.DefD := ⟨("Heap", some "long"), "long", "Heap.long", defArgs s_Heap_long, defBody s_Heap_long, defScope s_Heap_long, [], []⟩
def d_Heap_entries : He.DefD := ⟨("Heap", some "entries"), "entries", "Heap.entries", defArgs s_Heap_entries, defBody s_Heap_entries, defScope s_Heap_entries, [], []⟩
def d_Heap_pillars : He.DefD := ⟨("Heap", some "pillars"), "pillars", "Heap.pillars", defArgs s_Heap_pillars, defBody s_Heap_pillars, defScope s_Heap_pillars, [], []⟩
def d_law_begin : He.DefD := ⟨("_law_begin", none), "_law_begin", "_law_begin", defArgs s_law_begin, defBody s_law_begin, defScope s_law_begin, [], []⟩
def d_law_take : He.DefD := ⟨("_law_take", none), "_law_take", "_law_take", defArgs s_law_take, defBody s_law_take, defScope s_law_take, [], []⟩
def d_law_number : He.DefD := ⟨("_law_number", none), "_law_number", "_law_number", defArgs s_law_number, defBody s_law_number, defScope s_law_number, [], []⟩
def d_law_text : He.DefD := ⟨("_law_text", none), "_law_text", "_law_text", defArgs s_law_text, defBody s_law_text, defScope s_law_text, [], []⟩
def d_law_cells : He.DefD := ⟨("_law_cells", none), "_law_cells", "_law_cells", defArgs s_law_cells, defBody s_law_cells, defScope s_law_cells, [], []⟩
def d_law_kind : He.DefD := ⟨("_law_kind", none), "_law_kind", "_law_kind", defArgs s_law_kind, defBody s_law_kind, defScope s_law_kind, [], []⟩
def d_law_near_cells : He.DefD := ⟨("_law_near_cells", none), "_law_near_cells", "_law_near_cells", defArgs s_law_near_cells, defBody s_law_near_cells, defScope s_law_near_cells, [], []⟩
def d_law_some_cells : He.DefD := ⟨("_law_some_cells", none), "_law_some_cells", "_law_some_cells", defArgs s_law_some_cells, defBody s_law_some_cells, defScope s_law_some_cells, [], []⟩
def d_law_value : He.DefD := ⟨("_law_value", none), "_law_value", "_law_value", defArgs s_law_value, defBody s_law_value, defScope s_law_value, [], []⟩
def d_law_test : He.DefD := ⟨("_law_test", none), "_law_test", "_law_test", defArgs s_law_test, defBody s_law_test, defScope s_law_test, [], []⟩
def d_law_same : He.DefD := ⟨("_law_same", none), "_law_same", "_law_same", defArgs s_law_same, defBody s_law_same, defScope s_law_same, [], []⟩
def d_law_kinds : He.DefD := ⟨("_law_kinds", none), "_law_kinds", "_law_kinds", defArgs s_law_kinds, defBody s_law_kinds, defScope s_law_kinds, [], []⟩
def d_law_rows : He.DefD := ⟨("_law_rows", none), "_law_rows", "_law_rows", defArgs s_law_rows, defBody s_law_rows, defScope s_law_rows, [], []⟩
def d_law_bent : He.DefD := ⟨("_law_bent", none), "_law_bent", "_law_bent", defArgs s_law_bent, defBody s_law_bent, defScope s_law_bent, [], []⟩
def d_law_read : He.DefD := ⟨("_law_read", none), "_law_read", "_law_read", defArgs s_law_read, defBody s_law_read, defScope s_law_read, [], []⟩
def d_law_one_row : He.DefD := ⟨("_law_one_row", none), "_law_one_row", "_law_one_row", defArgs s_law_one_row, defBody s_law_one_row, defScope s_law_one_row, [], []⟩
def d_law_stretch : He.DefD := ⟨("_law_stretch", none), "_law_stretch", "_law_stretch", defArgs s_law_stretch, defBody s_law_stretch, defScope s_law_stretch, [], []⟩
def d_law_entries : He.DefD := ⟨("_law_entries", none), "_law_entries", "_law_entries", defArgs s_law_entries, defBody s_law_entries, defScope s_law_entries, [], []⟩
def d_law_heap : He.DefD := ⟨("_law_heap", none), "_law_heap", "_law_heap", defArgs s_law_heap, defBody s_law_heap, defScope s_law_heap, [], []⟩
def d_law : He.DefD := ⟨("law", none), "law", "law", defArgs s_law, defBody s_law, defScope s_law, [], []⟩
def fn : List He.DefD := [d_is_number, d_is_text_cell, d_is_cell_of, d_cell_key, d_BadBytes_init, d_number_bytes, d_text_bytes, d_cell_bytes, d_byte_at, d_number_of, d_take_number, d_take_text, d_take_cell, d_bits_for, d_power_of, d_byte_count, d_packed, d_take_packed, d_is_so, d_meets, d_note_of, d_runs_of, d_book_of, d_all_bytes, d_run_bytes] ++ [d_book_bytes, d_small_bytes, d_base_bytes, d_step_bytes, d_press_by, d_pressed, d_take_byte, d_take_count, d_take_cells, d_take_runs, d_take_book, d_take_small, d_run_cells, d_book_cells, d_base_cells, d_step_cells, d_cells_by, d_take_head, d_is_stretch, d_unpressed, d_count_in, d_cell_in, d_kept_in, d_Pillar_init, d_Pillar_many] ++ [d_Pillar_rows, d_sum_of, d_summed, d_columns_of, d_pillars_of, d_heap_bytes, d_take_bounded, d_take_kinds, d_take_heap_head, d_take_stretch, d_take_pillar, d_rise_from, d_are_entries, d_Heap_init, d_Heap_kinds, d_Heap_long, d_Heap_entries, d_Heap_pillars, d_law_begin, d_law_take, d_law_number, d_law_text, d_law_cells, d_law_kind, d_law_near_cells] ++ [d_law_some_cells, d_law_value, d_law_test, d_law_same, d_law_kinds, d_law_rows, d_law_bent, d_law_read, d_law_one_row, d_law_stretch, d_law_entries, d_law_heap, d_law]
def fa : List He.Fa := ([.glo "is_number", .glo "is_text_cell", .glo "is_cell_of", .glo "cell_key", .glo "number_bytes", .glo "text_bytes", .glo "cell_bytes", .glo "byte_at", .glo "number_of", .glo "take_number", .glo "take_text", .glo "take_cell", .glo "bits_for", .glo "power_of", .glo "byte_count", .glo "packed", .glo "take_packed", .glo "is_so", .glo "meets", .glo "note_of", .glo "runs_of", .glo "book_of", .glo "all_bytes", .glo "run_bytes", .glo "book_bytes"] : List He.Fa) ++ ([.glo "small_bytes", .glo "base_bytes", .glo "step_bytes", .glo "press_by", .glo "pressed", .glo "take_byte", .glo "take_count", .glo "take_cells", .glo "take_runs", .glo "take_book", .glo "take_small", .glo "run_cells", .glo "book_cells", .glo "base_cells", .glo "step_cells", .glo "cells_by", .glo "take_head", .glo "is_stretch", .glo "unpressed", .glo "count_in", .glo "cell_in", .glo "kept_in", .glo "sum_of", .glo "summed", .glo "columns_of"] : List He.Fa) ++ ([.glo "pillars_of", .glo "heap_bytes", .glo "take_bounded", .glo "take_kinds", .glo "take_heap_head", .glo "take_stretch", .glo "take_pillar", .glo "rise_from", .glo "are_entries", .glo "_law_begin", .glo "_law_take", .glo "_law_number", .glo "_law_text", .glo "_law_cells", .glo "_law_kind", .glo "_law_near_cells", .glo "_law_some_cells", .glo "_law_value", .glo "_law_test", .glo "_law_same", .glo "_law_kinds", .glo "_law_rows", .glo "_law_bent", .glo "_law_read", .glo "_law_one_row"] : List He.Fa) ++ ([.glo "_law_stretch", .glo "_law_entries", .glo "_law_heap", .glo "law", .glo "StoreError", .glo "NoRow", .glo "BadBytes", .glo "Pillar", .glo "Heap", .glo "KINDS", .free "ValueError", .free "abs", .free "all", .free "any", .free "bool", .free "dict", .free "divmod", .free "enumerate", .free "int", .free "isinstance", .free "len", .free "list", .free "max", .free "min", .free "range"] : List He.Fa) ++ ([.free "reversed", .free "sorted", .free "str", .free "sum", .free "tuple", .free "zip", .int "MOST_NUMBER" 1000000000000000000, .int "MOST_SIGNS" 20, .int "MORE" 128, .int "BYTE" 256, .int "BITS" 8, .int "MOST_BYTES" 9, .int "WAYS" 5, .int "MOST_CELLS" 64, .int "MOST_WAY" 4, .int "MOST_WIDE" 62, .int "MARK" 72, .int "SUM_BYTES" 4, .int "SUM_BOUND" 4294967296, .int "MOST_COLUMNS" 8, .int "MOST_LONG" 64, .str "SIGNS" " !\"#$&'()*+,-./0123456789:;<=>?@ABCDEFGHIJKLMNOPQRSTUVWXYZ[\\]^_`abcdefghijklmnopqrstuvwxyz{|}~", .cls "Pillar", .mkr "Pillar", .cls "Heap"] : List He.Fa) ++ ([.mkr "Heap", .noat "Pillar" "each", .noat "Pillar" "so_many", .noat "Pillar" "own_rows", .noat "Pillar" "own_notes", .noat "Heap" "own_kinds", .noat "Heap" "own_long", .noat "Heap" "own_entries", .meth "Pillar" "many", .meth "Pillar" "rows", .meth "Heap" "kinds", .meth "Heap" "long", .meth "Heap" "entries", .meth "Heap" "pillars", .exm "BadBytes" "BadBytes" true, .keep "BadBytes"] : List He.Fa)
def names0 : List Str := ["_wall", "SIGNS", "MOST_NUMBER", "MOST_SIGNS", "is_number", "is_text_cell", "is_cell_of", "cell_key", "StoreError", "NoRow", "BadBytes", "MORE", "BYTE", "BITS", "MOST_BYTES", "number_bytes", "text_bytes", "cell_bytes", "byte_at", "number_of", "take_number", "take_text", "take_cell", "bits_for", "power_of"]
def names1 : List Str := ["byte_count", "packed", "take_packed", "is_so", "meets", "note_of", "WAYS", "runs_of", "book_of", "all_bytes", "run_bytes", "book_bytes", "small_bytes", "base_bytes", "step_bytes", "press_by", "pressed", "MOST_CELLS", "MOST_WAY", "MOST_WIDE", "take_byte", "take_count", "take_cells", "take_runs", "take_book"]
def names2 : List Str := ["take_small", "run_cells", "book_cells", "base_cells", "step_cells", "cells_by", "take_head", "is_stretch", "unpressed", "count_in", "cell_in", "kept_in", "Pillar", "MARK", "SUM_BYTES", "SUM_BOUND", "KINDS", "MOST_COLUMNS", "MOST_LONG", "sum_of", "summed", "columns_of", "pillars_of", "heap_bytes", "take_bounded"]
def names3 : List Str := ["take_kinds", "take_heap_head", "take_stretch", "take_pillar", "rise_from", "are_entries", "Heap", "_law_begin", "_law_take", "_law_number", "_law_text", "_law_cells", "_law_kind", "_law_near_cells", "_law_some_cells", "_law_value", "_law_test", "_law_same", "_law_kinds", "_law_rows", "_law_bent", "_law_read", "_law_one_row", "_law_stretch", "_law_entries"]
def names4 : List Str := ["_law_heap"]
def names : List Str := names0 ++ names1 ++ names2 ++ names3 ++ names4
/-! ### the part of the heap that is looked at -/
def refsAt (g : Addr → Option Obj) (a : Addr) : List Addr := match g a with
  | some o => He.refsO o
  | none => []
def nsAt (g : Addr → Option Obj) (a : Addr) : List Addr := match g a with
  | some ⟨_, _, .dict es _, _⟩ => es.toList.flatMap fun e => He.refV e.val
  | _ => []
def asM (g : Addr → Option Obj) : List Addr :=
  let v1 := refsAt g mainGlobals
  let v2 := v1.flatMap (refsAt g)
  let v3 := v2.flatMap (nsAt g)
  mainGlobals :: cStatics :: (v1 ++ (v2 ++ (v3 ++ v3.flatMap (refsAt g))))
/-- the class x as an exception's class: its object, its line of bases, its maker -/
def oexB (K : PySem.W.Frag) (C : Addr) : Bool := (match K.lookup C with
  | some ⟨.type "type", _, .cls dat, sls⟩ => (match dat.mro, sls.toList with
    | .ref C' :: bm, [_, _, _, _, some (.builtin n), _] => C' == C && n == "ValueError.__new__" && !dat.hasDel && dat.hasDict && PySem.HandSPX.refsVE bm
    | _, _ => false)
  | _ => false)
def obsM (fa : List He.Fa) (fn : List He.DefD) (ex : PySem.W.Frag → Bool) (g : Addr → Option Obj) : He.AlD × Bool := (He.obsD fa fn (He.frG g (asM g)), ex (He.frG g (asM g)))
def hookM (fa : List He.Fa) (fn : List He.DefD) (ex : PySem.W.Frag → Bool) : PySem.W.Hook where
  α := He.AlD × Bool
  obs := fun s => obsM fa fn ex s.heap.get?
  val := fun _ => (He.valD fn, true)
  says := fun _ h => ∃ K : PySem.W.Frag, K.In h ∧ He.SaysD fa fn K ∧ ex K = true
  of := fun _ _ e => ⟨_, He.frG_in, congrArg (fun z : He.AlD × Bool => z.1) e, congrArg (fun z : He.AlD × Bool => z.2) e⟩
  keeps := fun _ _ _ ⟨F, hF, said⟩ kept => ⟨F, PySem.W.Frag.In.keeps hF kept, said⟩
theorem obsM_eq {fa : List He.Fa} {fn : List He.DefD} {ex : PySem.W.Frag → Bool} {g : Addr → Option Obj} {s : Shared} (h : ∀ a, g a = s.heap.get? a) : obsM fa fn ex g = (hookM fa fn ex).obs s := by
  have alike : g = s.heap.get? := funext h
  rw [alike] <;> rfl
def fIni (K : PySem.W.Frag) : Addr := He.ma K (He.ga K "BadBytes") "__init__"
def exB (K : PySem.W.Frag) : Bool := He.tupB K "KINDS" [.str "number", .str "text"] && oexB K (He.ga K "BadBytes") &&
  He.eqO (PySem.W.findIn K (.ref (He.ga K "BadBytes")) "__setattr__") (some (some (.builtin "object.__setattr__"))) &&
  He.eqO (PySem.W.findIn K (.ref (He.ga K "BadBytes")) "why") (some none) &&
  He.eqO (PySem.W.findIn K (.ref (He.ga K "BadBytes")) "__init__") (some (some (.ref (fIni K)))) &&
  decide (PySem.W.subIn K (.ref (He.ga K "BadBytes")) (.type "BaseException") = some true) && decide (PySem.W.typeIn K (.ref (He.ga K "BadBytes")) = some (.type "type")) &&
  decide (PySem.W.typeIn K (.ref (fIni K)) = some (.type "function")) &&
  He.eqO (PySem.W.specialIn K (.ref (He.ga K "StoreError")) "__getattribute__") (some (some (.builtin "type.__getattribute__"))) &&
  PySem.W.readsIn K (He.ga K "StoreError") (.type "type") &&
  (match PySem.W.findCls K (.ref (He.ga K "StoreError")) (.type "type") "__init__" with
    | some (.val (.builtin z)) => z == "ValueError.__init__"
    | _ => false) &&
  (match K.lookup (He.ga K "KINDS") with
    | some ⟨.type "tuple", none, _, _⟩ => true
    | _ => false)
abbrev R : PySem.W.OpenRow := PySem.W.OpenLaw.row PySem.Challenge.rw_pillarstore_k90_whole_pressed_is_read
abbrev hk : PySem.W.Hook := hookM fa fn exB
def ob (s : PySem.W.SharedT) : He.AlD × Bool := obsM fa fn exB (HandSHeadRun.getT s)
theorem ob_eq (s : PySem.W.SharedT) : ob s = hk.obs s.abs := obsM_eq (HandSHeadRun.getT_eq s)
/-! ### what the walks ask of the top -/
structure Txt (K : PySem.W.Frag) (mg : Str → Option Value) : Prop where
  says : He.SaysD fa fn K
  more : exB K = true
  top : ∃ h : Heap, K.In h ∧ h.Ns mainGlobals mg
section
variable {K : PySem.W.Frag} {mg : Str → Option Value}
theorem g_is_number (T : Txt K mg) : mg "is_number" = some (.ref (He.ga K "is_number")) := by obtain ⟨h, X, G⟩ := T.top; exact He.glo_ok X G (T.says.fact 0 (f := .glo "is_number") rfl)
theorem g_is_text_cell (T : Txt K mg) : mg "is_text_cell" = some (.ref (He.ga K "is_text_cell")) := by obtain ⟨h, X, G⟩ := T.top; exact He.glo_ok X G (T.says.fact 1 (f := .glo "is_text_cell") rfl)
theorem g_is_cell_of (T : Txt K mg) : mg "is_cell_of" = some (.ref (He.ga K "is_cell_of")) := by obtain ⟨h, X, G⟩ := T.top; exact He.glo_ok X G (T.says.fact 2 (f := .glo "is_cell_of") rfl)
theorem g_cell_key (T : Txt K mg) : mg "cell_key" = some (.ref (He.ga K "cell_key")) := by obtain ⟨h, X, G⟩ := T.top; exact He.glo_ok X G (T.says.fact 3 (f := .glo "cell_key") rfl)
theorem g_number_bytes (T : Txt K mg) : mg "number_bytes" = some (.ref (He.ga K "number_bytes")) := by obtain ⟨h, X, G⟩ := T.top; exact He.glo_ok X G (T.says.fact 4 (f := .glo "number_bytes") rfl)
theorem g_text_bytes (T : Txt K mg) : mg "text_bytes" = some (.ref (He.ga K "text_bytes")) := by obtain ⟨h, X, G⟩ := T.top; exact He.glo_ok X G (T.says.fact 5 (f := .glo "text_bytes") rfl)
theorem g_cell_bytes (T : Txt K mg) : mg "cell_bytes" = some (.ref (He.ga K "cell_bytes")) := by obtain ⟨h, X, G⟩ := T.top; exact He.glo_ok X G (T.says.fact 6 (f := .glo "cell_bytes") rfl)
theorem g_byte_at (T : Txt K mg) : mg "byte_at" = some (.ref (He.ga K "byte_at")) := by obtain ⟨h, X, G⟩ := T.top; exact He.glo_ok X G (T.says.fact 7 (f := .glo "byte_at") rfl)
theorem g_number_of (T : Txt K mg) : mg "number_of" = some (.ref (He.ga K "number_of")) := by obtain ⟨h, X, G⟩ := T.top; exact He.glo_ok X G (T.says.fact 8 (f := .glo "number_of") rfl)
theorem g_take_number (T : Txt K mg) : mg "take_number" = some (.ref (He.ga K "take_number")) := by obtain ⟨h, X, G⟩ := T.top; exact He.glo_ok X G (T.says.fact 9 (f := .glo "take_number") rfl)
theorem g_take_text (T : Txt K mg) : mg "take_text" = some (.ref (He.ga K "take_text")) := by obtain ⟨h, X, G⟩ := T.top; exact He.glo_ok X G (T.says.fact 10 (f := .glo "take_text") rfl)
theorem g_take_cell (T : Txt K mg) : mg "take_cell" = some (.ref (He.ga K "take_cell")) := by obtain ⟨h, X, G⟩ := T.top; exact He.glo_ok X G (T.says.fact 11 (f := .glo "take_cell") rfl)
theorem g_bits_for (T : Txt K mg) : mg "bits_for" = some (.ref (He.ga K "bits_for")) := by obtain ⟨h, X, G⟩ := T.top; exact He.glo_ok X G (T.says.fact 12 (f := .glo "bits_for") rfl)
theorem g_power_of (T : Txt K mg) : mg "power_of" = some (.ref (He.ga K "power_of")) := by obtain ⟨h, X, G⟩ := T.top; exact He.glo_ok X G (T.says.fact 13 (f := .glo "power_of") rfl)
theorem g_byte_count (T : Txt K mg) : mg "byte_count" = some (.ref (He.ga K "byte_count")) := by obtain ⟨h, X, G⟩ := T.top; exact He.glo_ok X G (T.says.fact 14 (f := .glo "byte_count") rfl)
theorem g_packed (T : Txt K mg) : mg "packed" = some (.ref (He.ga K "packed")) := by obtain ⟨h, X, G⟩ := T.top; exact He.glo_ok X G (T.says.fact 15 (f := .glo "packed") rfl)
theorem g_take_packed (T : Txt K mg) : mg "take_packed" = some (.ref (He.ga K "take_packed")) := by obtain ⟨h, X, G⟩ := T.top; exact He.glo_ok X G (T.says.fact 16 (f := .glo "take_packed") rfl)
theorem g_is_so (T : Txt K mg) : mg "is_so" = some (.ref (He.ga K "is_so")) := by obtain ⟨h, X, G⟩ := T.top; exact He.glo_ok X G (T.says.fact 17 (f := .glo "is_so") rfl)
theorem g_meets (T : Txt K mg) : mg "meets" = some (.ref (He.ga K "meets")) := by obtain ⟨h, X, G⟩ := T.top; exact He.glo_ok X G (T.says.fact 18 (f := .glo "meets") rfl)
theorem g_note_of (T : Txt K mg) : mg "note_of" = some (.ref (He.ga K "note_of")) := by obtain ⟨h, X, G⟩ := T.top; exact He.glo_ok X G (T.says.fact 19 (f := .glo "note_of") rfl)
theorem g_runs_of (T : Txt K mg) : mg "runs_of" = some (.ref (He.ga K "runs_of")) := by obtain ⟨h, X, G⟩ := T.top; exact He.glo_ok X G (T.says.fact 20 (f := .glo "runs_of") rfl)
theorem g_book_of (T : Txt K mg) : mg "book_of" = some (.ref (He.ga K "book_of")) := by obtain ⟨h, X, G⟩ := T.top; exact He.glo_ok X G (T.says.fact 21 (f := .glo "book_of") rfl)
theorem g_all_bytes (T : Txt K mg) : mg "all_bytes" = some (.ref (He.ga K "all_bytes")) := by obtain ⟨h, X, G⟩ := T.top; exact He.glo_ok X G (T.says.fact 22 (f := .glo "all_bytes") rfl)
theorem g_run_bytes (T : Txt K mg) : mg "run_bytes" = some (.ref (He.ga K "run_bytes")) := by obtain ⟨h, X, G⟩ := T.top; exact He.glo_ok X G (T.says.fact 23 (f := .glo "run_bytes") rfl)
theorem g_book_bytes (T : Txt K mg) : mg "book_bytes" = some (.ref (He.ga K "book_bytes")) := by obtain ⟨h, X, G⟩ := T.top; exact He.glo_ok X G (T.says.fact 24 (f := .glo "book_bytes") rfl)
theorem g_small_bytes (T : Txt K mg) : mg "small_bytes" = some (.ref (He.ga K "small_bytes")) := by obtain ⟨h, X, G⟩ := T.top; exact He.glo_ok X G (T.says.fact 25 (f := .glo "small_bytes") rfl)
theorem g_base_bytes (T : Txt K mg) : mg "base_bytes" = some (.ref (He.ga K "base_bytes")) := by obtain ⟨h, X, G⟩ := T.top; exact He.glo_ok X G (T.says.fact 26 (f := .glo "base_bytes") rfl)
theorem g_step_bytes (T : Txt K mg) : mg "step_bytes" = some (.ref (He.ga K "step_bytes")) := by obtain ⟨h, X, G⟩ := T.top; exact He.glo_ok X G (T.says.fact 27 (f := .glo "step_bytes") rfl)
theorem g_press_by (T : Txt K mg) : mg "press_by" = some (.ref (He.ga K "press_by")) := by obtain ⟨h, X, G⟩ := T.top; exact He.glo_ok X G (T.says.fact 28 (f := .glo "press_by") rfl)
theorem g_pressed (T : Txt K mg) : mg "pressed" = some (.ref (He.ga K "pressed")) := by obtain ⟨h, X, G⟩ := T.top; exact He.glo_ok X G (T.says.fact 29 (f := .glo "pressed") rfl)
theorem g_take_byte (T : Txt K mg) : mg "take_byte" = some (.ref (He.ga K "take_byte")) := by obtain ⟨h, X, G⟩ := T.top; exact He.glo_ok X G (T.says.fact 30 (f := .glo "take_byte") rfl)
theorem g_take_count (T : Txt K mg) : mg "take_count" = some (.ref (He.ga K "take_count")) := by obtain ⟨h, X, G⟩ := T.top; exact He.glo_ok X G (T.says.fact 31 (f := .glo "take_count") rfl)
theorem g_take_cells (T : Txt K mg) : mg "take_cells" = some (.ref (He.ga K "take_cells")) := by obtain ⟨h, X, G⟩ := T.top; exact He.glo_ok X G (T.says.fact 32 (f := .glo "take_cells") rfl)
theorem g_take_runs (T : Txt K mg) : mg "take_runs" = some (.ref (He.ga K "take_runs")) := by obtain ⟨h, X, G⟩ := T.top; exact He.glo_ok X G (T.says.fact 33 (f := .glo "take_runs") rfl)
theorem g_take_book (T : Txt K mg) : mg "take_book" = some (.ref (He.ga K "take_book")) := by obtain ⟨h, X, G⟩ := T.top; exact He.glo_ok X G (T.says.fact 34 (f := .glo "take_book") rfl)
theorem g_take_small (T : Txt K mg) : mg "take_small" = some (.ref (He.ga K "take_small")) := by obtain ⟨h, X, G⟩ := T.top; exact He.glo_ok X G (T.says.fact 35 (f := .glo "take_small") rfl)
theorem g_run_cells (T : Txt K mg) : mg "run_cells" = some (.ref (He.ga K "run_cells")) := by obtain ⟨h, X, G⟩ := T.top; exact He.glo_ok X G (T.says.fact 36 (f := .glo "run_cells") rfl)
theorem g_book_cells (T : Txt K mg) : mg "book_cells" = some (.ref (He.ga K "book_cells")) := by obtain ⟨h, X, G⟩ := T.top; exact He.glo_ok X G (T.says.fact 37 (f := .glo "book_cells") rfl)
theorem g_base_cells (T : Txt K mg) : mg "base_cells" = some (.ref (He.ga K "base_cells")) := by obtain ⟨h, X, G⟩ := T.top; exact He.glo_ok X G (T.says.fact 38 (f := .glo "base_cells") rfl)
theorem g_step_cells (T : Txt K mg) : mg "step_cells" = some (.ref (He.ga K "step_cells")) := by obtain ⟨h, X, G⟩ := T.top; exact He.glo_ok X G (T.says.fact 39 (f := .glo "step_cells") rfl)
theorem g_cells_by (T : Txt K mg) : mg "cells_by" = some (.ref (He.ga K "cells_by")) := by obtain ⟨h, X, G⟩ := T.top; exact He.glo_ok X G (T.says.fact 40 (f := .glo "cells_by") rfl)
theorem g_take_head (T : Txt K mg) : mg "take_head" = some (.ref (He.ga K "take_head")) := by obtain ⟨h, X, G⟩ := T.top; exact He.glo_ok X G (T.says.fact 41 (f := .glo "take_head") rfl)
theorem g_is_stretch (T : Txt K mg) : mg "is_stretch" = some (.ref (He.ga K "is_stretch")) := by obtain ⟨h, X, G⟩ := T.top; exact He.glo_ok X G (T.says.fact 42 (f := .glo "is_stretch") rfl)
theorem g_unpressed (T : Txt K mg) : mg "unpressed" = some (.ref (He.ga K "unpressed")) := by obtain ⟨h, X, G⟩ := T.top; exact He.glo_ok X G (T.says.fact 43 (f := .glo "unpressed") rfl)
theorem g_count_in (T : Txt K mg) : mg "count_in" = some (.ref (He.ga K "count_in")) := by obtain ⟨h, X, G⟩ := T.top; exact He.glo_ok X G (T.says.fact 44 (f := .glo "count_in") rfl)
theorem g_cell_in (T : Txt K mg) : mg "cell_in" = some (.ref (He.ga K "cell_in")) := by obtain ⟨h, X, G⟩ := T.top; exact He.glo_ok X G (T.says.fact 45 (f := .glo "cell_in") rfl)
theorem g_kept_in (T : Txt K mg) : mg "kept_in" = some (.ref (He.ga K "kept_in")) := by obtain ⟨h, X, G⟩ := T.top; exact He.glo_ok X G (T.says.fact 46 (f := .glo "kept_in") rfl)
theorem g_sum_of (T : Txt K mg) : mg "sum_of" = some (.ref (He.ga K "sum_of")) := by obtain ⟨h, X, G⟩ := T.top; exact He.glo_ok X G (T.says.fact 47 (f := .glo "sum_of") rfl)
theorem g_summed (T : Txt K mg) : mg "summed" = some (.ref (He.ga K "summed")) := by obtain ⟨h, X, G⟩ := T.top; exact He.glo_ok X G (T.says.fact 48 (f := .glo "summed") rfl)
theorem g_columns_of (T : Txt K mg) : mg "columns_of" = some (.ref (He.ga K "columns_of")) := by obtain ⟨h, X, G⟩ := T.top; exact He.glo_ok X G (T.says.fact 49 (f := .glo "columns_of") rfl)
theorem g_pillars_of (T : Txt K mg) : mg "pillars_of" = some (.ref (He.ga K "pillars_of")) := by obtain ⟨h, X, G⟩ := T.top; exact He.glo_ok X G (T.says.fact 50 (f := .glo "pillars_of") rfl)
theorem g_heap_bytes (T : Txt K mg) : mg "heap_bytes" = some (.ref (He.ga K "heap_bytes")) := by obtain ⟨h, X, G⟩ := T.top; exact He.glo_ok X G (T.says.fact 51 (f := .glo "heap_bytes") rfl)
theorem g_take_bounded (T : Txt K mg) : mg "take_bounded" = some (.ref (He.ga K "take_bounded")) := by obtain ⟨h, X, G⟩ := T.top; exact He.glo_ok X G (T.says.fact 52 (f := .glo "take_bounded") rfl)
theorem g_take_kinds (T : Txt K mg) : mg "take_kinds" = some (.ref (He.ga K "take_kinds")) := by obtain ⟨h, X, G⟩ := T.top; exact He.glo_ok X G (T.says.fact 53 (f := .glo "take_kinds") rfl)
theorem g_take_heap_head (T : Txt K mg) : mg "take_heap_head" = some (.ref (He.ga K "take_heap_head")) := by obtain ⟨h, X, G⟩ := T.top; exact He.glo_ok X G (T.says.fact 54 (f := .glo "take_heap_head") rfl)
theorem g_take_stretch (T : Txt K mg) : mg "take_stretch" = some (.ref (He.ga K "take_stretch")) := by obtain ⟨h, X, G⟩ := T.top; exact He.glo_ok X G (T.says.fact 55 (f := .glo "take_stretch") rfl)
theorem g_take_pillar (T : Txt K mg) : mg "take_pillar" = some (.ref (He.ga K "take_pillar")) := by obtain ⟨h, X, G⟩ := T.top; exact He.glo_ok X G (T.says.fact 56 (f := .glo "take_pillar") rfl)
theorem g_rise_from (T : Txt K mg) : mg "rise_from" = some (.ref (He.ga K "rise_from")) := by obtain ⟨h, X, G⟩ := T.top; exact He.glo_ok X G (T.says.fact 57 (f := .glo "rise_from") rfl)
theorem g_are_entries (T : Txt K mg) : mg "are_entries" = some (.ref (He.ga K "are_entries")) := by obtain ⟨h, X, G⟩ := T.top; exact He.glo_ok X G (T.says.fact 58 (f := .glo "are_entries") rfl)
theorem g_law_begin (T : Txt K mg) : mg "_law_begin" = some (.ref (He.ga K "_law_begin")) := by obtain ⟨h, X, G⟩ := T.top; exact He.glo_ok X G (T.says.fact 59 (f := .glo "_law_begin") rfl)
theorem g_law_take (T : Txt K mg) : mg "_law_take" = some (.ref (He.ga K "_law_take")) := by obtain ⟨h, X, G⟩ := T.top; exact He.glo_ok X G (T.says.fact 60 (f := .glo "_law_take") rfl)
theorem g_law_number (T : Txt K mg) : mg "_law_number" = some (.ref (He.ga K "_law_number")) := by obtain ⟨h, X, G⟩ := T.top; exact He.glo_ok X G (T.says.fact 61 (f := .glo "_law_number") rfl)
theorem g_law_text (T : Txt K mg) : mg "_law_text" = some (.ref (He.ga K "_law_text")) := by obtain ⟨h, X, G⟩ := T.top; exact He.glo_ok X G (T.says.fact 62 (f := .glo "_law_text") rfl)
theorem g_law_cells (T : Txt K mg) : mg "_law_cells" = some (.ref (He.ga K "_law_cells")) := by obtain ⟨h, X, G⟩ := T.top; exact He.glo_ok X G (T.says.fact 63 (f := .glo "_law_cells") rfl)
theorem g_law_kind (T : Txt K mg) : mg "_law_kind" = some (.ref (He.ga K "_law_kind")) := by obtain ⟨h, X, G⟩ := T.top; exact He.glo_ok X G (T.says.fact 64 (f := .glo "_law_kind") rfl)
theorem g_law_near_cells (T : Txt K mg) : mg "_law_near_cells" = some (.ref (He.ga K "_law_near_cells")) := by obtain ⟨h, X, G⟩ := T.top; exact He.glo_ok X G (T.says.fact 65 (f := .glo "_law_near_cells") rfl)
theorem g_law_some_cells (T : Txt K mg) : mg "_law_some_cells" = some (.ref (He.ga K "_law_some_cells")) := by obtain ⟨h, X, G⟩ := T.top; exact He.glo_ok X G (T.says.fact 66 (f := .glo "_law_some_cells") rfl)
theorem g_law_value (T : Txt K mg) : mg "_law_value" = some (.ref (He.ga K "_law_value")) := by obtain ⟨h, X, G⟩ := T.top; exact He.glo_ok X G (T.says.fact 67 (f := .glo "_law_value") rfl)
theorem g_law_test (T : Txt K mg) : mg "_law_test" = some (.ref (He.ga K "_law_test")) := by obtain ⟨h, X, G⟩ := T.top; exact He.glo_ok X G (T.says.fact 68 (f := .glo "_law_test") rfl)
theorem g_law_same (T : Txt K mg) : mg "_law_same" = some (.ref (He.ga K "_law_same")) := by obtain ⟨h, X, G⟩ := T.top; exact He.glo_ok X G (T.says.fact 69 (f := .glo "_law_same") rfl)
theorem g_law_kinds (T : Txt K mg) : mg "_law_kinds" = some (.ref (He.ga K "_law_kinds")) := by obtain ⟨h, X, G⟩ := T.top; exact He.glo_ok X G (T.says.fact 70 (f := .glo "_law_kinds") rfl)
theorem g_law_rows (T : Txt K mg) : mg "_law_rows" = some (.ref (He.ga K "_law_rows")) := by obtain ⟨h, X, G⟩ := T.top; exact He.glo_ok X G (T.says.fact 71 (f := .glo "_law_rows") rfl)
theorem g_law_bent (T : Txt K mg) : mg "_law_bent" = some (.ref (He.ga K "_law_bent")) := by obtain ⟨h, X, G⟩ := T.top; exact He.glo_ok X G (T.says.fact 72 (f := .glo "_law_bent") rfl)
theorem g_law_read (T : Txt K mg) : mg "_law_read" = some (.ref (He.ga K "_law_read")) := by obtain ⟨h, X, G⟩ := T.top; exact He.glo_ok X G (T.says.fact 73 (f := .glo "_law_read") rfl)
theorem g_law_one_row (T : Txt K mg) : mg "_law_one_row" = some (.ref (He.ga K "_law_one_row")) := by obtain ⟨h, X, G⟩ := T.top; exact He.glo_ok X G (T.says.fact 74 (f := .glo "_law_one_row") rfl)
theorem g_law_stretch (T : Txt K mg) : mg "_law_stretch" = some (.ref (He.ga K "_law_stretch")) := by obtain ⟨h, X, G⟩ := T.top; exact He.glo_ok X G (T.says.fact 75 (f := .glo "_law_stretch") rfl)
theorem g_law_entries (T : Txt K mg) : mg "_law_entries" = some (.ref (He.ga K "_law_entries")) := by obtain ⟨h, X, G⟩ := T.top; exact He.glo_ok X G (T.says.fact 76 (f := .glo "_law_entries") rfl)
theorem g_law_heap (T : Txt K mg) : mg "_law_heap" = some (.ref (He.ga K "_law_heap")) := by obtain ⟨h, X, G⟩ := T.top; exact He.glo_ok X G (T.says.fact 77 (f := .glo "_law_heap") rfl)
theorem g_law (T : Txt K mg) : mg "law" = some (.ref (He.ga K "law")) := by obtain ⟨h, X, G⟩ := T.top; exact He.glo_ok X G (T.says.fact 78 (f := .glo "law") rfl)
theorem gc_StoreError (T : Txt K mg) : mg "StoreError" = some (.ref (He.ga K "StoreError")) := by obtain ⟨h, X, G⟩ := T.top; exact He.glo_ok X G (T.says.fact 79 (f := .glo "StoreError") rfl)
theorem gc_NoRow (T : Txt K mg) : mg "NoRow" = some (.ref (He.ga K "NoRow")) := by obtain ⟨h, X, G⟩ := T.top; exact He.glo_ok X G (T.says.fact 80 (f := .glo "NoRow") rfl)
theorem gc_BadBytes (T : Txt K mg) : mg "BadBytes" = some (.ref (He.ga K "BadBytes")) := by obtain ⟨h, X, G⟩ := T.top; exact He.glo_ok X G (T.says.fact 81 (f := .glo "BadBytes") rfl)
theorem gc_Pillar (T : Txt K mg) : mg "Pillar" = some (.ref (He.ga K "Pillar")) := by obtain ⟨h, X, G⟩ := T.top; exact He.glo_ok X G (T.says.fact 82 (f := .glo "Pillar") rfl)
theorem gc_Heap (T : Txt K mg) : mg "Heap" = some (.ref (He.ga K "Heap")) := by obtain ⟨h, X, G⟩ := T.top; exact He.glo_ok X G (T.says.fact 83 (f := .glo "Heap") rfl)
theorem gt_KINDS (T : Txt K mg) : mg "KINDS" = some (.ref (He.ga K "KINDS")) := by obtain ⟨h, X, G⟩ := T.top; exact He.glo_ok X G (T.says.fact 84 (f := .glo "KINDS") rfl)
theorem b_ValueError (T : Txt K mg) : mg "ValueError" = none := by obtain ⟨h, X, G⟩ := T.top; exact He.free_ok X G (T.says.fact 85 (f := .free "ValueError") rfl)
theorem b_abs (T : Txt K mg) : mg "abs" = none := by obtain ⟨h, X, G⟩ := T.top; exact He.free_ok X G (T.says.fact 86 (f := .free "abs") rfl)
theorem b_all (T : Txt K mg) : mg "all" = none := by obtain ⟨h, X, G⟩ := T.top; exact He.free_ok X G (T.says.fact 87 (f := .free "all") rfl)
theorem b_any (T : Txt K mg) : mg "any" = none := by obtain ⟨h, X, G⟩ := T.top; exact He.free_ok X G (T.says.fact 88 (f := .free "any") rfl)
theorem b_bool (T : Txt K mg) : mg "bool" = none := by obtain ⟨h, X, G⟩ := T.top; exact He.free_ok X G (T.says.fact 89 (f := .free "bool") rfl)
theorem b_dict (T : Txt K mg) : mg "dict" = none := by obtain ⟨h, X, G⟩ := T.top; exact He.free_ok X G (T.says.fact 90 (f := .free "dict") rfl)
theorem b_divmod (T : Txt K mg) : mg "divmod" = none := by obtain ⟨h, X, G⟩ := T.top; exact He.free_ok X G (T.says.fact 91 (f := .free "divmod") rfl)
theorem b_enumerate (T : Txt K mg) : mg "enumerate" = none := by obtain ⟨h, X, G⟩ := T.top; exact He.free_ok X G (T.says.fact 92 (f := .free "enumerate") rfl)
theorem b_int (T : Txt K mg) : mg "int" = none := by obtain ⟨h, X, G⟩ := T.top; exact He.free_ok X G (T.says.fact 93 (f := .free "int") rfl)
theorem b_isinstance (T : Txt K mg) : mg "isinstance" = none := by obtain ⟨h, X, G⟩ := T.top; exact He.free_ok X G (T.says.fact 94 (f := .free "isinstance") rfl)
theorem b_len (T : Txt K mg) : mg "len" = none := by obtain ⟨h, X, G⟩ := T.top; exact He.free_ok X G (T.says.fact 95 (f := .free "len") rfl)
theorem b_list (T : Txt K mg) : mg "list" = none := by obtain ⟨h, X, G⟩ := T.top; exact He.free_ok X G (T.says.fact 96 (f := .free "list") rfl)
theorem b_max (T : Txt K mg) : mg "max" = none := by obtain ⟨h, X, G⟩ := T.top; exact He.free_ok X G (T.says.fact 97 (f := .free "max") rfl)
theorem b_min (T : Txt K mg) : mg "min" = none := by obtain ⟨h, X, G⟩ := T.top; exact He.free_ok X G (T.says.fact 98 (f := .free "min") rfl)
theorem b_range (T : Txt K mg) : mg "range" = none := by obtain ⟨h, X, G⟩ := T.top; exact He.free_ok X G (T.says.fact 99 (f := .free "range") rfl)
theorem b_reversed (T : Txt K mg) : mg "reversed" = none := by obtain ⟨h, X, G⟩ := T.top; exact He.free_ok X G (T.says.fact 100 (f := .free "reversed") rfl)
theorem b_sorted (T : Txt K mg) : mg "sorted" = none := by obtain ⟨h, X, G⟩ := T.top; exact He.free_ok X G (T.says.fact 101 (f := .free "sorted") rfl)
theorem b_str (T : Txt K mg) : mg "str" = none := by obtain ⟨h, X, G⟩ := T.top; exact He.free_ok X G (T.says.fact 102 (f := .free "str") rfl)
theorem b_sum (T : Txt K mg) : mg "sum" = none := by obtain ⟨h, X, G⟩ := T.top; exact He.free_ok X G (T.says.fact 103 (f := .free "sum") rfl)
theorem b_tuple (T : Txt K mg) : mg "tuple" = none := by obtain ⟨h, X, G⟩ := T.top; exact He.free_ok X G (T.says.fact 104 (f := .free "tuple") rfl)
theorem b_zip (T : Txt K mg) : mg "zip" = none := by obtain ⟨h, X, G⟩ := T.top; exact He.free_ok X G (T.says.fact 105 (f := .free "zip") rfl)
theorem i_MOST_NUMBER (T : Txt K mg) : ∃ t, mg "MOST_NUMBER" = some (.int 1000000000000000000 t) := by obtain ⟨h, X, G⟩ := T.top; exact He.int_ok X G (T.says.fact 106 (f := .int "MOST_NUMBER" 1000000000000000000) rfl)
theorem i_MOST_SIGNS (T : Txt K mg) : ∃ t, mg "MOST_SIGNS" = some (.int 20 t) := by obtain ⟨h, X, G⟩ := T.top; exact He.int_ok X G (T.says.fact 107 (f := .int "MOST_SIGNS" 20) rfl)
theorem i_MORE (T : Txt K mg) : ∃ t, mg "MORE" = some (.int 128 t) := by obtain ⟨h, X, G⟩ := T.top; exact He.int_ok X G (T.says.fact 108 (f := .int "MORE" 128) rfl)
theorem i_BYTE (T : Txt K mg) : ∃ t, mg "BYTE" = some (.int 256 t) := by obtain ⟨h, X, G⟩ := T.top; exact He.int_ok X G (T.says.fact 109 (f := .int "BYTE" 256) rfl)
theorem i_BITS (T : Txt K mg) : ∃ t, mg "BITS" = some (.int 8 t) := by obtain ⟨h, X, G⟩ := T.top; exact He.int_ok X G (T.says.fact 110 (f := .int "BITS" 8) rfl)
theorem i_MOST_BYTES (T : Txt K mg) : ∃ t, mg "MOST_BYTES" = some (.int 9 t) := by obtain ⟨h, X, G⟩ := T.top; exact He.int_ok X G (T.says.fact 111 (f := .int "MOST_BYTES" 9) rfl)
theorem i_WAYS (T : Txt K mg) : ∃ t, mg "WAYS" = some (.int 5 t) := by obtain ⟨h, X, G⟩ := T.top; exact He.int_ok X G (T.says.fact 112 (f := .int "WAYS" 5) rfl)
theorem i_MOST_CELLS (T : Txt K mg) : ∃ t, mg "MOST_CELLS" = some (.int 64 t) := by obtain ⟨h, X, G⟩ := T.top; exact He.int_ok X G (T.says.fact 113 (f := .int "MOST_CELLS" 64) rfl)
theorem i_MOST_WAY (T : Txt K mg) : ∃ t, mg "MOST_WAY" = some (.int 4 t) := by obtain ⟨h, X, G⟩ := T.top; exact He.int_ok X G (T.says.fact 114 (f := .int "MOST_WAY" 4) rfl)
theorem i_MOST_WIDE (T : Txt K mg) : ∃ t, mg "MOST_WIDE" = some (.int 62 t) := by obtain ⟨h, X, G⟩ := T.top; exact He.int_ok X G (T.says.fact 115 (f := .int "MOST_WIDE" 62) rfl)
theorem i_MARK (T : Txt K mg) : ∃ t, mg "MARK" = some (.int 72 t) := by obtain ⟨h, X, G⟩ := T.top; exact He.int_ok X G (T.says.fact 116 (f := .int "MARK" 72) rfl)
theorem i_SUM_BYTES (T : Txt K mg) : ∃ t, mg "SUM_BYTES" = some (.int 4 t) := by obtain ⟨h, X, G⟩ := T.top; exact He.int_ok X G (T.says.fact 117 (f := .int "SUM_BYTES" 4) rfl)
theorem i_SUM_BOUND (T : Txt K mg) : ∃ t, mg "SUM_BOUND" = some (.int 4294967296 t) := by obtain ⟨h, X, G⟩ := T.top; exact He.int_ok X G (T.says.fact 118 (f := .int "SUM_BOUND" 4294967296) rfl)
theorem i_MOST_COLUMNS (T : Txt K mg) : ∃ t, mg "MOST_COLUMNS" = some (.int 8 t) := by obtain ⟨h, X, G⟩ := T.top; exact He.int_ok X G (T.says.fact 119 (f := .int "MOST_COLUMNS" 8) rfl)
theorem i_MOST_LONG (T : Txt K mg) : ∃ t, mg "MOST_LONG" = some (.int 64 t) := by obtain ⟨h, X, G⟩ := T.top; exact He.int_ok X G (T.says.fact 120 (f := .int "MOST_LONG" 64) rfl)
theorem t_SIGNS (T : Txt K mg) : ∃ t, mg "SIGNS" = some (.str " !\"#$&'()*+,-./0123456789:;<=>?@ABCDEFGHIJKLMNOPQRSTUVWXYZ[\\]^_`abcdefghijklmnopqrstuvwxyz{|}~" t) := by obtain ⟨h, X, G⟩ := T.top; exact He.str_ok X G (T.says.fact 121 (f := .str "SIGNS" " !\"#$&'()*+,-./0123456789:;<=>?@ABCDEFGHIJKLMNOPQRSTUVWXYZ[\\]^_`abcdefghijklmnopqrstuvwxyz{|}~") rfl)
theorem c_Pillar (T : Txt K mg) : Cls K (He.ga K "Pillar") := He.cls_ok (T.says.fact 122 (f := .cls "Pillar") rfl)
theorem mk_Pillar (T : Txt K mg) : Mk K (He.ga K "Pillar") (He.ma K (He.ga K "Pillar") "__init__") := He.mkr_ok (T.says.fact 123 (f := .mkr "Pillar") rfl)
theorem c_Heap (T : Txt K mg) : Cls K (He.ga K "Heap") := He.cls_ok (T.says.fact 124 (f := .cls "Heap") rfl)
theorem mk_Heap (T : Txt K mg) : Mk K (He.ga K "Heap") (He.ma K (He.ga K "Heap") "__init__") := He.mkr_ok (T.says.fact 125 (f := .mkr "Heap") rfl)
theorem n_Pillar_each (T : Txt K mg) : NoAttr K (He.ga K "Pillar") "each" := He.noat_ok (T.says.fact 126 (f := .noat "Pillar" "each") rfl)
theorem n_Pillar_so_many (T : Txt K mg) : NoAttr K (He.ga K "Pillar") "so_many" := He.noat_ok (T.says.fact 127 (f := .noat "Pillar" "so_many") rfl)
theorem n_Pillar_own_rows (T : Txt K mg) : NoAttr K (He.ga K "Pillar") "own_rows" := He.noat_ok (T.says.fact 128 (f := .noat "Pillar" "own_rows") rfl)
theorem n_Pillar_own_notes (T : Txt K mg) : NoAttr K (He.ga K "Pillar") "own_notes" := He.noat_ok (T.says.fact 129 (f := .noat "Pillar" "own_notes") rfl)
theorem n_Heap_own_kinds (T : Txt K mg) : NoAttr K (He.ga K "Heap") "own_kinds" := He.noat_ok (T.says.fact 130 (f := .noat "Heap" "own_kinds") rfl)
theorem n_Heap_own_long (T : Txt K mg) : NoAttr K (He.ga K "Heap") "own_long" := He.noat_ok (T.says.fact 131 (f := .noat "Heap" "own_long") rfl)
theorem n_Heap_own_entries (T : Txt K mg) : NoAttr K (He.ga K "Heap") "own_entries" := He.noat_ok (T.says.fact 132 (f := .noat "Heap" "own_entries") rfl)
theorem m_Pillar_many (T : Txt K mg) : Meth K (He.ga K "Pillar") "many" (He.ma K (He.ga K "Pillar") "many") := He.meth_ok (T.says.fact 133 (f := .meth "Pillar" "many") rfl)
theorem m_Pillar_rows (T : Txt K mg) : Meth K (He.ga K "Pillar") "rows" (He.ma K (He.ga K "Pillar") "rows") := He.meth_ok (T.says.fact 134 (f := .meth "Pillar" "rows") rfl)
theorem m_Heap_kinds (T : Txt K mg) : Meth K (He.ga K "Heap") "kinds" (He.ma K (He.ga K "Heap") "kinds") := He.meth_ok (T.says.fact 135 (f := .meth "Heap" "kinds") rfl)
theorem m_Heap_long (T : Txt K mg) : Meth K (He.ga K "Heap") "long" (He.ma K (He.ga K "Heap") "long") := He.meth_ok (T.says.fact 136 (f := .meth "Heap" "long") rfl)
theorem m_Heap_entries (T : Txt K mg) : Meth K (He.ga K "Heap") "entries" (He.ma K (He.ga K "Heap") "entries") := He.meth_ok (T.says.fact 137 (f := .meth "Heap" "entries") rfl)
theorem m_Heap_pillars (T : Txt K mg) : Meth K (He.ga K "Heap") "pillars" (He.ma K (He.ga K "Heap") "pillars") := He.meth_ok (T.says.fact 138 (f := .meth "Heap" "pillars") rfl)
theorem x_BadBytes (T : Txt K mg) : PySem.W.exmOne K (.ref (He.ga K "BadBytes")) (.ref (He.ga K "BadBytes")) = some true := He.exm_ok (T.says.fact 139 (f := .exm "BadBytes" "BadBytes" true) rfl)
theorem k_BadBytes (T : Txt K mg) : PySem.W.keepIn K (.ref (He.ga K "BadBytes")) = true := He.keep_ok (T.says.fact 140 (f := .keep "BadBytes") rfl)
theorem D_is_number (T : Txt K mg) : ∃ fd, FunD K "is_number" "is_number" (defArgs s_is_number) (defBody s_is_number) (defScope s_is_number) [] [] (He.ga K "is_number") fd := T.says.def_ 0 (d := d_is_number) rfl
theorem D_is_text_cell (T : Txt K mg) : ∃ fd, FunD K "is_text_cell" "is_text_cell" (defArgs s_is_text_cell) (defBody s_is_text_cell) (defScope s_is_text_cell) [] [] (He.ga K "is_text_cell") fd := T.says.def_ 1 (d := d_is_text_cell) rfl
theorem D_is_cell_of (T : Txt K mg) : ∃ fd, FunD K "is_cell_of" "is_cell_of" (defArgs s_is_cell_of) (defBody s_is_cell_of) (defScope s_is_cell_of) [] [] (He.ga K "is_cell_of") fd := T.says.def_ 2 (d := d_is_cell_of) rfl
theorem D_cell_key (T : Txt K mg) : ∃ fd, FunD K "cell_key" "cell_key" (defArgs s_cell_key) (defBody s_cell_key) (defScope s_cell_key) [] [] (He.ga K "cell_key") fd := T.says.def_ 3 (d := d_cell_key) rfl
theorem D_BadBytes_init (T : Txt K mg) : ∃ fd, FunD K "__init__" "BadBytes.__init__" (defArgs s_BadBytes_init) (defBody s_BadBytes_init) (defScope s_BadBytes_init) [] [] (He.ma K (He.ga K "BadBytes") "__init__") fd := T.says.def_ 4 (d := d_BadBytes_init) rfl
theorem D_number_bytes (T : Txt K mg) : ∃ fd, FunD K "number_bytes" "number_bytes" (defArgs s_number_bytes) (defBody s_number_bytes) (defScope s_number_bytes) [] [] (He.ga K "number_bytes") fd := T.says.def_ 5 (d := d_number_bytes) rfl
theorem D_text_bytes (T : Txt K mg) : ∃ fd, FunD K "text_bytes" "text_bytes" (defArgs s_text_bytes) (defBody s_text_bytes) (defScope s_text_bytes) [] [] (He.ga K "text_bytes") fd := T.says.def_ 6 (d := d_text_bytes) rfl
theorem D_cell_bytes (T : Txt K mg) : ∃ fd, FunD K "cell_bytes" "cell_bytes" (defArgs s_cell_bytes) (defBody s_cell_bytes) (defScope s_cell_bytes) [] [] (He.ga K "cell_bytes") fd := T.says.def_ 7 (d := d_cell_bytes) rfl
theorem D_byte_at (T : Txt K mg) : ∃ fd, FunD K "byte_at" "byte_at" (defArgs s_byte_at) (defBody s_byte_at) (defScope s_byte_at) [] [] (He.ga K "byte_at") fd := T.says.def_ 8 (d := d_byte_at) rfl
theorem D_number_of (T : Txt K mg) : ∃ fd, FunD K "number_of" "number_of" (defArgs s_number_of) (defBody s_number_of) (defScope s_number_of) [] [] (He.ga K "number_of") fd := T.says.def_ 9 (d := d_number_of) rfl
theorem D_take_number (T : Txt K mg) : ∃ fd, FunD K "take_number" "take_number" (defArgs s_take_number) (defBody s_take_number) (defScope s_take_number) [] [] (He.ga K "take_number") fd := T.says.def_ 10 (d := d_take_number) rfl
theorem D_take_text (T : Txt K mg) : ∃ fd, FunD K "take_text" "take_text" (defArgs s_take_text) (defBody s_take_text) (defScope s_take_text) [] [] (He.ga K "take_text") fd := T.says.def_ 11 (d := d_take_text) rfl
theorem D_take_cell (T : Txt K mg) : ∃ fd, FunD K "take_cell" "take_cell" (defArgs s_take_cell) (defBody s_take_cell) (defScope s_take_cell) [] [] (He.ga K "take_cell") fd := T.says.def_ 12 (d := d_take_cell) rfl
theorem D_bits_for (T : Txt K mg) : ∃ fd, FunD K "bits_for" "bits_for" (defArgs s_bits_for) (defBody s_bits_for) (defScope s_bits_for) [] [] (He.ga K "bits_for") fd := T.says.def_ 13 (d := d_bits_for) rfl
theorem D_power_of (T : Txt K mg) : ∃ fd, FunD K "power_of" "power_of" (defArgs s_power_of) (defBody s_power_of) (defScope s_power_of) [] [] (He.ga K "power_of") fd := T.says.def_ 14 (d := d_power_of) rfl
theorem D_byte_count (T : Txt K mg) : ∃ fd, FunD K "byte_count" "byte_count" (defArgs s_byte_count) (defBody s_byte_count) (defScope s_byte_count) [] [] (He.ga K "byte_count") fd := T.says.def_ 15 (d := d_byte_count) rfl
theorem D_packed (T : Txt K mg) : ∃ fd, FunD K "packed" "packed" (defArgs s_packed) (defBody s_packed) (defScope s_packed) [] [] (He.ga K "packed") fd := T.says.def_ 16 (d := d_packed) rfl
theorem D_take_packed (T : Txt K mg) : ∃ fd, FunD K "take_packed" "take_packed" (defArgs s_take_packed) (defBody s_take_packed) (defScope s_take_packed) [] [] (He.ga K "take_packed") fd := T.says.def_ 17 (d := d_take_packed) rfl
theorem D_is_so (T : Txt K mg) : ∃ fd, FunD K "is_so" "is_so" (defArgs s_is_so) (defBody s_is_so) (defScope s_is_so) [] [] (He.ga K "is_so") fd := T.says.def_ 18 (d := d_is_so) rfl
theorem D_meets (T : Txt K mg) : ∃ fd, FunD K "meets" "meets" (defArgs s_meets) (defBody s_meets) (defScope s_meets) [] [] (He.ga K "meets") fd := T.says.def_ 19 (d := d_meets) rfl
theorem D_note_of (T : Txt K mg) : ∃ fd, FunD K "note_of" "note_of" (defArgs s_note_of) (defBody s_note_of) (defScope s_note_of) [] [] (He.ga K "note_of") fd := T.says.def_ 20 (d := d_note_of) rfl
theorem D_runs_of (T : Txt K mg) : ∃ fd, FunD K "runs_of" "runs_of" (defArgs s_runs_of) (defBody s_runs_of) (defScope s_runs_of) [] [] (He.ga K "runs_of") fd := T.says.def_ 21 (d := d_runs_of) rfl
theorem D_book_of (T : Txt K mg) : ∃ fd, FunD K "book_of" "book_of" (defArgs s_book_of) (defBody s_book_of) (defScope s_book_of) [] [] (He.ga K "book_of") fd := T.says.def_ 22 (d := d_book_of) rfl
theorem D_all_bytes (T : Txt K mg) : ∃ fd, FunD K "all_bytes" "all_bytes" (defArgs s_all_bytes) (defBody s_all_bytes) (defScope s_all_bytes) [] [] (He.ga K "all_bytes") fd := T.says.def_ 23 (d := d_all_bytes) rfl
theorem D_run_bytes (T : Txt K mg) : ∃ fd, FunD K "run_bytes" "run_bytes" (defArgs s_run_bytes) (defBody s_run_bytes) (defScope s_run_bytes) [] [] (He.ga K "run_bytes") fd := T.says.def_ 24 (d := d_run_bytes) rfl
theorem D_book_bytes (T : Txt K mg) : ∃ fd, FunD K "book_bytes" "book_bytes" (defArgs s_book_bytes) (defBody s_book_bytes) (defScope s_book_bytes) [] [] (He.ga K "book_bytes") fd := T.says.def_ 25 (d := d_book_bytes) rfl
theorem D_small_bytes (T : Txt K mg) : ∃ fd, FunD K "small_bytes" "small_bytes" (defArgs s_small_bytes) (defBody s_small_bytes) (defScope s_small_bytes) [] [] (He.ga K "small_bytes") fd := T.says.def_ 26 (d := d_small_bytes) rfl
theorem D_base_bytes (T : Txt K mg) : ∃ fd, FunD K "base_bytes" "base_bytes" (defArgs s_base_bytes) (defBody s_base_bytes) (defScope s_base_bytes) [] [] (He.ga K "base_bytes") fd := T.says.def_ 27 (d := d_base_bytes) rfl
theorem D_step_bytes (T : Txt K mg) : ∃ fd, FunD K "step_bytes" "step_bytes" (defArgs s_step_bytes) (defBody s_step_bytes) (defScope s_step_bytes) [] [] (He.ga K "step_bytes") fd := T.says.def_ 28 (d := d_step_bytes) rfl
theorem D_press_by (T : Txt K mg) : ∃ fd, FunD K "press_by" "press_by" (defArgs s_press_by) (defBody s_press_by) (defScope s_press_by) [] [] (He.ga K "press_by") fd := T.says.def_ 29 (d := d_press_by) rfl
theorem D_pressed (T : Txt K mg) : ∃ fd, FunD K "pressed" "pressed" (defArgs s_pressed) (defBody s_pressed) (defScope s_pressed) [] [] (He.ga K "pressed") fd := T.says.def_ 30 (d := d_pressed) rfl
theorem D_take_byte (T : Txt K mg) : ∃ fd, FunD K "take_byte" "take_byte" (defArgs s_take_byte) (defBody s_take_byte) (defScope s_take_byte) [] [] (He.ga K "take_byte") fd := T.says.def_ 31 (d := d_take_byte) rfl
theorem D_take_count (T : Txt K mg) : ∃ fd, FunD K "take_count" "take_count" (defArgs s_take_count) (defBody s_take_count) (defScope s_take_count) [] [] (He.ga K "take_count") fd := T.says.def_ 32 (d := d_take_count) rfl
theorem D_take_cells (T : Txt K mg) : ∃ fd, FunD K "take_cells" "take_cells" (defArgs s_take_cells) (defBody s_take_cells) (defScope s_take_cells) [] [] (He.ga K "take_cells") fd := T.says.def_ 33 (d := d_take_cells) rfl
theorem D_take_runs (T : Txt K mg) : ∃ fd, FunD K "take_runs" "take_runs" (defArgs s_take_runs) (defBody s_take_runs) (defScope s_take_runs) [] [] (He.ga K "take_runs") fd := T.says.def_ 34 (d := d_take_runs) rfl
theorem D_take_book (T : Txt K mg) : ∃ fd, FunD K "take_book" "take_book" (defArgs s_take_book) (defBody s_take_book) (defScope s_take_book) [] [] (He.ga K "take_book") fd := T.says.def_ 35 (d := d_take_book) rfl
theorem D_take_small (T : Txt K mg) : ∃ fd, FunD K "take_small" "take_small" (defArgs s_take_small) (defBody s_take_small) (defScope s_take_small) [] [] (He.ga K "take_small") fd := T.says.def_ 36 (d := d_take_small) rfl
theorem D_run_cells (T : Txt K mg) : ∃ fd, FunD K "run_cells" "run_cells" (defArgs s_run_cells) (defBody s_run_cells) (defScope s_run_cells) [] [] (He.ga K "run_cells") fd := T.says.def_ 37 (d := d_run_cells) rfl
theorem D_book_cells (T : Txt K mg) : ∃ fd, FunD K "book_cells" "book_cells" (defArgs s_book_cells) (defBody s_book_cells) (defScope s_book_cells) [] [] (He.ga K "book_cells") fd := T.says.def_ 38 (d := d_book_cells) rfl
theorem D_base_cells (T : Txt K mg) : ∃ fd, FunD K "base_cells" "base_cells" (defArgs s_base_cells) (defBody s_base_cells) (defScope s_base_cells) [] [] (He.ga K "base_cells") fd := T.says.def_ 39 (d := d_base_cells) rfl
theorem D_step_cells (T : Txt K mg) : ∃ fd, FunD K "step_cells" "step_cells" (defArgs s_step_cells) (defBody s_step_cells) (defScope s_step_cells) [] [] (He.ga K "step_cells") fd := T.says.def_ 40 (d := d_step_cells) rfl
theorem D_cells_by (T : Txt K mg) : ∃ fd, FunD K "cells_by" "cells_by" (defArgs s_cells_by) (defBody s_cells_by) (defScope s_cells_by) [] [] (He.ga K "cells_by") fd := T.says.def_ 41 (d := d_cells_by) rfl
theorem D_take_head (T : Txt K mg) : ∃ fd, FunD K "take_head" "take_head" (defArgs s_take_head) (defBody s_take_head) (defScope s_take_head) [] [] (He.ga K "take_head") fd := T.says.def_ 42 (d := d_take_head) rfl
theorem D_is_stretch (T : Txt K mg) : ∃ fd, FunD K "is_stretch" "is_stretch" (defArgs s_is_stretch) (defBody s_is_stretch) (defScope s_is_stretch) [] [] (He.ga K "is_stretch") fd := T.says.def_ 43 (d := d_is_stretch) rfl
theorem D_unpressed (T : Txt K mg) : ∃ fd, FunD K "unpressed" "unpressed" (defArgs s_unpressed) (defBody s_unpressed) (defScope s_unpressed) [] [] (He.ga K "unpressed") fd := T.says.def_ 44 (d := d_unpressed) rfl
theorem D_count_in (T : Txt K mg) : ∃ fd, FunD K "count_in" "count_in" (defArgs s_count_in) (defBody s_count_in) (defScope s_count_in) [] [] (He.ga K "count_in") fd := T.says.def_ 45 (d := d_count_in) rfl
theorem D_cell_in (T : Txt K mg) : ∃ fd, FunD K "cell_in" "cell_in" (defArgs s_cell_in) (defBody s_cell_in) (defScope s_cell_in) [] [] (He.ga K "cell_in") fd := T.says.def_ 46 (d := d_cell_in) rfl
theorem D_kept_in (T : Txt K mg) : ∃ fd, FunD K "kept_in" "kept_in" (defArgs s_kept_in) (defBody s_kept_in) (defScope s_kept_in) [] [] (He.ga K "kept_in") fd := T.says.def_ 47 (d := d_kept_in) rfl
theorem D_Pillar_init (T : Txt K mg) : ∃ fd, FunD K "__init__" "Pillar.__init__" (defArgs s_Pillar_init) (defBody s_Pillar_init) (defScope s_Pillar_init) [] [] (He.ma K (He.ga K "Pillar") "__init__") fd := T.says.def_ 48 (d := d_Pillar_init) rfl
theorem D_Pillar_many (T : Txt K mg) : ∃ fd, FunD K "many" "Pillar.many" (defArgs s_Pillar_many) (defBody s_Pillar_many) (defScope s_Pillar_many) [] [] (He.ma K (He.ga K "Pillar") "many") fd := T.says.def_ 49 (d := d_Pillar_many) rfl
theorem D_Pillar_rows (T : Txt K mg) : ∃ fd, FunD K "rows" "Pillar.rows" (defArgs s_Pillar_rows) (defBody s_Pillar_rows) (defScope s_Pillar_rows) [] [] (He.ma K (He.ga K "Pillar") "rows") fd := T.says.def_ 50 (d := d_Pillar_rows) rfl
theorem D_sum_of (T : Txt K mg) : ∃ fd, FunD K "sum_of" "sum_of" (defArgs s_sum_of) (defBody s_sum_of) (defScope s_sum_of) [] [] (He.ga K "sum_of") fd := T.says.def_ 51 (d := d_sum_of) rfl
theorem D_summed (T : Txt K mg) : ∃ fd, FunD K "summed" "summed" (defArgs s_summed) (defBody s_summed) (defScope s_summed) [] [] (He.ga K "summed") fd := T.says.def_ 52 (d := d_summed) rfl
theorem D_columns_of (T : Txt K mg) : ∃ fd, FunD K "columns_of" "columns_of" (defArgs s_columns_of) (defBody s_columns_of) (defScope s_columns_of) [] [] (He.ga K "columns_of") fd := T.says.def_ 53 (d := d_columns_of) rfl
theorem D_pillars_of (T : Txt K mg) : ∃ fd, FunD K "pillars_of" "pillars_of" (defArgs s_pillars_of) (defBody s_pillars_of) (defScope s_pillars_of) [] [] (He.ga K "pillars_of") fd := T.says.def_ 54 (d := d_pillars_of) rfl
theorem D_heap_bytes (T : Txt K mg) : ∃ fd, FunD K "heap_bytes" "heap_bytes" (defArgs s_heap_bytes) (defBody s_heap_bytes) (defScope s_heap_bytes) [] [] (He.ga K "heap_bytes") fd := T.says.def_ 55 (d := d_heap_bytes) rfl
theorem D_take_bounded (T : Txt K mg) : ∃ fd, FunD K "take_bounded" "take_bounded" (defArgs s_take_bounded) (defBody s_take_bounded) (defScope s_take_bounded) [] [] (He.ga K "take_bounded") fd := T.says.def_ 56 (d := d_take_bounded) rfl
theorem D_take_kinds (T : Txt K mg) : ∃ fd, FunD K "take_kinds" "take_kinds" (defArgs s_take_kinds) (defBody s_take_kinds) (defScope s_take_kinds) [] [] (He.ga K "take_kinds") fd := T.says.def_ 57 (d := d_take_kinds) rfl
theorem D_take_heap_head (T : Txt K mg) : ∃ fd, FunD K "take_heap_head" "take_heap_head" (defArgs s_take_heap_head) (defBody s_take_heap_head) (defScope s_take_heap_head) [] [] (He.ga K "take_heap_head") fd := T.says.def_ 58 (d := d_take_heap_head) rfl
theorem D_take_stretch (T : Txt K mg) : ∃ fd, FunD K "take_stretch" "take_stretch" (defArgs s_take_stretch) (defBody s_take_stretch) (defScope s_take_stretch) [] [] (He.ga K "take_stretch") fd := T.says.def_ 59 (d := d_take_stretch) rfl
theorem D_take_pillar (T : Txt K mg) : ∃ fd, FunD K "take_pillar" "take_pillar" (defArgs s_take_pillar) (defBody s_take_pillar) (defScope s_take_pillar) [] [] (He.ga K "take_pillar") fd := T.says.def_ 60 (d := d_take_pillar) rfl
theorem D_rise_from (T : Txt K mg) : ∃ fd, FunD K "rise_from" "rise_from" (defArgs s_rise_from) (defBody s_rise_from) (defScope s_rise_from) [] [] (He.ga K "rise_from") fd := T.says.def_ 61 (d := d_rise_from) rfl
theorem D_are_entries (T : Txt K mg) : ∃ fd, FunD K "are_entries" "are_entries" (defArgs s_are_entries) (defBody s_are_entries) (defScope s_are_entries) [] [] (He.ga K "are_entries") fd := T.says.def_ 62 (d := d_are_entries) rfl
theorem D_Heap_init (T : Txt K mg) : ∃ fd, FunD K "__init__" "Heap.__init__" (defArgs s_Heap_init) (defBody s_Heap_init) (defScope s_Heap_init) [] [] (He.ma K (He.ga K "Heap") "__init__") fd := T.says.def_ 63 (d := d_Heap_init) rfl
theorem D_Heap_kinds (T : Txt K mg) : ∃ fd, FunD K "kinds" "Heap.kinds" (defArgs s_Heap_kinds) (defBody s_Heap_kinds) (defScope s_Heap_kinds) [] [] (He.ma K (He.ga K "Heap") "kinds") fd := T.says.def_ 64 (d := d_Heap_kinds) rfl
theorem D_Heap_long (T : Txt K mg) : ∃ fd, FunD K "long" "Heap.long" (defArgs s_Heap_long) (defBody s_Heap_long) (defScope s_Heap_long) [] [] (He.ma K (He.ga K "Heap") "long") fd := T.says.def_ 65 (d := d_Heap_long) rfl
theorem D_Heap_entries (T : Txt K mg) : ∃ fd, FunD K "entries" "Heap.entries" (defArgs s_Heap_entries) (defBody s_Heap_entries) (defScope s_Heap_entries) [] [] (He.ma K (He.ga K "Heap") "entries") fd := T.says.def_ 66 (d := d_Heap_entries) rfl
theorem D_Heap_pillars (T : Txt K mg) : ∃ fd, FunD K "pillars" "Heap.pillars" (defArgs s_Heap_pillars) (defBody s_Heap_pillars) (defScope s_Heap_pillars) [] [] (He.ma K (He.ga K "Heap") "pillars") fd := T.says.def_ 67 (d := d_Heap_pillars) rfl
theorem D_law_begin (T : Txt K mg) : ∃ fd, FunD K "_law_begin" "_law_begin" (defArgs s_law_begin) (defBody s_law_begin) (defScope s_law_begin) [] [] (He.ga K "_law_begin") fd := T.says.def_ 68 (d := d_law_begin) rfl
theorem D_law_take (T : Txt K mg) : ∃ fd, FunD K "_law_take" "_law_take" (defArgs s_law_take) (defBody s_law_take) (defScope s_law_take) [] [] (He.ga K "_law_take") fd := T.says.def_ 69 (d := d_law_take) rfl
theorem D_law_number (T : Txt K mg) : ∃ fd, FunD K "_law_number" "_law_number" (defArgs s_law_number) (defBody s_law_number) (defScope s_law_number) [] [] (He.ga K "_law_number") fd := T.says.def_ 70 (d := d_law_number) rfl
theorem D_law_text (T : Txt K mg) : ∃ fd, FunD K "_law_text" "_law_text" (defArgs s_law_text) (defBody s_law_text) (defScope s_law_text) [] [] (He.ga K "_law_text") fd := T.says.def_ 71 (d := d_law_text) rfl
theorem D_law_cells (T : Txt K mg) : ∃ fd, FunD K "_law_cells" "_law_cells" (defArgs s_law_cells) (defBody s_law_cells) (defScope s_law_cells) [] [] (He.ga K "_law_cells") fd := T.says.def_ 72 (d := d_law_cells) rfl
theorem D_law_kind (T : Txt K mg) : ∃ fd, FunD K "_law_kind" "_law_kind" (defArgs s_law_kind) (defBody s_law_kind) (defScope s_law_kind) [] [] (He.ga K "_law_kind") fd := T.says.def_ 73 (d := d_law_kind) rfl
theorem D_law_near_cells (T : Txt K mg) : ∃ fd, FunD K "_law_near_cells" "_law_near_cells" (defArgs s_law_near_cells) (defBody s_law_near_cells) (defScope s_law_near_cells) [] [] (He.ga K "_law_near_cells") fd := T.says.def_ 74 (d := d_law_near_cells) rfl
theorem D_law_some_cells (T : Txt K mg) : ∃ fd, FunD K "_law_some_cells" "_law_some_cells" (defArgs s_law_some_cells) (defBody s_law_some_cells) (defScope s_law_some_cells) [] [] (He.ga K "_law_some_cells") fd := T.says.def_ 75 (d := d_law_some_cells) rfl
theorem D_law_value (T : Txt K mg) : ∃ fd, FunD K "_law_value" "_law_value" (defArgs s_law_value) (defBody s_law_value) (defScope s_law_value) [] [] (He.ga K "_law_value") fd := T.says.def_ 76 (d := d_law_value) rfl
theorem D_law_test (T : Txt K mg) : ∃ fd, FunD K "_law_test" "_law_test" (defArgs s_law_test) (defBody s_law_test) (defScope s_law_test) [] [] (He.ga K "_law_test") fd := T.says.def_ 77 (d := d_law_test) rfl
theorem D_law_same (T : Txt K mg) : ∃ fd, FunD K "_law_same" "_law_same" (defArgs s_law_same) (defBody s_law_same) (defScope s_law_same) [] [] (He.ga K "_law_same") fd := T.says.def_ 78 (d := d_law_same) rfl
theorem D_law_kinds (T : Txt K mg) : ∃ fd, FunD K "_law_kinds" "_law_kinds" (defArgs s_law_kinds) (defBody s_law_kinds) (defScope s_law_kinds) [] [] (He.ga K "_law_kinds") fd := T.says.def_ 79 (d := d_law_kinds) rfl
theorem D_law_rows (T : Txt K mg) : ∃ fd, FunD K "_law_rows" "_law_rows" (defArgs s_law_rows) (defBody s_law_rows) (defScope s_law_rows) [] [] (He.ga K "_law_rows") fd := T.says.def_ 80 (d := d_law_rows) rfl
theorem D_law_bent (T : Txt K mg) : ∃ fd, FunD K "_law_bent" "_law_bent" (defArgs s_law_bent) (defBody s_law_bent) (defScope s_law_bent) [] [] (He.ga K "_law_bent") fd := T.says.def_ 81 (d := d_law_bent) rfl
theorem D_law_read (T : Txt K mg) : ∃ fd, FunD K "_law_read" "_law_read" (defArgs s_law_read) (defBody s_law_read) (defScope s_law_read) [] [] (He.ga K "_law_read") fd := T.says.def_ 82 (d := d_law_read) rfl
theorem D_law_one_row (T : Txt K mg) : ∃ fd, FunD K "_law_one_row" "_law_one_row" (defArgs s_law_one_row) (defBody s_law_one_row) (defScope s_law_one_row) [] [] (He.ga K "_law_one_row") fd := T.says.def_ 83 (d := d_law_one_row) rfl
theorem D_law_stretch (T : Txt K mg) : ∃ fd, FunD K "_law_stretch" "_law_stretch" (defArgs s_law_stretch) (defBody s_law_stretch) (defScope s_law_stretch) [] [] (He.ga K "_law_stretch") fd := T.says.def_ 84 (d := d_law_stretch) rfl
theorem D_law_entries (T : Txt K mg) : ∃ fd, FunD K "_law_entries" "_law_entries" (defArgs s_law_entries) (defBody s_law_entries) (defScope s_law_entries) [] [] (He.ga K "_law_entries") fd := T.says.def_ 85 (d := d_law_entries) rfl
theorem D_law_heap (T : Txt K mg) : ∃ fd, FunD K "_law_heap" "_law_heap" (defArgs s_law_heap) (defBody s_law_heap) (defScope s_law_heap) [] [] (He.ga K "_law_heap") fd := T.says.def_ 86 (d := d_law_heap) rfl
theorem D_law (T : Txt K mg) : ∃ fd, FunD K "law" "law" (defArgs s_law) (defBody s_law) (defScope s_law) [] [] (He.ga K "law") fd := T.says.def_ 87 (d := d_law) rfl
end
end K90
namespace K90
open PySem PySem.Spec PyProof.Rows L2
set_option maxHeartbeats 0 in
theorem run (w : World) : HandSHeadRun.RunEq R (PySem.W.view R.prog [110]) hk ob 6000 names w := by
  intro os
  kernel_rfl
end K90
/-! The plain law: what the defs compute, as plain Lean functions; no program in sight. -/
namespace K90
/-! ### numbers as bytes -/
def digs (z : Nat) : List Int := if z < 128 then [(z : Int)] else ((z % 128 + 128 : Nat) : Int) :: digs (z / 128)
termination_by z
decreasing_by omega
def zOf (n : Int) : Nat := if n < 0 then (-2 * n - 1).toNat else (2 * n).toNat
def numberBytes (n : Int) : List Int := digs (zOf n)
def numberOf (r : Int) : Int := if r % 2 = 0 then r / 2 else -(r / 2) - 1
/-- the reading loop: turns left, the turn, what is read so far, the weight -/
def tn : Nat → Nat → Int → Int → List Int → Option (Int × Nat)
  | 0, _, _, _, _ => none
  | _ + 1, _, _, _, [] => none
  | f + 1, t, rest, wt, b :: r => if b < 128 then (if b = 0 ∧ 0 < t then none else some (rest + b % 128 * wt, t + 1)) else tn f (t + 1) (rest + b % 128 * wt) (wt * 128) r
def takeNumber (l : List Int) : Option (Int × Nat) := (tn 9 0 0 1 l).map fun p => (numberOf p.1, p.2)
/-! ### cells -/
inductive Cell where
  | non
  | int (i : Int)
  | str (l : List Nat)
  deriving DecidableEq
/-- the code of the i-th sign; a sign's place -/
def signAt (i : Nat) : Nat := if i < 5 then i + 32 else i + 33
def placeOf (c : Nat) : Nat := if c < 37 then c - 32 else c - 33
def isSign (c : Nat) : Bool := decide (32 ≤ c) && decide (c ≤ 126) && decide (c ≠ 37)
def tsigns : Nat → List Int → Option (List Nat)
  | 0, _ => some []
  | _ + 1, [] => none
  | n + 1, b :: r => if 0 ≤ b ∧ b < 94 then (tsigns n r).map (signAt b.toNat :: ·) else none
def takeText (l : List Int) : Option (List Nat × Nat) := match takeNumber l with
  | none => none
  | some (m, k) => if 0 ≤ m ∧ m ≤ 20 then (tsigns m.toNat (l.drop k)).map fun s => (s, k + m.toNat) else none
def takeCell : List Int → Option (Cell × Nat)
  | [] => none
  | b :: r => if b = 0 then some (.non, 1) else if b = 1 then (takeNumber r).map fun p => (.int p.1, p.2 + 1) else if b = 2 then (takeText r).map fun p => (.str p.1, p.2 + 1) else none
def textBytes (l : List Nat) : List Int := numberBytes l.length ++ l.map fun c => ((placeOf c : Nat) : Int)
def cellBytes : Cell → List Int
  | .non => [0]
  | .int i => 1 :: numberBytes i
  | .str l => 2 :: textBytes l
def cellsBytes (cs : List Cell) : List Int := (cs.map cellBytes).flatten
/-! ### packed numbers -/
def bitsFor (z : Nat) : Nat := if z = 0 then 0 else bitsFor (z / 2) + 1
termination_by z
decreasing_by omega
def byteCount (m w : Nat) : Nat := (m * w + 7) / 8
def packRest (w : Nat) (ns : List Int) : Int := ns.foldr (fun x r => r * 2 ^ w + x) 0
def bytesOf : Nat → Int → List Int
  | 0, _ => []
  | n + 1, r => r % 256 :: bytesOf n (r / 256)
def packed (ns : List Int) (w : Nat) : List Int := bytesOf (byteCount ns.length w) (packRest w ns)
def numsOf : Nat → Int → Int → List Int × Int
  | 0, _, r => ([], r)
  | n + 1, p, r => (r % p :: (numsOf n p (r / p)).1, (numsOf n p (r / p)).2)
def byteRest (bs : List Int) : Int := bs.foldr (fun b r => r * 256 + b) 0
def takePacked (m w : Nat) (l : List Int) : Option (List Int × Nat) :=
  if l.length < byteCount m w then none else
  if (numsOf m (2 ^ w) (byteRest (l.take (byteCount m w)))).2 ≠ 0 then none else
  some ((numsOf m (2 ^ w) (byteRest (l.take (byteCount m w)))).1, byteCount m w)
/-! ### pressing -/
/-- one cell more -/
def pushRun (rs : List (Cell × Nat)) (c : Cell) : List (Cell × Nat) := match rs.getLast? with
  | some (d, n) => if d = c then rs.dropLast ++ [(c, n + 1)] else rs ++ [(c, 1)]
  | none => [(c, 1)]
def runsOf (cs : List Cell) : List (Cell × Nat) := cs.foldl pushRun []
def runsBytes (rs : List (Cell × Nat)) : List Int := (rs.map fun p => cellBytes p.1 ++ numberBytes p.2).flatten
def runBytes (cs : List Cell) : List Int := numberBytes (runsOf cs).length ++ runsBytes (runsOf cs)
/-! ### taking -/
def takeByte : List Int → Option (Int × Nat)
  | [] => none
  | b :: _ => some (b, 1)
def takeCount (most : Nat) (l : List Int) : Option (Nat × Nat) := match takeNumber l with
  | none => none
  | some (c, k) => if 1 ≤ c ∧ c ≤ most then some (c.toNat, k) else none
def takeCells : Nat → List Int → Option (List Cell × Nat)
  | 0, _ => some ([], 0)
  | n + 1, l => (takeCell l).bind fun x => (takeCells n (l.drop x.2)).map fun y => (x.1 :: y.1, x.2 + y.2)
def takeRunsN (most : Nat) : Nat → List Int → Option (List (Cell × Nat) × Nat)
  | 0, _ => some ([], 0)
  | n + 1, l => (takeCell l).bind fun x => (takeCount most (l.drop x.2)).bind fun z => (takeRunsN most n (l.drop (x.2 + z.2))).map fun y => ((x.1, z.1) :: y.1, x.2 + z.2 + y.2)
def takeRuns (many : Nat) (l : List Int) : Option (List (Cell × Nat) × Nat) := (takeCount many l).bind fun x => (takeRunsN many x.1 (l.drop x.2)).map fun y => (y.1, x.2 + y.2)
def takeBook (many : Nat) (l : List Int) : Option (List Cell × List Int × Nat) := (takeCount many l).bind fun x => (takeCells x.1 (l.drop x.2)).bind fun y => (takePacked many (bitsFor (x.1 - 1)) (l.drop (x.2 + y.2))).map fun z => (y.1, z.1, x.2 + y.2 + z.2)
def takeSmall (many : Nat) : List Int → Option (List Int × Nat)
  | [] => none
  | b :: r => if 62 < b then none else (takePacked many b.toNat r).map fun x => (x.1, 1 + x.2)
def unruns (rs : List (Cell × Nat)) : List Cell := (rs.map fun p => List.replicate p.2 p.1).flatten
def runCells (many : Nat) (l : List Int) : Option (List Cell × Nat) := (takeRuns many l).map fun x => (unruns x.1, x.2)
def pick (book : List Cell) (p : Int) : Cell := (book[p.toNat]?).getD .non
def bookCells (many : Nat) (l : List Int) : Option (List Cell × Nat) := (takeBook many l).map fun x => (if x.2.1.all (fun p => decide (p < x.1.length)) then x.2.1.map (pick x.1) else [], x.2.2)
def baseCells (many : Nat) (l : List Int) : Option (List Cell × Nat) := (takeNumber l).bind fun x => (takeSmall many (l.drop x.2)).map fun y => (y.1.map fun n => .int (x.1 + n), x.2 + y.2)
def steps (least : Int) : Int → List Int → List Cell
  | _, [] => []
  | c, n :: r => .int (c + least + n) :: steps least (c + least + n) r
def stepCells (many : Nat) (l : List Int) : Option (List Cell × Nat) := (takeNumber l).bind fun x => (takeNumber (l.drop x.2)).bind fun y => (takeSmall (many - 1) (l.drop (x.2 + y.2))).map fun z => (.int x.1 :: steps y.1 x.1 z.1, x.2 + y.2 + z.2)
def cellsBy (way many : Nat) (l : List Int) : Option (List Cell × Nat) :=
  if way = 0 then takeCells many l else if way = 1 then runCells many l else if way = 2 then bookCells many l else if way = 3 then baseCells many l else stepCells many l
def takeHead : List Int → Option (Nat × Nat × Nat)
  | [] => none
  | b :: r => if 4 < b then none else (takeCount 64 r).map fun x => (b.toNat, x.1, 1 + x.2)
/-! ### how far a reading goes -/
theorem tn_le : ∀ (f t : Nat) (rest wt : Int) (l : List Int) (x : Int × Nat), tn f t rest wt l = some x → t < x.2 ∧ x.2 ≤ t + l.length
  | 0, _, _, _, _, _, h => by simp [tn] at h
  | _ + 1, _, _, _, [], _, h => by simp [tn] at h
  | f + 1, t, rest, wt, b :: r, x, h => by
    unfold tn at h
    split at h
    · split at h
      · cases h
      · cases h
        simp
    · have := tn_le f (t + 1) _ _ r x h
      simp
      omega
theorem takeNumber_le {l : List Int} {x : Int × Nat} (h : takeNumber l = some x) : 0 < x.2 ∧ x.2 ≤ l.length := by
  unfold takeNumber at h
  rw [Option.map_eq_some_iff] at h
  obtain ⟨y, h1, rfl⟩ := h
  have := tn_le _ _ _ _ _ _ h1
  simp at this
  exact this
theorem tsigns_le : ∀ (n : Nat) (l : List Int) (x : List Nat), tsigns n l = some x → n ≤ l.length ∧ x.length = n ∧ x.all isSign = true
  | 0, l, x, h => by
    simp [tsigns] at h
    subst h
    simp
  | n + 1, [], x, h => by simp [tsigns] at h
  | n + 1, b :: r, x, h => by
    unfold tsigns at h
    split at h
    · rw [Option.map_eq_some_iff] at h
      obtain ⟨y, h1, rfl⟩ := h
      have := tsigns_le n r y h1
      have a : ∀ n, n < 94 → isSign (signAt n) = true := by decide +kernel
      have := a b.toNat (by omega)
      simp_all
    · cases h
theorem takeText_le {l : List Int} {x : List Nat × Nat} (h : takeText l = some x) : x.2 ≤ l.length ∧ x.1.length ≤ 20 ∧ x.1.all isSign = true := by
  unfold takeText at h
  split at h
  · cases h
  · rename_i m k e
    have h1 := takeNumber_le e
    split at h
    · rw [Option.map_eq_some_iff] at h
      obtain ⟨y, h2, rfl⟩ := h
      have := tsigns_le _ _ _ h2
      rw [List.length_drop] at this
      dsimp only at h1 ⊢
      refine ⟨by omega, by omega, this.2.2⟩
    · cases h
/-- the texts are of signs, at most twenty -/
def Cell.tok : Cell → Prop
  | .str l => l.length ≤ 20 ∧ l.all isSign = true
  | _ => True
theorem takeCell_le {l : List Int} {x : Cell × Nat} (h : takeCell l = some x) : 0 < x.2 ∧ x.2 ≤ l.length ∧ x.1.tok := by
  unfold takeCell at h
  split at h
  · cases h
  · split at h
    · cases h
      simp [Cell.tok]
    · split at h
      · rw [Option.map_eq_some_iff] at h
        obtain ⟨y, h1, rfl⟩ := h
        have := takeNumber_le h1
        simp [Cell.tok]
        omega
      · split at h
        · rw [Option.map_eq_some_iff] at h
          obtain ⟨y, h1, rfl⟩ := h
          have := takeText_le h1
          exact ⟨by simp, by simp; omega, this.2⟩
        · cases h
theorem takeCount_le {m : Nat} {l : List Int} {x : Nat × Nat} (h : takeCount m l = some x) : 1 ≤ x.1 ∧ x.1 ≤ m ∧ 0 < x.2 ∧ x.2 ≤ l.length := by
  unfold takeCount at h
  split at h
  · cases h
  · rename_i c k e
    have h1 := takeNumber_le e
    split at h
    · cases h
      dsimp only at h1 ⊢
      omega
    · cases h
theorem takeCells_le : ∀ (n : Nat) (l : List Int) (x : List Cell × Nat), takeCells n l = some x → x.2 ≤ l.length ∧ x.1.length = n ∧ ∀ c ∈ x.1, c.tok
  | 0, l, x, h => by
    simp [takeCells] at h
    subst h
    simp
  | n + 1, l, x, h => by
    unfold takeCells at h
    rw [Option.bind_eq_some_iff] at h
    obtain ⟨y, h1, h⟩ := h
    rw [Option.map_eq_some_iff] at h
    obtain ⟨z, h2, rfl⟩ := h
    have a := takeCell_le h1
    have b := takeCells_le n _ z h2
    rw [List.length_drop] at b
    refine ⟨by simp only; omega, by simp [b.2.1], ?_⟩
    intro c hc
    rcases List.mem_cons.mp hc with rfl | hc
    · exact a.2.2
    · exact b.2.2 c hc
theorem takePacked_le {m w : Nat} {l : List Int} {x : List Int × Nat} (h : takePacked m w l = some x) : x.2 ≤ l.length := by
  unfold takePacked at h
  split at h
  · cases h
  · split at h
    · cases h
    · cases h
      simp only
      omega
theorem bitsFor_le : ∀ (k z : Nat), z < 2 ^ k → bitsFor z ≤ k
  | 0, z, h => by
    rw [bitsFor, if_pos (by omega)]
    exact Nat.le_refl _
  | k + 1, z, h => by
    rw [bitsFor]
    split
    · omega
    · have := bitsFor_le k (z / 2) (by rw [Nat.pow_succ] at h; omega)
      omega
theorem bitsFor_100 {z : Nat} (h : z ≤ 100) : bitsFor z ≤ 62 := Nat.le_trans (bitsFor_le 7 z (by omega)) (by decide)
theorem numsOf_mem {p : Int} (hp : 0 < p) : ∀ (n : Nat) (r : Int), (numsOf n p r).1.length = n ∧ ∀ x ∈ (numsOf n p r).1, 0 ≤ x ∧ x < p
  | 0, r => ⟨rfl, by simp [numsOf]⟩
  | n + 1, r => by
    have ih := numsOf_mem hp n (r / p)
    unfold numsOf
    refine ⟨by simp [ih.1], fun x hx => ?_⟩
    rcases List.mem_cons.mp hx with rfl | hx
    · exact ⟨Int.emod_nonneg _ (by omega), Int.emod_lt_of_pos _ hp⟩
    · exact ih.2 x hx
theorem two_pow_pos (w : Nat) : (0 : Int) < 2 ^ w := by
  induction w with
  | zero => decide
  | succ n ih =>
    rw [Int.pow_succ]
    omega
theorem takePacked_mem {m w : Nat} {l : List Int} {x : List Int × Nat} (h : takePacked m w l = some x) : x.1.length = m ∧ ∀ y ∈ x.1, 0 ≤ y ∧ y < 2 ^ w := by
  unfold takePacked at h
  split at h
  · cases h
  · split at h
    · cases h
    · cases h
      exact numsOf_mem (two_pow_pos w) _ _
theorem takeRunsN_le (most : Nat) : ∀ (n : Nat) (l : List Int) (x : List (Cell × Nat) × Nat), takeRunsN most n l = some x → x.2 ≤ l.length ∧ x.1.length = n ∧ ∀ p ∈ x.1, p.1.tok ∧ 1 ≤ p.2 ∧ p.2 ≤ most
  | 0, l, x, h => by
    simp [takeRunsN] at h
    subst h
    simp
  | n + 1, l, x, h => by
    unfold takeRunsN at h
    rw [Option.bind_eq_some_iff] at h
    obtain ⟨y, h1, h⟩ := h
    rw [Option.bind_eq_some_iff] at h
    obtain ⟨u, h2, h⟩ := h
    rw [Option.map_eq_some_iff] at h
    obtain ⟨z, h3, rfl⟩ := h
    have a := takeCell_le h1
    have b := takeCount_le h2
    have c := takeRunsN_le most n _ z h3
    rw [List.length_drop] at b c
    refine ⟨by simp only; omega, by simp [c.2.1], ?_⟩
    intro p hc
    rcases List.mem_cons.mp hc with rfl | hc
    · exact ⟨a.2.2, b.1, b.2.1⟩
    · exact c.2.2 p hc
theorem takeRuns_le {many : Nat} {l : List Int} {x : List (Cell × Nat) × Nat} (h : takeRuns many l = some x) : x.2 ≤ l.length ∧ x.1.length ≤ many ∧ 1 ≤ x.1.length ∧ ∀ p ∈ x.1, p.1.tok ∧ 1 ≤ p.2 ∧ p.2 ≤ many := by
  unfold takeRuns at h
  rw [Option.bind_eq_some_iff] at h
  obtain ⟨y, h1, h⟩ := h
  rw [Option.map_eq_some_iff] at h
  obtain ⟨z, h2, rfl⟩ := h
  have a := takeCount_le h1
  have b := takeRunsN_le _ _ _ _ h2
  rw [List.length_drop] at b
  dsimp only at a b ⊢
  exact ⟨by omega, by omega, by omega, b.2.2⟩
/-! ### small numbers -/
def minL : List Int → Int
  | [] => 0
  | n :: r => r.foldl min n
def maxL : List Int → Int
  | [] => 0
  | n :: r => r.foldl max n
/-- the first of the least of f -/
def firstMin {α : Type} (f : α → Nat) : List α → Option α
  | [] => none
  | x :: r => some (r.foldl (fun a y => if f y < f a then y else a) x)
def smallBytes (ns : List Int) : List Int := ((bitsFor (maxL ns).toNat : Nat) : Int) :: packed ns (bitsFor (maxL ns).toNat)
def baseBytes (ns : List Int) : List Int := numberBytes (minL ns) ++ smallBytes (ns.map fun n => n - minL ns)
def stepsOf (ns : List Int) : List Int := List.zipWith (fun a b => b - a) ns ns.tail
def stepBytes (ns : List Int) : List Int := numberBytes (ns.headD 0) ++ numberBytes (minL (stepsOf ns)) ++ smallBytes ((stepsOf ns).map fun n => n - minL (stepsOf ns))
/-! ### the cells -/
def Cell.fit : Cell → Prop
  | .str l => l.length ≤ 20 ∧ l.all isSign = true
  | .int i => -1000000000000000000 < i ∧ i < 1000000000000000000
  | .non => True
theorem Cell.fit.tok {c : Cell} (h : c.fit) : c.tok := by
  cases c <;> first | exact h | trivial
theorem digs_len : ∀ (k z : Nat), z < 128 ^ (k + 1) → (digs z).length ≤ k + 1
  | 0, z, h => by
    rw [digs, if_pos (by omega)]
    simp
  | k + 1, z, h => by
    rw [digs]
    split
    · simp
    · have := digs_len k (z / 128) (by rw [Nat.pow_succ] at h; omega)
      simp
      omega
theorem numberBytes_len {n : Int} (h1 : -10000000000000000000 < n) (h2 : n < 10000000000000000000) : (numberBytes n).length ≤ 10 := by
  unfold numberBytes
  refine digs_len 9 _ ?_
  have e : (128 : Nat) ^ (9 + 1) = 1180591620717411303424 := by decide
  rw [e]
  unfold zOf
  split <;> omega
theorem numberBytes_pos (n : Int) : 0 < (numberBytes n).length := by
  unfold numberBytes
  rw [digs]
  split <;> simp
theorem cellBytes_len {c : Cell} (h : c.fit) : (cellBytes c).length ≤ 31 := by
  cases c with
  | non => simp [cellBytes]
  | int i =>
    have h : -1000000000000000000 < i ∧ i < 1000000000000000000 := h
    have := @numberBytes_len i (by omega) (by omega)
    simp [cellBytes]
    omega
  | str l =>
    have h : l.length ≤ 20 ∧ l.all isSign = true := h
    have := @numberBytes_len l.length (by omega) (by omega)
    simp [cellBytes, textBytes]
    omega
theorem cellsBytes_len {cs : List Cell} (h : ∀ c ∈ cs, c.fit) : (cellsBytes cs).length ≤ cs.length * 31 := by
  induction cs with
  | nil => simp [cellsBytes]
  | cons c r ih =>
    have a := cellBytes_len (h c (by simp))
    have b := ih fun d hd => h d (by simp [hd])
    unfold cellsBytes at b ⊢
    simp only [List.map_cons, List.flatten_cons, List.length_append, List.length_cons]
    omega
/-! ### runs -/
theorem pushRun_len (rs : List (Cell × Nat)) (c : Cell) : (pushRun rs c).length ≤ rs.length + 1 := by
  unfold pushRun
  split
  · split <;> simp
  · simp
theorem runs_foldl (cs : List Cell) : ∀ rs, (cs.foldl pushRun rs).length ≤ rs.length + cs.length := by
  induction cs with
  | nil => intro rs; simp
  | cons c r ih =>
    intro rs
    have := ih (pushRun rs c)
    have := pushRun_len rs c
    simp
    omega
theorem pushRun_snoc (rs : List (Cell × Nat)) (d : Cell) (n : Nat) (c : Cell) : pushRun (rs ++ [(d, n)]) c = if d = c then rs ++ [(c, n + 1)] else rs ++ [(d, n)] ++ [(c, 1)] := by
  unfold pushRun
  simp
theorem pushRun_mem {S : List Cell} {k : Nat} {rs : List (Cell × Nat)} {c : Cell} (h : ∀ p ∈ rs, p.1 ∈ S ∧ 1 ≤ p.2 ∧ p.2 ≤ k) (hc : c ∈ S) : ∀ p ∈ pushRun rs c, p.1 ∈ S ∧ 1 ≤ p.2 ∧ p.2 ≤ k + 1 := by
  rcases List.eq_nil_or_concat rs with e | ⟨rs', ⟨d, n⟩, e⟩
  · subst e
    intro p hp
    have hp : p = (c, 1) := by simpa [pushRun] using hp
    subst hp
    exact ⟨hc, by simp, by simp⟩
  · rw [List.concat_eq_append] at e
    subst e
    intro p hp
    rw [pushRun_snoc] at hp
    have hd := h (d, n) (by simp)
    split at hp
    · rcases List.mem_append.mp hp with hp | hp
      · have := h p (by simp [hp])
        exact ⟨this.1, this.2.1, by omega⟩
      · have hp : p = (c, n + 1) := by simpa using hp
        subst hp
        exact ⟨hc, by simp, by have := hd.2.2; simp at this ⊢; omega⟩
    · rcases List.mem_append.mp hp with hp | hp
      · have := h p hp
        exact ⟨this.1, this.2.1, by omega⟩
      · have hp : p = (c, 1) := by simpa using hp
        subst hp
        exact ⟨hc, by simp, by simp⟩
theorem runs_mem {S : List Cell} : ∀ (cs : List Cell) (rs : List (Cell × Nat)) (k : Nat), (∀ p ∈ rs, p.1 ∈ S ∧ 1 ≤ p.2 ∧ p.2 ≤ k) → (∀ c ∈ cs, c ∈ S) → ∀ p ∈ cs.foldl pushRun rs, p.1 ∈ S ∧ 1 ≤ p.2 ∧ p.2 ≤ k + cs.length
  | [], rs, k, h, _ => h
  | c :: r, rs, k, h, hc => by
    have a := pushRun_mem h (hc c (by simp))
    have b := runs_mem r (pushRun rs c) (k + 1) a fun d hd => hc d (by simp [hd])
    intro p hp
    have := b p hp
    exact ⟨this.1, this.2.1, by simp; omega⟩
theorem runsOf_mem (cs : List Cell) : ∀ p ∈ runsOf cs, p.1 ∈ cs ∧ 1 ≤ p.2 ∧ p.2 ≤ cs.length := fun p hp => by
  have := runs_mem (S := cs) cs [] 0 (by simp) (fun _ h => h) p hp
  simpa using this
theorem runsOf_len (cs : List Cell) : (runsOf cs).length ≤ cs.length := by
  have := runs_foldl cs []
  simpa [runsOf] using this
theorem unruns_push (rs : List (Cell × Nat)) (c : Cell) : unruns (pushRun rs c) = unruns rs ++ [c] := by
  rcases List.eq_nil_or_concat rs with e | ⟨rs', ⟨d, n⟩, e⟩
  · subst e
    simp [pushRun, unruns]
  · rw [List.concat_eq_append] at e
    subst e
    rw [pushRun_snoc]
    split
    · rename_i h
      subst h
      simp [unruns, List.replicate_succ']
    · simp [unruns]
theorem unruns_foldl : ∀ (cs : List Cell) (rs : List (Cell × Nat)), unruns (cs.foldl pushRun rs) = unruns rs ++ cs
  | [], rs => by simp
  | c :: r, rs => by
    rw [List.foldl_cons, unruns_foldl r, unruns_push]
    simp
theorem unruns_runsOf (cs : List Cell) : unruns (runsOf cs) = cs := by
  have := unruns_foldl cs []
  simpa [runsOf, unruns] using this
theorem runsBytes_len {rs : List (Cell × Nat)} (h : ∀ p ∈ rs, p.1.fit ∧ p.2 ≤ 1000) : (runsBytes rs).length ≤ rs.length * 41 := by
  induction rs with
  | nil => simp [runsBytes]
  | cons p r ih =>
    have a := cellBytes_len (h p (by simp)).1
    have a2 := (h p (by simp)).2
    have a3 := @numberBytes_len p.2 (by omega) (by omega)
    have b := ih fun d hd => h d (by simp [hd])
    unfold runsBytes at b ⊢
    simp only [List.map_cons, List.flatten_cons, List.length_append, List.length_cons]
    omega
/-! ### least, greatest -/
theorem foldl_min_le : ∀ (r : List Int) (n : Int), r.foldl min n ≤ n ∧ ∀ y ∈ r, r.foldl min n ≤ y
  | [], n => ⟨Int.le_refl _, by simp⟩
  | x :: r, n => by
    have ih := foldl_min_le r (min n x)
    refine ⟨Int.le_trans ih.1 (Int.min_le_left _ _), fun y hy => ?_⟩
    rcases List.mem_cons.mp hy with rfl | hy
    · exact Int.le_trans ih.1 (Int.min_le_right _ _)
    · exact ih.2 y hy
theorem foldl_min_mem : ∀ (r : List Int) (n : Int), r.foldl min n = n ∨ r.foldl min n ∈ r
  | [], n => .inl rfl
  | x :: r, n => by
    rcases foldl_min_mem r (min n x) with h | h
    · rw [List.foldl_cons, h]
      rcases Int.le_total n x with c | c
      · left
        exact Int.min_eq_left c
      · right
        rw [Int.min_eq_right c]
        simp
    · right
      exact List.mem_cons_of_mem _ h
theorem minL_le {ns : List Int} {y : Int} (h : y ∈ ns) : minL ns ≤ y := by
  cases ns with
  | nil => cases h
  | cons n r =>
    rcases List.mem_cons.mp h with rfl | h
    · exact (foldl_min_le r _).1
    · exact (foldl_min_le r n).2 y h
theorem minL_mem {ns : List Int} (h : ns ≠ []) : minL ns ∈ ns := by
  cases ns with
  | nil => exact absurd rfl h
  | cons n r =>
    rcases foldl_min_mem r n with e | e
    · show r.foldl min n ∈ _
      rw [e]
      simp
    · exact List.mem_cons_of_mem _ e
theorem minL_uniq {ns : List Int} {m : Int} (h : m ∈ ns) (hl : ∀ y ∈ ns, m ≤ y) : m = minL ns := by
  have a := minL_le h
  have b := hl _ (minL_mem (List.ne_nil_of_mem h))
  omega
theorem foldl_max_le : ∀ (r : List Int) (n : Int), n ≤ r.foldl max n ∧ ∀ y ∈ r, y ≤ r.foldl max n
  | [], n => ⟨Int.le_refl _, by simp⟩
  | x :: r, n => by
    have ih := foldl_max_le r (max n x)
    refine ⟨Int.le_trans (Int.le_max_left _ _) ih.1, fun y hy => ?_⟩
    rcases List.mem_cons.mp hy with rfl | hy
    · exact Int.le_trans (Int.le_max_right _ _) ih.1
    · exact ih.2 y hy
theorem foldl_max_lt {b : Int} : ∀ (r : List Int) (n : Int), n < b → (∀ y ∈ r, y < b) → r.foldl max n < b
  | [], n, h, _ => h
  | x :: r, n, h, hr => foldl_max_lt r (max n x) (by have := hr x (by simp); omega) fun y hy => hr y (by simp [hy])
theorem maxL_lt {b : Int} {ns : List Int} (h0 : 0 < b) (h : ∀ y ∈ ns, y < b) : maxL ns < b := by
  cases ns with
  | nil => exact h0
  | cons n r => exact foldl_max_lt r n (h n (by simp)) fun y hy => h y (by simp [hy])
theorem maxL_ge {ns : List Int} {y : Int} (h : y ∈ ns) : y ≤ maxL ns := by
  cases ns with
  | nil => cases h
  | cons n r =>
    rcases List.mem_cons.mp h with rfl | h
    · exact (foldl_max_le r _).1
    · exact (foldl_max_le r n).2 y h
theorem bits_of_lt {ns : List Int} (h : ∀ y ∈ ns, y < 4611686018427387904) : bitsFor (maxL ns).toNat ≤ 62 := by
  have := maxL_lt (by decide) h
  refine bitsFor_le 62 _ ?_
  have e : (2 : Nat) ^ 62 = 4611686018427387904 := by decide
  rw [e]
  omega
theorem stepsOf_mem {ns : List Int} {B : Int} (h : ∀ y ∈ ns, -B < y ∧ y < B) : ∀ s ∈ stepsOf ns, -2 * B < s ∧ s < 2 * B := fun s hs => by
  unfold stepsOf at hs
  obtain ⟨i, hi, e⟩ := List.getElem_of_mem hs
  rw [List.getElem_zipWith] at e
  have a := h _ (List.getElem_mem (l := ns) (by simp at hi; omega : i < ns.length))
  have b := h (ns.tail[i]'(by simp at hi ⊢; omega)) (List.mem_of_mem_tail (List.getElem_mem _))
  omega
theorem stepsOf_len (ns : List Int) : (stepsOf ns).length = ns.length - 1 := by
  unfold stepsOf
  simp
end K90
/-! Round trips: what is written is read back. -/
namespace K90
theorem digs_ne (z : Nat) : digs z ≠ [] := by
  rw [digs]
  split <;> simp
theorem tn_digs : ∀ (f t : Nat) (rest wt : Int) (z : Nat) (r : List Int), z < 128 ^ (f + 1) → (0 < z ∨ t = 0) → tn (f + 1) t rest wt (digs z ++ r) = some (rest + (z : Int) * wt, t + (digs z).length) := by
  intro f
  induction f with
  | zero =>
    intro t rest wt z r hz h0
    have hz : z < 128 := by simpa using hz
    rw [digs, if_pos hz]
    show (if (z : Int) < 128 then (if (z : Int) = 0 ∧ 0 < t then none else some (rest + (z : Int) % 128 * wt, t + 1)) else _) = _
    rw [if_pos (by omega), if_neg (by omega), Int.emod_eq_of_lt (by omega) (by omega)]
    rfl
  | succ f ih =>
    intro t rest wt z r hz h0
    rw [digs]
    split
    · rename_i hz2
      show (if (z : Int) < 128 then (if (z : Int) = 0 ∧ 0 < t then none else some (rest + (z : Int) % 128 * wt, t + 1)) else _) = _
      rw [if_pos (by omega), if_neg (by omega), Int.emod_eq_of_lt (by omega) (by omega)]
      rfl
    · rename_i hz2
      show (if (((z % 128 + 128 : Nat)) : Int) < 128 then _ else tn (f + 1) (t + 1) (rest + ((z % 128 + 128 : Nat) : Int) % 128 * wt) (wt * 128) (digs (z / 128) ++ r)) = _
      rw [if_neg (by omega), ih _ _ _ _ _ (by
        rw [Nat.pow_succ] at hz
        exact Nat.div_lt_of_lt_mul (by rw [Nat.mul_comm]; exact hz)) (.inl (by omega))]
      have e : (((z % 128 + 128 : Nat)) : Int) % 128 = ((z % 128 : Nat) : Int) := by omega
      have e2 : (z : Int) = ((z % 128 : Nat) : Int) + 128 * ((z / 128 : Nat) : Int) := by omega
      rw [e]
      congr 1
      congr 1
      · conv => rhs; rw [e2]
        rw [Int.add_mul, ← Int.add_assoc, Int.mul_comm wt 128, ← Int.mul_assoc, Int.mul_comm _ 128]
      · simp only [List.length_cons]
        omega
theorem numberOf_zOf (n : Int) : numberOf ((zOf n : Nat) : Int) = n := by
  unfold numberOf zOf
  split <;> split <;> omega
theorem take_number {n : Int} (h1 : -4611686018427387904 < n) (h2 : n < 4611686018427387904) (r : List Int) : takeNumber (numberBytes n ++ r) = some (n, (numberBytes n).length) := by
  unfold takeNumber numberBytes
  rw [tn_digs 8 0 0 1 _ _ (by
    have e : (128 : Nat) ^ (8 + 1) = 9223372036854775808 := by decide
    rw [e]
    unfold zOf
    split <;> omega) (.inr rfl)]
  simp [numberOf_zOf]
theorem take_count {m n : Nat} (h1 : 1 ≤ n) (h2 : n ≤ m) (h3 : n < 4611686018427387904) (r : List Int) : takeCount m (numberBytes n ++ r) = some (n, (numberBytes n).length) := by
  unfold takeCount
  rw [take_number (by omega) (by omega)]
  dsimp only
  rw [if_pos (by omega)]
  simp
theorem sign_round : ∀ c, c < 127 → isSign c = true → signAt (placeOf c) = c ∧ placeOf c < 94 := by decide +kernel
theorem tsigns_round : ∀ (l : List Nat) (r : List Int), l.all isSign = true → tsigns l.length ((l.map fun c => ((placeOf c : Nat) : Int)) ++ r) = some l
  | [], r, _ => rfl
  | c :: l, r, h => by
    rw [List.all_cons, Bool.and_eq_true] at h
    have hc : c < 127 := by
      have := h.1
      unfold isSign at this
      simp at this
      omega
    have s := sign_round c hc h.1
    show (if 0 ≤ ((placeOf c : Nat) : Int) ∧ ((placeOf c : Nat) : Int) < 94 then (tsigns l.length ((l.map fun c => ((placeOf c : Nat) : Int)) ++ r)).map (signAt ((placeOf c : Nat) : Int).toNat :: ·) else none) = _
    rw [if_pos (by omega), tsigns_round l r h.2]
    simp [s.1]
theorem take_text {l : List Nat} (h1 : l.length ≤ 20) (h2 : l.all isSign = true) (r : List Int) : takeText (textBytes l ++ r) = some (l, (textBytes l).length) := by
  unfold takeText textBytes
  rw [List.append_assoc, take_number (by omega) (by omega)]
  dsimp only
  rw [if_pos (by omega), List.drop_left, show ((l.length : Int)).toNat = l.length from Int.toNat_natCast _, tsigns_round l r h2]
  simp
theorem take_cell {c : Cell} (h : c.fit) (r : List Int) : takeCell (cellBytes c ++ r) = some (c, (cellBytes c).length) := by
  cases c with
  | non => rfl
  | int i =>
    have h : -1000000000000000000 < i ∧ i < 1000000000000000000 := h
    show (takeNumber (numberBytes i ++ r)).map (fun p => (Cell.int p.1, p.2 + 1)) = _
    rw [take_number (by omega) (by omega)]
    simp [cellBytes]
  | str l =>
    have h : l.length ≤ 20 ∧ l.all isSign = true := h
    show (takeText (textBytes l ++ r)).map (fun p => (Cell.str p.1, p.2 + 1)) = _
    rw [take_text h.1 h.2]
    simp [cellBytes]
theorem cellsBytes_cons (c : Cell) (cs : List Cell) : cellsBytes (c :: cs) = cellBytes c ++ cellsBytes cs := rfl
theorem take_cells : ∀ (cs : List Cell) (r : List Int), (∀ c ∈ cs, c.fit) → takeCells cs.length (cellsBytes cs ++ r) = some (cs, (cellsBytes cs).length)
  | [], r, _ => rfl
  | c :: cs, r, h => by
    rw [cellsBytes_cons, List.append_assoc]
    show ((takeCell (cellBytes c ++ (cellsBytes cs ++ r))).bind fun x => (takeCells cs.length ((cellBytes c ++ (cellsBytes cs ++ r)).drop x.2)).map fun y => (x.1 :: y.1, x.2 + y.2)) = _
    rw [take_cell (h c (by simp)), Option.bind_some]
    dsimp only
    rw [List.drop_left, take_cells cs r fun d hd => h d (by simp [hd])]
    simp
theorem runsBytes_cons (p : Cell × Nat) (rs : List (Cell × Nat)) : runsBytes (p :: rs) = (cellBytes p.1 ++ numberBytes p.2) ++ runsBytes rs := rfl
theorem take_runsN {most : Nat} (hm : most < 4611686018427387904) : ∀ (rs : List (Cell × Nat)) (r : List Int), (∀ p ∈ rs, p.1.fit ∧ 1 ≤ p.2 ∧ p.2 ≤ most) → takeRunsN most rs.length (runsBytes rs ++ r) = some (rs, (runsBytes rs).length)
  | [], r, _ => rfl
  | (c, n) :: rs, r, h => by
    have hp := h (c, n) (by simp)
    dsimp only at hp
    have e : runsBytes ((c, n) :: rs) ++ r = cellBytes c ++ (numberBytes n ++ (runsBytes rs ++ r)) := by rw [runsBytes_cons]; simp
    rw [e]
    show ((takeCell (cellBytes c ++ (numberBytes n ++ (runsBytes rs ++ r)))).bind fun x => (takeCount most ((cellBytes c ++ (numberBytes n ++ (runsBytes rs ++ r))).drop x.2)).bind fun z => (takeRunsN most rs.length ((cellBytes c ++ (numberBytes n ++ (runsBytes rs ++ r))).drop (x.2 + z.2))).map fun y => ((x.1, z.1) :: y.1, x.2 + z.2 + y.2)) = _
    rw [take_cell hp.1, Option.bind_some]
    dsimp only
    rw [List.drop_left, take_count hp.2.1 hp.2.2 (by omega), Option.bind_some]
    dsimp only
    have e2 : (cellBytes c ++ (numberBytes n ++ (runsBytes rs ++ r))).drop ((cellBytes c).length + (numberBytes n).length) = runsBytes rs ++ r := by
      rw [← List.append_assoc]
      exact List.drop_left' (by simp)
    rw [e2, take_runsN hm rs r fun d hd => h d (by simp [hd])]
    simp [runsBytes_cons, Nat.add_assoc]
theorem runsOf_pos {cs : List Cell} (h : cs ≠ []) : 1 ≤ (runsOf cs).length := by
  rcases e : runsOf cs with _ | ⟨p, r⟩
  · have := unruns_runsOf cs
    rw [e] at this
    exact absurd this.symm h
  · simp
theorem take_runs {cs : List Cell} (h0 : cs ≠ []) (hl : cs.length ≤ 1000) (h : ∀ c ∈ cs, c.fit) (r : List Int) : takeRuns cs.length (runBytes cs ++ r) = some (runsOf cs, (runBytes cs).length) := by
  unfold takeRuns runBytes
  have hr := runsOf_len cs
  rw [List.append_assoc, take_count (runsOf_pos h0) hr (by omega), Option.bind_some]
  dsimp only
  rw [List.drop_left, take_runsN (by omega) _ _ fun p hp => ⟨h _ (runsOf_mem cs p hp).1, (runsOf_mem cs p hp).2⟩]
  simp
/-! ### packed -/
theorem numsOf_pack {w : Nat} : ∀ (ns : List Int), (∀ x ∈ ns, 0 ≤ x ∧ x < 2 ^ w) → numsOf ns.length (2 ^ w) (packRest w ns) = (ns, 0)
  | [], _ => rfl
  | x :: r, h => by
    have hx := h x (by simp)
    have hp := two_pow_pos w
    show ((packRest w r * 2 ^ w + x) % 2 ^ w :: (numsOf r.length (2 ^ w) ((packRest w r * 2 ^ w + x) / 2 ^ w)).1, (numsOf r.length (2 ^ w) ((packRest w r * 2 ^ w + x) / 2 ^ w)).2) = _
    have e1 : (packRest w r * 2 ^ w + x) % 2 ^ w = x := by
      rw [Int.add_comm, Int.add_mul_emod_self_right, Int.emod_eq_of_lt hx.1 hx.2]
    have e2 : (packRest w r * 2 ^ w + x) / 2 ^ w = packRest w r := by
      rw [Int.add_comm, Int.add_mul_ediv_right _ _ (by omega), Int.ediv_eq_zero_of_lt hx.1 hx.2]
      omega
    rw [e1, e2, numsOf_pack r fun y hy => h y (by simp [hy])]
theorem packRest_lt {w : Nat} : ∀ (ns : List Int), (∀ x ∈ ns, 0 ≤ x ∧ x < 2 ^ w) → 0 ≤ packRest w ns ∧ packRest w ns < 2 ^ (ns.length * w)
  | [], _ => by simp [packRest]
  | x :: r, h => by
    have hx := h x (by simp)
    have ih := packRest_lt r fun y hy => h y (by simp [hy])
    have hp := two_pow_pos w
    show 0 ≤ packRest w r * 2 ^ w + x ∧ packRest w r * 2 ^ w + x < 2 ^ ((r.length + 1) * w)
    rw [Nat.succ_mul, Int.pow_add]
    refine ⟨?_, ?_⟩
    · have := Int.mul_nonneg ih.1 (Int.le_of_lt hp)
      omega
    · have h2 : packRest w r + 1 ≤ 2 ^ (r.length * w) := ih.2
      have h3 := Int.mul_le_mul_of_nonneg_right h2 (Int.le_of_lt hp)
      rw [Int.add_mul, Int.one_mul] at h3
      omega
theorem bytesOf_length : ∀ (n : Nat) (r : Int), (bytesOf n r).length = n
  | 0, _ => rfl
  | n + 1, r => by
    show ((r % 256) :: bytesOf n (r / 256)).length = _
    simp [bytesOf_length n]
theorem byteRest_bytesOf : ∀ (n : Nat) (r : Int), 0 ≤ r → r < 256 ^ n → byteRest (bytesOf n r) = r
  | 0, r, h0, h => by
    have h : r < 1 := by simpa using h
    show (0 : Int) = r
    omega
  | n + 1, r, h0, h => by
    show byteRest (bytesOf n (r / 256)) * 256 + r % 256 = r
    rw [byteRest_bytesOf n (r / 256) (by omega) (by
      rw [Int.pow_succ] at h
      omega)]
    omega
theorem take_packed {ns : List Int} {w : Nat} (h : ∀ x ∈ ns, 0 ≤ x ∧ x < 2 ^ w) (r : List Int) : takePacked ns.length w (packed ns w ++ r) = some (ns, (packed ns w).length) := by
  have hl : (packed ns w).length = byteCount ns.length w := bytesOf_length _ _
  have hp := packRest_lt ns h
  have hb : byteRest (packed ns w) = packRest w ns := by
    refine byteRest_bytesOf _ _ hp.1 (Int.lt_of_lt_of_le hp.2 ?_)
    have e : (256 : Int) = 2 ^ 8 := by decide
    rw [e, ← Int.pow_mul]
    have : ns.length * w ≤ 8 * byteCount ns.length w := by unfold byteCount; omega
    obtain ⟨k, hk⟩ := Nat.le.dest this
    rw [← hk, Int.pow_add]
    have h1 := two_pow_pos (ns.length * w)
    have h2 : (1 : Int) ≤ 2 ^ k := two_pow_pos k
    have := Int.mul_le_mul_of_nonneg_left h2 (Int.le_of_lt h1)
    omega
  unfold takePacked
  rw [← hl, List.take_left, hb, numsOf_pack ns h, if_neg (by simp), if_neg (by simp)]
theorem bitsFor_spec : ∀ (z : Nat), z < 2 ^ bitsFor z := by
  intro z
  induction z using Nat.strongRecOn with
  | _ z ih =>
    rw [bitsFor]
    split
    · rename_i h
      simp [h]
    · have := ih (z / 2) (by omega)
      rw [Nat.pow_succ]
      omega
theorem bits_cover {ns : List Int} (h : ∀ x ∈ ns, 0 ≤ x) : ∀ x ∈ ns, 0 ≤ x ∧ x < 2 ^ bitsFor (maxL ns).toNat := fun x hx => by
  refine ⟨h x hx, ?_⟩
  have a := maxL_ge hx
  have b := bitsFor_spec (maxL ns).toNat
  have c : ((maxL ns).toNat : Int) < ((2 ^ bitsFor (maxL ns).toNat : Nat) : Int) := Int.ofNat_lt.mpr b
  rw [Int.natCast_pow] at c
  have e : (((2 : Nat) : Int)) = 2 := rfl
  rw [e] at c
  have := h x hx
  omega
theorem take_small {ns : List Int} (h : ∀ x ∈ ns, 0 ≤ x ∧ x < 4611686018427387904) (r : List Int) : takeSmall ns.length (smallBytes ns ++ r) = some (ns, (smallBytes ns).length) := by
  have hb := bits_of_lt fun x hx => (h x hx).2
  show (if (62 : Int) < ((bitsFor (maxL ns).toNat : Nat) : Int) then none else (takePacked ns.length ((bitsFor (maxL ns).toNat : Nat) : Int).toNat (packed ns (bitsFor (maxL ns).toNat) ++ r)).map fun x => (x.1, 1 + x.2)) = _
  rw [if_neg (by omega), Int.toNat_natCast, take_packed (bits_cover fun x hx => (h x hx).1)]
  simp [smallBytes, Nat.add_comm]
theorem small_base {ns : List Int} (h : ∀ x ∈ ns, -1000000000000000000 < x ∧ x < 1000000000000000000) : ∀ y ∈ ns.map (fun n => n - minL ns), 0 ≤ y ∧ y < 4611686018427387904 := fun y hy => by
  obtain ⟨n, hn, rfl⟩ := List.mem_map.mp hy
  have a := minL_le hn
  have b := h n hn
  have c := h _ (minL_mem (List.ne_nil_of_mem hn))
  omega
theorem take_base {ns : List Int} (h0 : ns ≠ []) (h : ∀ x ∈ ns, -1000000000000000000 < x ∧ x < 1000000000000000000) (r : List Int) : baseCells ns.length (baseBytes ns ++ r) = some (ns.map Cell.int, (baseBytes ns).length) := by
  unfold baseCells baseBytes
  have hm := h _ (minL_mem h0)
  rw [List.append_assoc, take_number (by omega) (by omega), Option.bind_some]
  dsimp only
  have hs := take_small (small_base h) r
  rw [List.length_map] at hs
  rw [List.drop_left, hs]
  simp
  intro a _
  congr 1
  omega
theorem stepsOf_cons (a b : Int) (r : List Int) : stepsOf (a :: b :: r) = (b - a) :: stepsOf (b :: r) := rfl
theorem steps_round (m : Int) : ∀ (a : Int) (r : List Int), steps m a ((stepsOf (a :: r)).map fun n => n - m) = r.map Cell.int
  | a, [] => rfl
  | a, b :: r => by
    have ih := steps_round m b r
    rw [stepsOf_cons, List.map_cons, List.map_cons]
    show Cell.int (a + m + (b - a - m)) :: steps m (a + m + (b - a - m)) _ = _
    have e : a + m + (b - a - m) = b := by omega
    rw [e, ih]
theorem small_step {ns : List Int} (h : ∀ x ∈ ns, -1000000000000000000 < x ∧ x < 1000000000000000000) : ∀ y ∈ (stepsOf ns).map (fun n => n - minL (stepsOf ns)), 0 ≤ y ∧ y < 4611686018427387904 := fun y hy => by
  obtain ⟨n, hn, rfl⟩ := List.mem_map.mp hy
  have a := minL_le hn
  have b := stepsOf_mem h n hn
  have c := stepsOf_mem h _ (minL_mem (List.ne_nil_of_mem hn))
  omega
theorem take_step {ns : List Int} (h0 : ns ≠ []) (h : ∀ x ∈ ns, -1000000000000000000 < x ∧ x < 1000000000000000000) (r : List Int) : stepCells ns.length (stepBytes ns ++ r) = some (ns.map Cell.int, (stepBytes ns).length) := by
  cases ns with
  | nil => exact absurd rfl h0
  | cons a q =>
    unfold stepCells stepBytes
    have ha := h a (by simp)
    have hm : -2 * 1000000000000000000 ≤ minL (stepsOf (a :: q)) ∧ minL (stepsOf (a :: q)) ≤ 2 * 1000000000000000000 := by
      by_cases e : stepsOf (a :: q) = []
      · rw [e]
        decide
      · have := stepsOf_mem h _ (minL_mem e)
        omega
    rw [List.append_assoc, List.append_assoc]
    show ((takeNumber (numberBytes a ++ _)).bind _) = _
    rw [take_number (by omega) (by omega), Option.bind_some]
    dsimp only
    rw [show (List.headD (a :: q) 0) = a from rfl, List.drop_left, take_number (by omega) (by omega), Option.bind_some]
    dsimp only
    have hs := take_small (small_step h) r
    rw [List.length_map, stepsOf_len] at hs
    have e2 : (numberBytes a ++ (numberBytes (minL (stepsOf (a :: q))) ++ (smallBytes ((stepsOf (a :: q)).map fun n => n - minL (stepsOf (a :: q))) ++ r))).drop ((numberBytes a).length + (numberBytes (minL (stepsOf (a :: q)))).length) = smallBytes ((stepsOf (a :: q)).map fun n => n - minL (stepsOf (a :: q))) ++ r := by
      rw [← List.append_assoc]
      exact List.drop_left' (by simp)
    rw [e2, hs, Option.map_some]
    dsimp only
    rw [steps_round]
    simp [Nat.add_assoc]
/-! ### the book -/
theorem pick_idx {book : List Cell} {c : Cell} (h : c ∈ book) : pick book ((book.idxOf c : Nat) : Int) = c := by
  unfold pick
  rw [Int.toNat_natCast, List.getElem?_eq_getElem (List.idxOf_lt_length_of_mem h), List.getElem_idxOf]
  rfl
theorem take_book {cs book : List Cell} (h1 : 1 ≤ book.length) (h2 : book.length ≤ cs.length) (hl : cs.length ≤ 1000) (hf : ∀ c ∈ book, c.fit) (hm : ∀ c ∈ cs, c ∈ book) (r : List Int) :
    takeBook cs.length (numberBytes book.length ++ cellsBytes book ++ packed (cs.map fun c => ((book.idxOf c : Nat) : Int)) (bitsFor (book.length - 1)) ++ r) = some (book, cs.map (fun c => ((book.idxOf c : Nat) : Int)), (numberBytes book.length ++ cellsBytes book ++ packed (cs.map fun c => ((book.idxOf c : Nat) : Int)) (bitsFor (book.length - 1))).length) := by
  have hp : ∀ x ∈ cs.map (fun c => ((book.idxOf c : Nat) : Int)), 0 ≤ x ∧ x < 2 ^ bitsFor (book.length - 1) := fun x hx => by
    obtain ⟨c, hc, rfl⟩ := List.mem_map.mp hx
    have a := List.idxOf_lt_length_of_mem (hm c hc)
    have b := bitsFor_spec (book.length - 1)
    refine ⟨by omega, ?_⟩
    have c2 : ((book.idxOf c : Nat) : Int) < ((2 ^ bitsFor (book.length - 1) : Nat) : Int) := Int.ofNat_lt.mpr (by omega)
    rw [Int.natCast_pow] at c2
    exact c2
  unfold takeBook
  simp only [List.append_assoc]
  rw [take_count h1 h2 (by omega), Option.bind_some]
  dsimp only
  rw [List.drop_left, take_cells book _ hf, Option.bind_some]
  dsimp only
  have hs := take_packed hp r
  rw [List.length_map] at hs
  have e2 : (numberBytes book.length ++ (cellsBytes book ++ (packed (cs.map fun c => ((book.idxOf c : Nat) : Int)) (bitsFor (book.length - 1)) ++ r))).drop ((numberBytes book.length).length + (cellsBytes book).length) = packed (cs.map fun c => ((book.idxOf c : Nat) : Int)) (bitsFor (book.length - 1)) ++ r := by
    rw [← List.append_assoc]
    exact List.drop_left' (by simp)
  rw [e2, hs, Option.map_some]
  simp [Nat.add_assoc]
theorem book_cells {cs book : List Cell} (h1 : 1 ≤ book.length) (h2 : book.length ≤ cs.length) (hl : cs.length ≤ 1000) (hf : ∀ c ∈ book, c.fit) (hm : ∀ c ∈ cs, c ∈ book) (r : List Int) :
    bookCells cs.length (numberBytes book.length ++ cellsBytes book ++ packed (cs.map fun c => ((book.idxOf c : Nat) : Int)) (bitsFor (book.length - 1)) ++ r) = some (cs, (numberBytes book.length ++ cellsBytes book ++ packed (cs.map fun c => ((book.idxOf c : Nat) : Int)) (bitsFor (book.length - 1))).length) := by
  unfold bookCells
  rw [take_book h1 h2 hl hf hm r, Option.map_some]
  dsimp only
  rw [if_pos, List.map_map]
  · congr 2
    conv => rhs; rw [← List.map_id cs]
    exact List.map_congr_left fun c hc => pick_idx (hm c hc)
  · rw [List.all_map, List.all_eq_true]
    intro c hc
    have := List.idxOf_lt_length_of_mem (hm c hc)
    simpa using this
end K90
/-! Readings that compute: where the slots are written out and the values are in sight, each step's reading comes out by itself; what is left to be shown are the steps' own conditions. -/
namespace K90
open PySem PySem.Spec PyProof.Rows L2
theorem PE.cast {X : Cx} {e : Expr} {t t' : TE} (h : PE X e t) (q : ∀ σ H Q, t' σ H Q → t σ H Q) : PE X e t' := ⟨fun pins s σ H Q I w => h.run pins s σ H Q I (q σ H Q w)⟩
theorem PS.cast {X : Cx} {e : Stmt} {t t' : TS} (h : PS X e t) (q : ∀ D σ H, t' D σ H → t D σ H) : PS X e t' := ⟨fun pins s σ H D I w => h.run pins s σ H D I (q D σ H w)⟩
/-! ### names -/
/-- the i-th slot's value -/
def slot : L2.St → Nat → Option V
  | [], _ => none
  | v :: _, 0 => v
  | _ :: r, n + 1 => slot r n
theorem slot_get : ∀ {σ : L2.St} {i : Nat} {v : V}, slot σ i = some v → σ[i]? = some (some v)
  | [], _, _, h => nomatch h
  | a :: _, 0, v, h => by
    have e : a = some v := h
    simp [e]
  | _ :: r, i + 1, v, h => by
    have ih := slot_get (σ := r) (i := i) (v := v) h
    simpa using ih
def uV (i : Nat) : TE := fun σ H Q => match slot σ i with
  | some v => Q v H
  | none => False
theorem uv {X : Cx} (i : Nat) {x : Str} {pos : Pos} (hN : X.N[i]? = some x := by rfl) (hv : Vis X.env.scope x := by first | exact Or.inl rfl | exact Or.inr (Or.inl rfl) | exact Or.inr (Or.inr rfl)) (hd : (x == ("__debug__" : Str)) = false := by decide)
    (hcd : (x == ("__classdict__" : Str)) = false := by decide) : PE X (.Name x pos) (uV i) := PE.cast (pe_var (i := i) hN hv hd hcd) fun σ H Q h => by
  unfold uV at h
  cases e : slot σ i with
  | none =>
    rw [e] at h
    exact h.elim
  | some v =>
    rw [e] at h
    exact ⟨v, slot_get e, h⟩
/-- a module's constant int -/
theorem u_int {X : Cx} {x : Str} {i : Int} {pos : Pos} (hm : ∃ t, X.mg x = some (.int i t)) (hg : Gl X x := by rfl) (hd : (x == ("__debug__" : Str)) = false := by decide) : PE X (.Name x pos) (tC (.int i)) := by
  obtain ⟨t, e⟩ := hm
  exact pe_glob hg e (Exists.intro t rfl) hd
theorem u_str {X : Cx} {x : Str} {z : Str} {pos : Pos} (hm : ∃ t, X.mg x = some (.str z t)) (hg : Gl X x := by rfl) (hd : (x == ("__debug__" : Str)) = false := by decide) : PE X (.Name x pos) (tC (.str z)) := by
  obtain ⟨t, e⟩ := hm
  exact pe_glob hg e (Exists.intro t rfl) hd
theorem u_ref {X : Cx} {x : Str} {a : Addr} {pos : Pos} (hm : X.mg x = some (.ref a)) (hg : Gl X x := by rfl) (hd : (x == ("__debug__" : Str)) = false := by decide) : PE X (.Name x pos) (tC (.ref a)) := pe_glob hg hm rfl hd
/-! ### operators -/
theorem opc {X : Cx} {f : Value → Value → Sem Value} {r r' : R2} (h : OpR X f r) (q : ∀ x y H Q, r' x y H Q → r x y H Q) : OpR X f r' := fun pins s σ H x y v u Q I rx ry w => h pins s σ H x y v u Q I rx ry (q x y H Q w)
/-- two ints: a condition, then the outcome -/
def u2 (C : Int → Int → Prop) (g : Int → Int → V) : R2 := fun x y H Q => match x, y with
  | .int i, .int j => C i j ∧ Q (g i j) H
  | _, _ => False
/-- two ints, no condition -/
def u20 (g : Int → Int → V) : R2 := fun x y H Q => match x, y with
  | .int i, .int j => Q (g i j) H
  | _, _ => False
theorem u2_of {C : Int → Int → Prop} {g : Int → Int → V} (x y : V) (H : Hp) (Q : VK) (h : u2 C g x y H Q) : rI C g x y H Q := by
  unfold u2 at h
  split at h
  · exact ⟨_, _, rfl, rfl, h⟩
  · exact h.elim
theorem u20_of {g : Int → Int → V} (x y : V) (H : Hp) (Q : VK) (h : u20 g x y H Q) : rI0 g x y H Q := by
  unfold u20 at h
  split at h
  · exact ⟨_, _, rfl, rfl, h⟩
  · exact h.elim
/-- x + y: ints, texts, lists -/
def uAdd : R2 := fun x y H Q => match x, y with
  | .int i, .int j => Q (.int (i + j)) H
  | .str i, .str j => i.length + j.length ≤ sizeLine ∧ Q (.str (i ++ j)) H
  | .ref l, .ref b => ∃ xs zs, H l = some (.lst xs) ∧ H b = some (.lst zs) ∧ xs.length + zs.length ≤ sizeLine ∧ ∀ p, H p = none → Q (.ref p) (upd H p (.lst (xs ++ zs)))
  | _, _ => False
section
variable {X : Cx}
theorem o_add : OpR X (binaryOp .Add) uAdd := opc (OpR.or op_add (OpR.or op_add_str op_cat)) fun x y H Q h => by
  unfold uAdd at h
  split at h
  · exact .inl ⟨_, _, rfl, rfl, h⟩
  · exact .inr (.inl ⟨_, _, rfl, rfl, h⟩)
  · obtain ⟨xs, zs, h1, h2, h3, h4⟩ := h
    exact .inr (.inr ⟨_, _, xs, zs, rfl, rfl, h1, h2, h3, h4⟩)
  · exact h.elim
theorem o_sub : OpR X (binaryOp .Sub) (u20 fun i j => .int (i - j)) := opc op_sub u20_of
/-- i * j: one of the two within 64 bits; a list (a text) so many times -/
def uMul : R2 := fun x y H Q => match x, y with
  | .int i, .int j => CMul i j ∧ Q (.int (i * j)) H
  | .ref l, .int k => ∃ xs, H l = some (.lst xs) ∧ -(2 ^ 63) ≤ k ∧ k < 2 ^ 63 ∧ xs.length * k.toNat ≤ sizeLine ∧ ∀ p, H p = none → Q (.ref p) (upd H p (.lst (List.replicate k.toNat xs).flatten))
  | _, _ => False
theorem o_mul : OpR X (binaryOp .Mult) uMul := opc (OpR.or op_mul op_rep) fun x y H Q h => by
  unfold uMul at h
  split at h
  · exact .inl ⟨_, _, rfl, rfl, h⟩
  · obtain ⟨xs, h1, h2, h3, h4, h5⟩ := h
    exact .inr ⟨_, _, xs, rfl, rfl, h1, h2, h3, h4, h5⟩
  · exact h.elim
theorem o_div : OpR X (binaryOp .FloorDiv) (u2 CDivW fun i j => .int (i / j)) := opc op_fdivW u2_of
theorem o_mod : OpR X (binaryOp .Mod) (u2 (fun _ j => 0 < j) fun i j => .int (i % j)) := opc op_mod u2_of
theorem o_pow : OpR X (binaryOp .Pow) (u2 CPow fun i j => .int (i ^ j.toNat)) := opc op_pow u2_of
theorem o_shl : OpR X (binaryOp .LShift) (u2 CPow fun i j => .int (i * 2 ^ j.toNat)) := opc op_shl u2_of
theorem o_xor : OpR X (binaryOp .BitXor) (u20 fun i j => .int (Builtin.bitXor i j)) := opc op_xor u20_of
theorem o_iadd : OpR X (inplaceOp .Add) (u20 fun i j => .int (i + j)) := opc iop_add u20_of
theorem o_imul : OpR X (inplaceOp .Mult) (u2 CMul fun i j => .int (i * j)) := opc iop_mul u2_of
/-- -x -/
def uNeg : V → Hp → VK → Prop := fun x H Q => match x with
  | .int i => Q (.int (-i)) H
  | _ => False
theorem o_neg : UnR X (unaryOp .USub) uNeg := fun pins s σ H x v Q I rx h => by
  unfold uNeg at h
  split at h
  · exact un_neg pins s σ H _ v Q I rx ⟨_, rfl, h⟩
  · exact h.elim
/-! ### comparisons -/
/-- of two ints, of two texts -/
def uCmp (g : Int → Int → Bool) (f : List Nat → List Nat → Bool) : R2 := fun x y H Q => match x, y with
  | .int i, .int j => Q (.bl (g i j)) H
  | .str i, .str j => Q (.bl (f i.cps.toList j.cps.toList)) H
  | _, _ => False
theorem uCmp_of {g : Int → Int → Bool} {f : List Nat → List Nat → Bool} (x y : V) (H : Hp) (Q : VK) (h : uCmp g f x y H Q) : (∃ i j, x = .int i ∧ y = .int j ∧ Q (.bl (g i j)) H) ∨ ∃ i j, x = .str i ∧ y = .str j ∧ Q (.bl (f i.cps.toList j.cps.toList)) H := by
  unfold uCmp at h
  split at h
  · exact .inl ⟨_, _, rfl, rfl, h⟩
  · exact .inr ⟨_, _, rfl, rfl, h⟩
  · exact h.elim
theorem o_lt : OpR X (compareOp .Lt) (uCmp (fun i j => decide (i < j)) fun a b => decide (a < b)) := opc (OpR.or op_lt op_lt_str) fun x y H Q h => uCmp_of x y H Q h
theorem o_le : OpR X (compareOp .LtE) (uCmp (fun i j => decide (i ≤ j)) fun a b => !decide (b < a)) := opc (OpR.or op_le op_le_str) fun x y H Q h => uCmp_of x y H Q h
theorem o_gt : OpR X (compareOp .Gt) (uCmp (fun i j => decide (j < i)) fun a b => decide (b < a)) := opc (OpR.or op_gt op_gt_str) fun x y H Q h => uCmp_of x y H Q h
theorem o_ge : OpR X (compareOp .GtE) (uCmp (fun i j => decide (j ≤ i)) fun a b => !decide (a < b)) := opc (OpR.or op_ge op_ge_str) fun x y H Q h => uCmp_of x y H Q h
end
/-- x == y: of two lists of ints; else of two things that are told apart as data -/
def uEq (neg : Bool) : R2 := fun x y H Q => match x, y with
  | .ref a, .ref b => ∃ xs ys : List Int, H a = some (.lst (xs.map V.int)) ∧ H b = some (.lst (ys.map V.int)) ∧ Q (.bl (neg != decide (xs = ys))) H
  | x, y => scal x y = true ∧ Q (.bl (neg != decide (x = y))) H
theorem dp_ints {K : PySem.W.Frag} {H : Hp} : ∀ xs : List Int, DpAll K H (xs.map V.int) (xs.map PyData.int)
  | [] => .nil
  | x :: r => .cons (.int x) (dp_ints r)
theorem lay_ints : ∀ xs : List Int, PyData.canLayAll0 (xs.map PyData.int) = true
  | [] => rfl
  | x :: r => by
    have ih := lay_ints r
    simp only [List.map_cons, PyData.canLayAll0, PyData.canLay0, ih, Bool.and_self]
theorem dep_ints : ∀ xs : List Int, PyData.depthAll (xs.map PyData.int) = 0
  | [] => rfl
  | x :: r => by
    have ih := dep_ints r
    simp only [List.map_cons, PyData.depthAll, PyData.depth, ih, Nat.max_self]
theorem sh_ints (xs : List Int) : SeqAt.shaped (.list (xs.map PyData.int)) = true := by
  unfold SeqAt.shaped
  rw [Bool.and_eq_true]
  refine ⟨?_, decide_eq_true ?_⟩
  · show PyData.canLayAll0 _ = true
    exact lay_ints xs
  · show PyData.depth (.list (xs.map PyData.int)) ≤ 64
    simp only [PyData.depth, dep_ints]
    decide
theorem eqvs_ints : ∀ xs ys : List Int, PyData.eqvAll (xs.map PyData.int) (ys.map PyData.int) = decide (xs = ys)
  | [], [] => by rw [List.map_nil, PyData.eqvAll]; rfl
  | [], y :: q => by simp [PyData.eqvAll]
  | x :: r, [] => by simp [PyData.eqvAll]
  | x :: r, y :: q => by
    have e : PyData.eqv (PyData.int x) (PyData.int y) = decide (x = y) := by
      simp only [PyData.eqv]
      exact Bool.beq_eq_decide_eq x y
    simp only [List.map_cons, PyData.eqvAll, eqvs_ints r q, e]
    by_cases h1 : x = y <;> by_cases h2 : r = q <;> simp [h1, h2]
theorem eqv_ints (xs ys : List Int) : PyData.eqv (.list (xs.map PyData.int)) (.list (ys.map PyData.int)) = decide (xs = ys) := by
  simp only [PyData.eqv]
  exact eqvs_ints xs ys
theorem uEq_of {K : PySem.W.Frag} (x y : V) (H : Hp) (Q : VK) (neg : Bool) (h : uEq neg x y H Q) : (scal x y = true ∧ Q (.bl (neg != decide (x = y))) H) ∨ ∃ d e, Dp K H x d ∧ Dp K H y e ∧ SeqAt.shaped d = true ∧ SeqAt.shaped e = true ∧ Q (.bl (neg != PyData.eqv d e)) H := by
  unfold uEq at h
  split at h
  · obtain ⟨xs, ys, h1, h2, q⟩ := h
    exact .inr ⟨.list (xs.map PyData.int), .list (ys.map PyData.int), .lst (SqL.of h1) (dp_ints xs), .lst (SqL.of h2) (dp_ints ys), sh_ints xs, sh_ints ys, by rw [eqv_ints]; exact q⟩
  · exact .inl h
theorem o_eq {X : Cx} (hu : X.A.units + 64 < cLine) : OpR X (compareOp .Eq) (uEq false) := opc (OpR.or op_eq (op_eqD hu)) fun x y H Q h => by
  rcases uEq_of (K := X.K) x y H Q false h with ⟨h1, h2⟩ | ⟨d, e, h1, h2, h3, h4, q⟩
  · exact .inl ⟨h1, by simpa using h2⟩
  · exact .inr ⟨d, e, h1, h2, h3, h4, by simpa using q⟩
theorem o_ne {X : Cx} (hu : X.A.units + 64 < cLine) : OpR X (compareOp .NotEq) (uEq true) := opc (OpR.or op_ne (op_neD hu)) fun x y H Q h => by
  rcases uEq_of (K := X.K) x y H Q true h with ⟨h1, h2⟩ | ⟨d, e, h1, h2, h3, h4, q⟩
  · exact .inl ⟨h1, by simpa using h2⟩
  · exact .inr ⟨d, e, h1, h2, h3, h4, by simpa using q⟩
/-! ### tests, and, or, not, if -/
/-- what is wanted of a bool -/
def onB (Q : Bool → Hp → Prop) : VK := fun x H => match x with
  | .bl k => Q k H
  | _ => False
theorem onB_eq (Q : Bool → Hp → Prop) : onB Q = fun x H => ∃ k, x = .bl k ∧ Q k H := by
  funext x H
  unfold onB
  apply propext
  constructor
  · intro h
    split at h
    · exact ⟨_, rfl, h⟩
    · exact h.elim
  · rintro ⟨k, rfl, h⟩
    exact h
/-- by what a bool is -/
def br (b : Bool) (P R : Prop) : Prop := (b = true → P) ∧ (b = false → R)
theorem br_eq (b : Bool) (P R : Prop) : br b P R = if b = true then P else R := by
  unfold br
  apply propext
  cases b <;> simp
def uT (t : TE) : TT := fun σ H Q => t σ H (onB Q)
section
variable {X : Cx} {a b c : Expr} {ta tb tc : TE} {tA tB' : TT} {rest : List Expr} {pos : Pos}
theorem ut_cmp {op : CmpOp} {r : R2} (ho : OpR X (compareOp op) r) (ha : PE X a ta) (hb : PE X b tb) (hm : behindInMarks op b = false) : PT X (.Compare a [op] [b] pos) (uT (tOp r ta tb)) := by
  have h := pt_cmpR (pos := pos) ho ha hb hm
  have e : uT (tOp r ta tb) = tTest (tOp r ta tb) := by
    funext σ H Q
    unfold uT tTest
    rw [onB_eq]
  rw [e]
  exact h
theorem ut_val {e : Expr} {t : TE} (h : PE X e t) (he : ∀ whole, isTrue e X.env whole = (do let v ← whole; standAt e.pos; holding [v] (truthy v)) := by intro _; rfl) : PT X e (uT t) := by
  have h2 := pt_val h he
  have q : uT t = tB t := by
    funext σ H Q
    unfold uT tB
    rw [onB_eq]
  rw [q]
  exact h2
def uChain (r r' : R2) (ta tb tc : TE) : TE := fun σ H Q => ta σ H fun x H1 => tb σ H1 fun y H2 => r x y H2 (onB fun k H3 => br k (tc σ H3 fun w' H4 => r' y w' H4 Q) (Q (.bl false) H3))
theorem uChain_eq (r r' : R2) (ta tb tc : TE) : uChain r r' ta tb tc = tChain r r' ta tb tc := by
  funext σ H Q
  unfold uChain tChain
  simp only [onB_eq, br_eq]
theorem ut_chain {op op' : CmpOp} {r r' : R2} (ho : OpR X (compareOp op) r) (ho' : OpR X (compareOp op') r') (ha : PE X a ta) (hb : PE X b tb) (hc : PE X c tc) (hm : lastMarks [op, op'] [b, c] = false := by with_unfolding_all rfl) :
    PT X (.Compare a [op, op'] [b, c] pos) (uT (uChain r r' ta tb tc)) := by
  have h := pt_chain (pos := pos) ho ho' ha hb hc hm
  have e : uT (uChain r r' ta tb tc) = tTest (tChain r r' ta tb tc) := by
    funext σ H Q
    unfold uT tTest
    rw [onB_eq, uChain_eq]
  rw [e]
  exact h
def uAnd (t u : TT) : TT := fun σ H Q => t σ H fun k H1 => br k (u σ H1 Q) (Q false H1)
def uOr (t u : TT) : TT := fun σ H Q => t σ H fun k H1 => br k (Q true H1) (u σ H1 Q)
theorem uw_and (ha : PT X a tA) (hb : PW X (.BoolOp .And (b :: rest) pos) tB') : PW X (.BoolOp .And (a :: b :: rest) pos) (uAnd tA tB') := by
  have e : uAnd tA tB' = tAnd tA tB' := by
    funext σ H Q
    unfold uAnd tAnd
    simp only [br_eq]
  rw [e]
  exact pw_and ha hb
theorem uw_or (ha : PT X a tA) (hb : PW X (.BoolOp .Or (b :: rest) pos) tB') : PW X (.BoolOp .Or (a :: b :: rest) pos) (uOr tA tB') := by
  have e : uOr tA tB' = tOr tA tB' := by
    funext σ H Q
    unfold uOr tOr
    simp only [br_eq]
  rw [e]
  exact pw_or ha hb
/-- as values -/
def uAndV (ta tb : TE) : TE := fun σ H Q => ta σ H (onB fun k H1 => br k (tb σ H1 Q) (Q (.bl false) H1))
def uOrV (ta tb : TE) : TE := fun σ H Q => ta σ H (onB fun k H1 => br k (Q (.bl true) H1) (tb σ H1 Q))
def uNotV (ta : TE) : TE := fun σ H Q => ta σ H (onB fun k H1 => Q (.bl (!k)) H1)
theorem ue_and (ha : PE X a ta) (hb : PE X (.BoolOp .And (b :: rest) pos) tb) : PE X (.BoolOp .And (a :: b :: rest) pos) (uAndV ta tb) := by
  have e : uAndV ta tb = tAndV ta tb := by
    funext σ H Q
    unfold uAndV tAndV
    simp only [onB_eq, br_eq]
  rw [e]
  exact pe_and ha hb
theorem ue_or (ha : PE X a ta) (hb : PE X (.BoolOp .Or (b :: rest) pos) tb) : PE X (.BoolOp .Or (a :: b :: rest) pos) (uOrV ta tb) := by
  have e : uOrV ta tb = tOrV ta tb := by
    funext σ H Q
    unfold uOrV tOrV
    simp only [onB_eq, br_eq]
  rw [e]
  exact pe_or ha hb
theorem ue_not (ha : PE X a ta) : PE X (.UnaryOp .Not a pos) (uNotV ta) := by
  have e : uNotV ta = tNotV ta := by
    funext σ H Q
    unfold uNotV tNotV
    rw [onB_eq]
  rw [e]
  exact pe_not ha
def uIf (t : TT) (ta tb : TE) : TE := fun σ H Q => t σ H fun k H1 => br k (ta σ H1 Q) (tb σ H1 Q)
theorem ue_if (hc : PT X c tA) (ha : PE X a ta) (hb : PE X b tb) : PE X (.IfExp c a b pos) (uIf tA ta tb) := by
  have e : uIf tA ta tb = tIf tA ta tb := by
    funext σ H Q
    unfold uIf tIf
    simp only [br_eq]
  rw [e]
  exact pe_ifExp hc ha hb
def uIfS (t : TT) (a b : TS) : TS := fun D σ H => t σ H fun k H1 => br k (a D σ H1) (b D σ H1)
theorem us_if {sa sb : List Stmt} {t u : TS} (hc : PT X c tA) (ha : PSs X sa t) (hb : PSs X sb u) : PS X (.If c sa sb pos) (uIfS tA t u) := by
  have e : uIfS tA t u = tIfS tA t u := by
    funext D σ H
    unfold uIfS tIfS
    simp only [br_eq]
  rw [e]
  exact ps_if hc ha hb
end
end K90
namespace K90
open PySem PySem.Spec PyProof.Rows L2
/-! ### subscripts, slices -/
theorem ixc {X : Cx} {r r' : R2} (h : IxR X r) (q : ∀ x y H Q, r' x y H Q → r x y H Q) : IxR X r' := fun v1 v2 pins s σ H x y v u Q I rx ry w => h v1 v2 pins s σ H x y v u Q I rx ry (q x y H Q w)
theorem slc {X : Cx} {r r' : V → Option Int → Option Int → Hp → VK → Prop} (h : SlR X r) (q : ∀ x lo hi H Q, r' x lo hi H Q → r x lo hi H Q) : SlR X r' := fun pins s σ H x v vl vu lo hi sl Q I rx hs pl pu w => h pins s σ H x v vl vu lo hi sl Q I rx hs pl pu (q x lo hi H Q w)
/-- o[i]: a list, a tuple, a text -/
def uIx (K : PySem.W.Frag) : R2 := fun x y H Q => match x, y with
  | .ref p, .int i => ∃ xs v, (SqL K H p xs ∨ SqT K H p xs) ∧ atI xs i = some v ∧ Q v H
  | .str z, .int i => ∃ c, z.length ≤ sizeLine ∧ atI z.cps.toList i = some c ∧ Q (.str ⟨#[c]⟩) H
  | _, _ => False
theorem i_seq {X : Cx} : IxR X (uIx X.K) := ixc ix_seq fun x y H Q h => by
  unfold uIx at h
  split at h
  · obtain ⟨xs, w, hs, ha, q⟩ := h
    rcases hs with hs | hs
    · exact .inl ⟨_, xs, _, w, rfl, rfl, hs, ha, q⟩
    · exact .inr (.inl ⟨_, xs, _, w, rfl, rfl, hs, ha, q⟩)
  · obtain ⟨c, hz, ha, q⟩ := h
    exact .inr (.inr ⟨_, _, c, rfl, rfl, hz, ha, q⟩)
  · exact h.elim
/-- o[lo:hi]: a list, a tuple, a text -/
def uSl (K : PySem.W.Frag) : V → Option Int → Option Int → Hp → VK → Prop := fun x lo hi H Q => match x with
  | .ref a => (∃ xs, SqL K H a xs ∧ ∀ p, H p = none → Q (.ref p) (upd H p (.lst (cutV xs lo hi)))) ∨
      ∃ xs, SqT K H a xs ∧ (cutV xs lo hi = xs → Q (.ref a) H) ∧ ∀ p, H p = none → Q (.ref p) (upd H p (.tup (cutV xs lo hi)))
  | .str z => z.length ≤ sizeLine ∧ Q (.str (cutS z lo hi)) H
  | _ => False
theorem cut_all {xs : List V} {lo hi : Option Int} (h : HT.sIx xs.length 0 lo = 0 ∧ HT.sIx xs.length xs.length hi = xs.length) : cutV xs lo hi = xs := by
  unfold cutV
  rw [h.1, h.2]
  simp
theorem s_seq {X : Cx} : SlR X (uSl X.K) := slc (SlR.or sl_list (SlR.or sl_tupA sl_str)) fun x lo hi H Q h => by
  unfold uSl at h
  split at h
  · rcases h with ⟨xs, h1, h2⟩ | ⟨xs, h1, h2, h3⟩
    · exact .inl ⟨_, xs, rfl, h1, h2⟩
    · exact .inr (.inl ⟨_, xs, rfl, h1, fun z => h2 (cut_all z), fun _ => h3⟩)
  · exact .inr (.inr ⟨_, rfl, h.1, h.2⟩)
  · exact h.elim
/-- a part of a slice -/
def uPart (t : TE) : TO := fun σ H Q => t σ H fun x H1 => match x with
  | .int i => Q (some i) H1
  | _ => False
theorem u_some {X : Cx} {e : Expr} {t : TE} (h : PE X e t) : PO X (some e) (uPart t) := by
  have q : uPart t = tPart t := by
    funext σ H Q
    unfold uPart tPart
    congr 1
    funext x H1
    apply propext
    constructor
    · intro h
      split at h
      · exact ⟨_, rfl, h⟩
      · exact h.elim
    · rintro ⟨i, rfl, h⟩
      exact h
  rw [q]
  exact po_some h
/-! ### targets -/
theorem PG.cast {X : Cx} {tg : Expr} {t t' : TG} (h : PG X tg t) (q : ∀ v σ H Q, t' v σ H Q → t v σ H Q) : PG X tg t' := ⟨fun pins s σ H v u Q I r w => h.run pins s σ H v u Q I r (q v σ H Q w)⟩
def hNil : TGs := fun vs σ H Q => match vs with
  | [] => Q σ H
  | _ => False
def hCons (t : TG) (u : TGs) : TGs := fun vs σ H Q => match vs with
  | v :: r => t v σ H fun σ' H' => u r σ' H' Q
  | [] => False
theorem hNil_eq : hNil = gNil := by
  funext vs σ H Q
  cases vs <;> simp [hNil, gNil]
theorem hCons_eq (t : TG) (u : TGs) : hCons t u = gCons t u := by
  funext vs σ H Q
  apply propext
  cases vs with
  | nil => exact ⟨fun h => h.elim, fun ⟨_, _, e, _⟩ => nomatch e⟩
  | cons v r =>
    constructor
    · intro h
      exact ⟨v, r, rfl, h⟩
    · rintro ⟨v', r', e, h⟩
      cases e
      exact h
section
variable {X : Cx} {pos : Pos}
theorem hg_nil : PGs X [] hNil := by
  rw [hNil_eq]
  exact pgs_nil
theorem hg_cons {e : Expr} {es : List Expr} {t : TG} {u : TGs} (h1 : PG X e t) (h2 : PGs X es u) (hs : (assignEach (e :: es) X.env).map (·.2) = assign e X.env :: (assignEach es X.env).map (·.2) := by rfl) : PGs X (e :: es) (hCons t u) := by
  rw [hCons_eq]
  exact pgs_cons h1 h2 hs
def hTup (K : PySem.W.Frag) (n : Nat) (t : TGs) : TG := fun v σ H Q => match v with
  | .ref a => ∃ xs, SqT K H a xs ∧ xs.length = n ∧ t xs σ H Q
  | _ => False
theorem hg_tup {es : List Expr} {k : Nat} {t : TGs} {n : Nat} (hc : X.calm = true) (h : PGs X es t) (hn : (assignEach es X.env).length = n := by rfl) (hst : (assignEach es X.env).findIdx? (·.1) = none := by rfl) : PG X (.Tuple es k pos) (hTup X.K n t) :=
  PG.cast (pg_tup hc h hn hst) fun v σ H Q w => by
    unfold hTup at w
    split at w
    · obtain ⟨xs, w⟩ := w
      exact ⟨_, xs, rfl, w⟩
    · exact w.elim
/-- o[i] = v of a list -/
def uSetL : TSet := fun o i v H Q => match o, i with
  | .ref p, .int k => ∃ xs j, H p = some (.lst xs) ∧ ixN xs.length k = some j ∧ Q (upd H p (.lst (xs.set j v)))
  | _, _ => False
theorem h_set : PSet X uSetL := fun pins s σ H o i v ov iv u Q I ro ri rv w => by
  unfold uSetL at w
  split at w
  · obtain ⟨xs, j, w⟩ := w
    exact set_list pins s σ H _ _ _ ov iv u Q I ro ri rv ⟨_, xs, _, j, rfl, rfl, w⟩
  · exact w.elim
end
/-! ### what is walked -/
structure Iter (J : It) (n : Nat) (S : Hp → Prop) (item : Nat → V → Hp → Hp → Prop) : Prop where
  go : ∀ i H, i < n → S H → J.go i H
  stop : ∀ H, S H → J.stop n H
  yld : ∀ i x H H', i < n → S H → J.yld i H x H' → item i x H H'
structure ForGoes (J : It) (g : TG) (tb : TS) (D : Ends) (σ : L2.St) (H : Hp) : Prop where
  ex : ∃ W : Nat → Nat → L2.St → Hp → Prop, (∃ m, W 0 m σ H) ∧ ∀ i m σ H, W i m σ H →
    (J.stop i H ∧ D.nx σ H) ∨ (J.go i H ∧ ∃ N : L2.St → Hp → Prop, (∀ σ' H', N σ' H' → ∃ m', m' < m ∧ W (i + 1) m' σ' H') ∧ ∀ x H', J.yld i H x H' → g x σ H' fun σ2 H2 => tb { D with nx := N, ct := N, bk := D.nx } σ2 H2)
/-- the loop by what holds between its turns -/
theorem ForGoes.by {J : It} {n : Nat} {S : Hp → Prop} {item : Nat → V → Hp → Hp → Prop} {g : TG} {tb : TS} {D : Ends} {σ : L2.St} {H : Hp} (I : Iter J n S item) (Pw : Nat → L2.St → Hp → Prop) (h0 : Pw 0 σ H) (hS : ∀ i σ H, i ≤ n → Pw i σ H → S H)
    (hs : ∀ i x σ H H', i < n → Pw i σ H → item i x H H' → g x σ H' fun σ2 H2 => tb { D with nx := Pw (i + 1), ct := Pw (i + 1), bk := D.nx } σ2 H2) (hd : ∀ σ H, Pw n σ H → D.nx σ H) : ForGoes J g tb D σ H := by
  refine ⟨fun i m σ H => m = n - i ∧ i ≤ n ∧ Pw i σ H, ⟨n, by simp, Nat.zero_le _, h0⟩, ?_⟩
  rintro i m σ H ⟨rfl, hi, p⟩
  have q := hS i σ H hi p
  by_cases hlt : i < n
  · exact .inr ⟨I.go i H hlt q, Pw (i + 1), fun σ' H' p' => ⟨n - (i + 1), by omega, rfl, hlt, p'⟩, fun x H' y => hs i x σ H H' hlt p (I.yld i x H H' hlt q y)⟩
  · have e : i = n := by omega
    subst e
    exact .inl ⟨I.stop H q, hd σ H p⟩
/-- a comprehension's list at D gets one item more -/
def LcPut (D : Addr) (Nx : Hp → Prop) : VK := fun y H4 => ∃ acc, H4 D = some (.lst acc) ∧ acc.length < sizeLine ∧ Nx (upd H4 D (.lst (acc ++ [y])))
structure LcGoes (J : It) (g : TG) (tt : TT) (te : TE) (vs : List Nat) (σ : L2.St) (H1 : Hp) (D : Addr) (Q : VK) : Prop where
  ex : ∃ W : Nat → Nat → Hp → Prop, (∃ m, W 0 m (upd H1 D (.lst []))) ∧ ∀ i m H, W i m H →
    (J.stop i H ∧ Q (.ref D) H) ∨ (J.go i H ∧ ∃ Nx : Hp → Prop, (∀ H', Nx H' → ∃ m', m' < m ∧ W (i + 1) m' H') ∧ ∀ x H', J.yld i H x H' → g x (wipe σ vs) H' fun σ2 H2 => wipe σ2 vs = wipe σ vs ∧ tt σ2 H2 fun b H3 => br b (te σ2 H3 (LcPut D Nx)) (Nx H3))
/-- what stands between a comprehension's turns: the heap ahead of it, the list made so far, R -/
def LcP (H1 : Hp) (D : Addr) (R : Nat → List V → Hp → Prop) (i : Nat) (H : Hp) : Prop := ∃ acc : List V, acc.length ≤ i ∧ Same H1 H ∧ H D = some (.lst acc) ∧ R i acc H
theorem same_new {H1 H : Hp} {D : Addr} {o : HO} (hD : H1 D = none) (s : Same H1 H) : Same H1 (upd H D o) := fun b u e => by
  rw [upd_ne (ne_of_none e hD)]
  exact s b u e
/-- a turn's end: the item is put behind -/
theorem LcP.put {H1 H : Hp} {D : Addr} {R : Nat → List V → Hp → Prop} {i : Nat} {acc : List V} {y : V} (hD : H1 D = none) (hz : i < sizeLine) (ha : acc.length ≤ i) (s : Same H1 H) (d : H D = some (.lst acc)) (r : R (i + 1) (acc ++ [y]) (upd H D (.lst (acc ++ [y])))) : LcPut D (LcP H1 D R (i + 1)) y H :=
  ⟨acc, d, by omega, acc ++ [y], by rw [List.length_append]; exact Nat.succ_le_succ ha, same_new hD s, upd_same, r⟩
theorem LcP.skip {H1 H : Hp} {D : Addr} {R : Nat → List V → Hp → Prop} {i : Nat} {acc : List V} (ha : acc.length ≤ i) (s : Same H1 H) (d : H D = some (.lst acc)) (r : R (i + 1) acc H) : LcP H1 D R (i + 1) H := ⟨acc, by omega, s, d, r⟩
theorem LcGoes.by {J : It} {n : Nat} {S : Hp → Prop} {item : Nat → V → Hp → Hp → Prop} {g : TG} {tt : TT} {te : TE} {vs : List Nat} {σ : L2.St} {H1 : Hp} {D : Addr} {Q : VK} (I : Iter J n S item) (hD : H1 D = none) (R : Nat → List V → Hp → Prop)
    (h0 : R 0 [] (upd H1 D (.lst []))) (hS : ∀ i acc H, i ≤ n → Same H1 H → H D = some (.lst acc) → R i acc H → S H)
    (hs : ∀ i acc x H H', i < n → acc.length ≤ i → Same H1 H → H D = some (.lst acc) → R i acc H → item i x H H' → g x (wipe σ vs) H' fun σ2 H2 => wipe σ2 vs = wipe σ vs ∧ tt σ2 H2 fun b H3 =>
      br b (te σ2 H3 (LcPut D (LcP H1 D R (i + 1)))) (LcP H1 D R (i + 1) H3))
    (hd : ∀ acc H, acc.length ≤ n → Same H1 H → H D = some (.lst acc) → R n acc H → Q (.ref D) H) : LcGoes J g tt te vs σ H1 D Q := by
  refine ⟨fun i m H => m = n - i ∧ i ≤ n ∧ LcP H1 D R i H, ⟨n, by simp, Nat.zero_le _, [], Nat.le_refl _, same_new hD (Same.refl _), upd_same, h0⟩, ?_⟩
  rintro i m H ⟨rfl, hi, acc, ha, s1, d1, r⟩
  have q := hS i acc H hi s1 d1 r
  by_cases hlt : i < n
  · exact .inr ⟨I.go i H hlt q, LcP H1 D R (i + 1), fun H' p' => ⟨n - (i + 1), by omega, rfl, hlt, p'⟩, fun x H' y => hs i acc x H H' hlt ha s1 d1 r (I.yld i x H H' hlt q y)⟩
  · have e : i = n := by omega
    subst e
    exact .inl ⟨I.stop H q, hd acc H ha s1 d1 r⟩
def uLc (wi : TI) (g : TG) (tt : TT) (te : TE) (vs : List Nat) : TE := fun σ H Q => wi σ H fun J H1 => ∀ D, H1 D = none → LcGoes J g tt te vs σ H1 D Q
theorem uLc_eq (wi : TI) (g : TG) (tt : TT) (te : TE) (vs : List Nat) : uLc wi g tt te vs = tLc wi g tt te vs := by
  funext σ H Q
  unfold uLc tLc
  congr 1
  funext J H1
  apply propext
  constructor
  · intro h D hD
    obtain ⟨W, h0, h1⟩ := h D hD
    refine ⟨W, h0, fun i m H w => ?_⟩
    have z := h1 i m H w
    simp only [br_eq, LcPut] at z
    exact z
  · intro h D hD
    obtain ⟨W, h0, h1⟩ := h D hD
    refine ⟨W, h0, fun i m H w => ?_⟩
    have z := h1 i m H w
    simp only [br_eq, LcPut]
    exact z
section
variable {X : Cx} {elt tg iter : Expr} {ifs : List Expr} {scope : Scope} {own : List (Str × Nat)} {pos spos py : Pos} {wi : TI} {g : TG} {tt : TT} {te : TE} {i : Nat} {y : Str}
theorem ue_lc (hc : X.calm = true) (hN : X.N.Nodup) (hi : PI X tg iter wi) (ok : blkC X.N X.env.scope scope own = true)
    (hg : ∀ (s : Shared) (H : Hp) (Ca : Addr) (cll : List (Str × Addr)) (fps : List Addr), PG (X.blk s H scope (compEnvC scope cll Ca X.env) fps) tg g) (ht : ∀ (s : Shared) (H : Hp) (Ca : Addr) (cll : List (Str × Addr)) (fps : List Addr), PTs (X.blk s H scope (compEnvC scope cll Ca X.env) fps) ifs tt)
    (he : ∀ (s : Shared) (H : Hp) (Ca : Addr) (cll : List (Str × Addr)) (fps : List Addr), PE (X.blk s H scope (compEnvC scope cll Ca X.env) fps) elt te) (hs : ∀ x, foldedSetIterable iter X.env x = pure x := by intro _; rfl) :
    PE X (.ListComp elt [⟨tg, iter, ifs, 0⟩] scope pos) (uLc wi g tt te (own.map (·.2))) := by
  rw [uLc_eq]
  exact pe_lc hc hN hi (blkOk_by ok) hg ht he hs
theorem us_lc (hc : X.calm = true) (hN : X.N.Nodup) (hy : X.N[i]? = some y) (hyl : X.env.scope.names.lookup y = some .local) (hsw : swapsWith (.ListComp elt [⟨tg, iter, ifs, 0⟩] scope pos) (some (.Name y py)) spos.line X.env = pure true) (hi : PI X tg iter wi) (ok : blkC X.N X.env.scope scope own = true)
    (hg : ∀ (s : Shared) (H : Hp) (Ca : Addr) (cll : List (Str × Addr)) (fps : List Addr), PG (X.blk s H scope (compEnvC scope cll Ca X.env) fps) tg g) (ht : ∀ (s : Shared) (H : Hp) (Ca : Addr) (cll : List (Str × Addr)) (fps : List Addr), PTs (X.blk s H scope (compEnvC scope cll Ca X.env) fps) ifs tt)
    (he : ∀ (s : Shared) (H : Hp) (Ca : Addr) (cll : List (Str × Addr)) (fps : List Addr), PE (X.blk s H scope (compEnvC scope cll Ca X.env) fps) elt te) (hs : ∀ x, foldedSetIterable iter X.env x = pure x := by intro _; rfl) :
    PS X (.Assign [.Name y py] (.ListComp elt [⟨tg, iter, ifs, 0⟩] scope pos) spos) (tAsg (uLc wi g tt te (own.map (·.2))) (gName i)) := by
  rw [uLc_eq]
  exact ps_setLc hc hN hy hyl hsw hi (blkOk_by ok) hg ht he hs
def uFor (wi : TI) (g : TG) (tb : TS) : TS := fun D σ H => wi σ H fun J H1 => ForGoes J g tb D σ H1
theorem us_for {body : List Stmt} {tb : TS} (hp : PassesOwn (model X.prog X.w) X.A X.env X.xe) (hc : X.calm = true) (hi : PI X tg iter wi) (hg : PG X tg g) (hb : PSs X body tb) (hs : ∀ x, foldedSetIterable iter X.env x = pure x := by intro _; rfl) : PS X (.For tg iter body [] pos) (uFor wi g tb) := by
  have e : uFor wi g tb = tFor wi g tb := by
    funext D σ H
    unfold uFor tFor
    congr 1
    funext J H1
    exact propext ⟨fun h => h.ex, fun h => ⟨h⟩⟩
  rw [e]
  exact ps_for hp hc hi hg hb hs
end
end K90
namespace K90
open PySem PySem.Spec PyProof.Rows L2 RT RZ
/-! ### iterators -/
section
variable {K : PySem.W.Frag} {a b : Addr} {xs ys : List V}
/-- the i-th item of a list, the heap as it is -/
def itemOf (xs : List V) : Nat → V → Hp → Hp → Prop := fun i x H H' => xs[i]? = some x ∧ H = H'
/-- a pair, just made, of the i-th items -/
def pairOf (xs ys : List V) : Nat → V → Hp → Hp → Prop := fun i v H H' => ∃ T x y, v = .ref T ∧ H T = none ∧ H' = upd H T (.tup [x, y]) ∧ xs[i]? = some x ∧ ys[i]? = some y
theorem get_lt {α : Type} {l : List α} {i : Nat} (h : i < l.length) : ∃ x, l[i]? = some x := ⟨l[i], List.getElem?_eq_getElem h⟩
theorem Iter.list : Iter (Itl K a) xs.length (fun H => SqL K H a xs) (itemOf xs) where
  go := fun i H h s => by
    obtain ⟨x, e⟩ := get_lt h
    exact ⟨xs, x, s, e⟩
  stop := fun H s => ⟨xs, s, Nat.le_refl _⟩
  yld := fun i x H H' h s y => ⟨y.2 xs s, y.1.symm⟩
theorem Iter.tup : Iter (Itt K a) xs.length (fun H => SqT K H a xs) (itemOf xs) where
  go := fun i H h s => by
    obtain ⟨x, e⟩ := get_lt h
    exact ⟨xs, x, s, e⟩
  stop := fun H s => ⟨xs, s, Nat.le_refl _⟩
  yld := fun i x H H' h s y => ⟨y.2 xs s, y.1.symm⟩
theorem Iter.range {lo : Int} {n : Nat} : Iter (Itr lo n) n (fun _ => True) (fun i x H H' => x = .int (lo + i) ∧ H = H') where
  go := fun i H h _ => h
  stop := fun H _ => Nat.le_refl _
  yld := fun i x H H' h _ y => ⟨y.2, y.1.symm⟩
theorem Iter.rangeC {lo c : Int} {n : Nat} : Iter (Itc lo c n) n (fun _ => True) (fun i x H H' => x = .int (lo + (i : Nat) * c) ∧ H = H') where
  go := fun i H h _ => h
  stop := fun H _ => Nat.le_refl _
  yld := fun i x H H' h _ y => ⟨y.2, y.1.symm⟩
theorem rev_ix {i : Nat} (h : i < xs.length) : xs.reverse[i]? = xs[xs.length - 1 - i]? := by
  rw [List.getElem?_reverse h]
theorem Iter.rev : Iter (Itv K a xs.length) xs.length (fun H => SqL K H a xs) (itemOf xs.reverse) where
  go := fun i H h s => by
    obtain ⟨x, e⟩ := get_lt (l := xs) (i := xs.length - 1 - i) (by omega)
    exact ⟨h, xs, x, s, e⟩
  stop := fun H s => Nat.le_refl _
  yld := fun i x H H' h s y => ⟨by rw [rev_ix h]; exact y.2 xs s, y.1.symm⟩
theorem Iter.revT : Iter (ItvT K a xs.length) xs.length (fun H => SqT K H a xs) (itemOf xs.reverse) where
  go := fun i H h s => by
    obtain ⟨x, e⟩ := get_lt (l := xs) (i := xs.length - 1 - i) (by omega)
    exact ⟨h, xs, x, s, e⟩
  stop := fun H s => Nat.le_refl _
  yld := fun i x H H' h s y => ⟨by rw [rev_ix h]; exact y.2 xs s, y.1.symm⟩
theorem Iter.str {x : Str} : Iter (Its x) x.cps.size (fun _ => True) (fun i v H H' => ∃ c, x.cps.toList[i]? = some c ∧ v = .str ⟨#[c]⟩ ∧ H = H') where
  go := fun i H h _ => h
  stop := fun H _ => Nat.le_refl _
  yld := fun i v H H' h _ y => by
    obtain ⟨e, c, h1, h2⟩ := y
    exact ⟨c, by simpa using h1, h2, e.symm⟩
theorem Iter.enum : Iter (Ite K a) xs.length (fun H => SqL K H a xs) (fun i v H H' => ∃ T x, v = .ref T ∧ H T = none ∧ H' = upd H T (.tup [.int (i : Nat), x]) ∧ xs[i]? = some x) where
  go := fun i H h s => by
    obtain ⟨x, e⟩ := get_lt h
    exact ⟨xs, x, s, e⟩
  stop := fun H s => ⟨xs, s, Nat.le_refl _⟩
  yld := fun i v H H' h s y => by
    obtain ⟨T, x, h1, h2, h3, h4⟩ := y
    exact ⟨T, x, h1, h2, h3, h4 xs s⟩
theorem Iter.zip : Iter (Itz K a b) (min xs.length ys.length) (fun H => SqL K H a xs ∧ SqL K H b ys) (pairOf xs ys) where
  go := fun i H h s => by
    obtain ⟨x, e⟩ := get_lt (l := xs) (i := i) (by omega)
    obtain ⟨y, e2⟩ := get_lt (l := ys) (i := i) (by omega)
    exact ⟨xs, ys, x, y, s.1, s.2, e, e2⟩
  stop := fun H s => ⟨xs, ys, s.1, s.2, by omega⟩
  yld := fun i v H H' h s y => by
    obtain ⟨T, x, y, h1, h2, h3, h4, h5⟩ := y
    exact ⟨T, x, y, h1, h2, h3, h4 xs s.1, h5 ys s.2⟩
theorem Iter.zipT : Iter (ItzT K a b) (min xs.length ys.length) (fun H => SqT K H a xs ∧ SqT K H b ys) (pairOf xs ys) where
  go := fun i H h s => by
    obtain ⟨x, e⟩ := get_lt (l := xs) (i := i) (by omega)
    obtain ⟨y, e2⟩ := get_lt (l := ys) (i := i) (by omega)
    exact ⟨xs, ys, x, y, s.1, s.2, e, e2⟩
  stop := fun H s => ⟨xs, ys, s.1, s.2, by omega⟩
  yld := fun i v H H' h s y => by
    obtain ⟨T, x, y, h1, h2, h3, h4, h5⟩ := y
    exact ⟨T, x, y, h1, h2, h3, h4 xs s.1, h5 ys s.2⟩
end
/-! ### what a for, a comprehension walks: the readings -/
theorem PI.cast {X : Cx} {tg iter : Expr} {w w' : TI} (h : PI X tg iter w) (q : ∀ σ H R, w' σ H R → w σ H R) : PI X tg iter w' := ⟨fun pins s σ H R I z => h.run pins s σ H R I (q σ H R z)⟩
/-- what is wanted of an object's address -/
def onR (F : Addr → Hp → Prop) : VK := fun x H1 => match x with
  | .ref a => F a H1
  | _ => False
theorem onR_eq (F : Addr → Hp → Prop) : onR F = fun x H1 => ∃ a, x = .ref a ∧ F a H1 := by
  funext x H1
  unfold onR
  apply propext
  constructor
  · intro h
    split at h
    · exact ⟨_, rfl, h⟩
    · exact h.elim
  · rintro ⟨a, rfl, h⟩
    exact h
section
variable {X : Cx} {tg l e a b c : Expr} {tl te ta' tb : TE} {ta : TA} {p pos : Pos}
/-- a list that stands still -/
def jList (K : PySem.W.Frag) (tl : TE) : TI := fun σ H R => tl σ H (onR fun a H1 => (∃ xs, SqL K H1 a xs) ∧ R (Itl K a) H1)
theorem j_list (hl : PE X l tl) : PI X tg l (jList X.K tl) := by
  have e : jList X.K tl = iList X.K tl := by
    funext σ H R
    unfold jList iList
    rw [onR_eq]
  rw [e]
  exact pi_list hl
def jTup (K : PySem.W.Frag) (tl : TE) : TI := fun σ H R => tl σ H (onR fun a H1 => (∃ xs, SqT K H1 a xs) ∧ R (Itt K a) H1)
theorem j_tup (hl : PE X l tl) : PI X tg l (jTup X.K tl) := by
  have e : jTup X.K tl = iTup X.K tl := by
    funext σ H R
    unfold jTup iTup
    rw [onR_eq]
  rw [e]
  exact pi_tup hl
def onI1 (R : Int → Hp → Prop) : List V → Hp → Prop := fun vs H => match vs with
  | [.int j] => R j H
  | _ => False
theorem onI1_eq (R : Int → Hp → Prop) : onI1 R = fun vs H => ∃ j, vs = [V.int j] ∧ R j H := by
  funext vs H
  unfold onI1
  apply propext
  constructor
  · intro h
    split at h
    · exact ⟨_, rfl, h⟩
    · exact h.elim
  · rintro ⟨j, rfl, h⟩
    exact h
def jRng (ta : TA) : TI := fun σ H R => ta σ H (onI1 fun j H1 => -(2 ^ 62) ≤ j ∧ j < 2 ^ 62 ∧ R (Itr 0 j.toNat) H1)
theorem j_rng (hm : X.mg "range" = none) (ha : PA X [a] ta) (hg : Gl X "range" := by rfl) (hs : starEach [a] X.env = [(false, eval a X.env)] := by rfl) : PI X tg (.Call (.Name "range" p) [a] [] pos) (jRng ta) := by
  have e : jRng ta = iRng1 ta := by
    funext σ H R
    unfold jRng iRng1
    rw [onI1_eq]
  rw [e]
  exact pi_range1 hg hm ha hs
def jRng3 (ta : TA) : TI := fun σ H R => ta σ H fun vs H1 => match vs with
  | [.int i, .int j, .int c] => ∃ n, RgC i j c n ∧ R (Itc i c n) H1
  | _ => False
theorem j_rng3 (hm : X.mg "range" = none) (ha : PA X [a, b, c] ta) (hg : Gl X "range" := by rfl) (hs : starEach [a, b, c] X.env = (false, eval a X.env) :: starEach [b, c] X.env := by rfl) (hpl : (backTo pos (starEach [b, c] X.env)).any (·.1) = false := by rfl) : PI X tg (.Call (.Name "range" p) [a, b, c] [] pos) (jRng3 ta) := by
  have q : jRng3 ta = iRng3 ta := by
    funext σ H R
    unfold jRng3 iRng3
    congr 1
    funext vs H1
    apply propext
    constructor
    · intro h
      split at h
      · obtain ⟨n, h1, h2⟩ := h
        exact ⟨_, _, _, n, rfl, h1, h2⟩
      · exact h.elim
    · rintro ⟨i, j, c, n, rfl, h1, h2⟩
      exact ⟨n, h1, h2⟩
  rw [q]
  exact pi_range3 hg hm ha hs hpl
def jRev (K : PySem.W.Frag) (te : TE) : TI := fun σ H R => te σ H (onR fun a H1 => ∃ xs, (SqL K H1 a xs ∧ R (Itv K a xs.length) H1) ∨ (SqT K H1 a xs ∧ R (ItvT K a xs.length) H1))
theorem j_rev (hm : X.mg "reversed" = none) (he : PE X e te) (hg : Gl X "reversed" := by rfl) (hs : starEach [e] X.env = (false, eval e X.env) :: starEach [] X.env := by rfl) : PI X tg (.Call (.Name "reversed" p) [e] [] pos) (jRev X.K te) := by
  have q : jRev X.K te = iRevA X.K te := by
    funext σ H R
    unfold jRev iRevA
    rw [onR_eq]
    congr 1
    funext x H1
    apply propext
    constructor
    · rintro ⟨a, rfl, xs, h⟩
      exact ⟨a, xs, rfl, h⟩
    · rintro ⟨a, xs, rfl, h⟩
      exact ⟨a, rfl, xs, h⟩
  rw [q]
  exact pi_revA hg hm he hs
def jStr (te : TE) : TI := fun σ H R => te σ H fun v H1 => match v with
  | .str x => R (Its x) H1
  | _ => False
theorem j_str (he : PE X e te) : PI X tg e (jStr te) := by
  have q : jStr te = iStr te := by
    funext σ H R
    unfold jStr iStr
    congr 1
    funext x H1
    apply propext
    constructor
    · intro h
      split at h
      · exact ⟨_, rfl, h⟩
      · exact h.elim
    · rintro ⟨j, rfl, h⟩
      exact h
  rw [q]
  exact pi_str he
def jEnum (K : PySem.W.Frag) (ta : TA) : TI := fun σ H R => ta σ H fun vs H1 => match vs with
  | [.ref a] => (∃ xs, SqL K H1 a xs) ∧ R (Ite K a) H1
  | _ => False
def jZip (K : PySem.W.Frag) (ta : TA) : TI := fun σ H R => ta σ H fun vs H1 => match vs with
  | [.ref a, .ref b] => ∃ xs ys, (SqL K H1 a xs ∧ SqL K H1 b ys ∧ R (Itz K a b) H1) ∨ (SqT K H1 a xs ∧ SqT K H1 b ys ∧ R (ItzT K a b) H1)
  | _ => False
variable {elts : List Expr} {kk : Nat} {tpos : Pos}
theorem j_enum (hm : X.mg "enumerate" = none) (ha : PA X [e] ta) (hg : Gl X "enumerate" := by rfl) (hs : starEach [e] X.env = [(false, eval e X.env)] := by rfl) : PI X (.Tuple elts kk tpos) (.Call (.Name "enumerate" p) [e] [] pos) (jEnum X.K ta) := by
  have q : jEnum X.K ta = iEnum X.K ta := by
    funext σ H R
    unfold jEnum iEnum
    congr 1
    funext vs H1
    apply propext
    constructor
    · intro h
      split at h
      · obtain ⟨⟨xs, h1⟩, h2⟩ := h
        exact ⟨_, xs, rfl, h1, h2⟩
      · exact h.elim
    · rintro ⟨a, xs, rfl, h1, h2⟩
      exact ⟨⟨xs, h1⟩, h2⟩
  rw [q]
  exact pi_enum hg hm ha hs
theorem j_zip (hm : X.mg "zip" = none) (ha : PA X [a, b] ta) (hg : Gl X "zip" := by rfl) (hs : starEach [a, b] X.env = (false, eval a X.env) :: starEach [b] X.env := by rfl) (hpl : (backTo pos (starEach [b] X.env)).any (·.1) = false := by rfl) : PI X (.Tuple elts kk tpos) (.Call (.Name "zip" p) [a, b] [] pos) (jZip X.K ta) := by
  have q : jZip X.K ta = iZipA X.K ta := by
    funext σ H R
    unfold jZip iZipA
    congr 1
    funext vs H1
    apply propext
    constructor
    · intro h
      split at h
      · obtain ⟨xs, ys, h⟩ := h
        exact ⟨_, _, xs, ys, rfl, h⟩
      · exact h.elim
    · rintro ⟨a, b, xs, ys, rfl, h⟩
      exact ⟨xs, ys, h⟩
  rw [q]
  exact pi_zipA hg hm ha hs hpl
end
/-! ### while -/
structure WhGoes (c : TT) (tb : TS) (D : Ends) (σ : L2.St) (H : Hp) : Prop where
  ex : ∃ W : Nat → L2.St → Hp → Prop, (∃ m, W m σ H) ∧ ∀ m σ H, W m σ H → c σ H fun b H1 => br b (∃ N : L2.St → Hp → Prop, (∀ σ' H', N σ' H' → ∃ m', m' < m ∧ W m' σ' H') ∧ tb { D with nx := N, ct := N, bk := D.nx } σ H1) (D.nx σ H1)
/-- what is wanted behind a while's turn: a smaller measure, the word again -/
def WhNx (Pv : Nat → L2.St → Hp → Prop) (m : Nat) : L2.St → Hp → Prop := fun σ' H' => ∃ m', m' < m ∧ Pv m' σ' H'
theorem WhGoes.by {c : TT} {tb : TS} {D : Ends} {σ : L2.St} {H : Hp} (Pv : Nat → L2.St → Hp → Prop) (m : Nat) (h0 : Pv m σ H)
    (hs : ∀ m σ H, Pv m σ H → c σ H fun b H1 => br b (∃ N : L2.St → Hp → Prop, (∀ σ' H', N σ' H' → ∃ m', m' < m ∧ Pv m' σ' H') ∧ tb { D with nx := N, ct := N, bk := D.nx } σ H1) (D.nx σ H1)) : WhGoes c tb D σ H :=
  ⟨Pv, ⟨m, h0⟩, hs⟩
def uWh (c : TT) (tb : TS) : TS := fun D σ H => WhGoes c tb D σ H
theorem us_while {X : Cx} {c : Expr} {body : List Stmt} {tc : TT} {tb : TS} {pos : Pos} (hp : PassesOwn (model X.prog X.w) X.A X.env X.xe) (hc : PT X c tc) (hb : PSs X body tb) : PS X (.While c body [] pos) (uWh tc tb) := by
  refine PS.cast (ps_while hp hc hb) fun D σ H h => ?_
  obtain ⟨W, h0, h1⟩ := h.ex
  refine ⟨W, h0, fun m σ H w => ?_⟩
  have z := h1 m σ H w
  simp only [br_eq] at z
  exact z
end K90
namespace K90
open PySem PySem.Spec PyProof.Rows L2 RT RZ
/-! ### what the top tells of BadBytes -/
theorem oexB_ok {K : PySem.W.Frag} {C : Addr} (h : oexB K C = true) :
    ∃ nm q N bs bm sn sub ab col dd k0 k1 k2 k3 k5, K.lookup C = some (excClassObj nm q C N bs bm true sn sub ab col dd k0 k1 k2 k3 k5 "ValueError.__new__") ∧ PySem.HandSPX.refsVE bm = true := by
  unfold oexB at h
  split at h
  · rename_i dd cdt sl ho
    split at h
    · rename_i C' bm k0 k1 k2 k3 n k5 hmm hs
      simp only [Bool.and_eq_true, beq_iff_eq, Bool.not_eq_true'] at h
      obtain ⟨⟨⟨⟨h1, h2⟩, h3⟩, h4⟩, h5⟩ := h
      subst h1 h2
      obtain ⟨nm, bs, mro, ns, qn, hd, sn, sub, ab, col, del⟩ := cdt
      dsimp only at hmm h3 h4
      subst hmm h3 h4
      have e : sl = #[k0, k1, k2, k3, some (.builtin "ValueError.__new__"), k5] := by
        obtain ⟨l⟩ := sl
        simp only at hs
        rw [hs]
      rw [e] at ho
      exact ⟨nm, qn, ns, bs, bm, sn, sub, ab, col, dd, k0, k1, k2, k3, k5, ho, h5⟩
    · cases h
  · cases h
abbrev CB (K : PySem.W.Frag) : Addr := He.ga K "BadBytes"
abbrev SE (K : PySem.W.Frag) : Addr := He.ga K "StoreError"
structure BadTxt (K : PySem.W.Frag) : Prop where
  oex : OexC K (CB K)
  why : PySem.W.findIn K (.ref (CB K)) "why" = some none
  ini : PySem.W.findIn K (.ref (CB K)) "__init__" = some (some (.ref (fIni K)))
  tin : PySem.W.typeIn K (.ref (fIni K)) = some (.type "function")
  sga : PySem.W.specialIn K (.ref (SE K)) "__getattribute__" = some (some (.builtin "type.__getattribute__"))
  srd : PySem.W.readsIn K (SE K) (.type "type") = true
  sin : PySem.W.findCls K (.ref (SE K)) (.type "type") "__init__" = some (.val (.builtin "ValueError.__init__"))
section
variable {K : PySem.W.Frag} {mg : Str → Option Value}
theorem bad_txt (T : Txt K mg) : BadTxt K := by
  have h := T.more
  unfold exB at h
  simp only [Bool.and_eq_true] at h
  obtain ⟨⟨⟨⟨⟨⟨⟨⟨⟨⟨⟨h1, h2⟩, h3⟩, h4⟩, h5⟩, h6⟩, h7⟩, h8⟩, h9⟩, h10⟩, h11⟩, _⟩ := h
  refine ⟨⟨oexB_ok h2, He.eqO_ok h3, of_decide_eq_true h6, of_decide_eq_true h7, k_BadBytes T⟩, He.eqO_ok h4, He.eqO_ok h5, of_decide_eq_true h8, He.eqO_ok h9, h10, ?_⟩
  split at h11
  · rename_i z e
    rw [e, eq_of_beq h11]
  · cases h11
theorem kinds_at (T : Txt K mg) (H : Hp) : SqT K H (He.ga K "KINDS") [.str "number", .str "text"] := by
  have h := T.more
  unfold exB at h
  simp only [Bool.and_eq_true] at h
  exact He.tupB_ok h.1.1.1.1.1.1.1.1.1.1.1 H
theorem kinds_obj (T : Txt K mg) : ∃ o, K.lookup (He.ga K "KINDS") = some o ∧ o.cls = .type "tuple" ∧ o.dict = none := by
  have h := T.more
  unfold exB at h
  simp only [Bool.and_eq_true] at h
  have h := h.2
  split at h
  · rename_i e
    exact ⟨_, e, rfl, rfl⟩
  · cases h
end
/-! ### a def by its name -/
structure Cal (P : Program) (w : World) (K : PySem.W.Frag) (mg : Str → Option Value) (base : Heap) (k : Nat) (x : Str) (sp : Sp) : Prop where
  ex : ∃ (f : Addr) (fd : FuncData) (ps : List Str), FnOk P w K mg base (L2.CX P w) k f fd ps sp ∧ mg x = some (.ref f) ∧ PySem.W.keepIn K (.ref f) = true ∧ Binds K fd ps []
/-- a method of an own class -/
structure CalM (P : Program) (w : World) (K : PySem.W.Frag) (mg : Str → Option Value) (base : Heap) (k : Nat) (C : Addr) (m : Str) (sp : Sp) : Prop where
  ex : ∃ (f : Addr) (fd : FuncData) (ps : List Str), FnOk P w K mg base (L2.CX P w) k f fd ps sp ∧ Cls K C ∧ Meth K C m f ∧ Binds K fd ps []
/-- an own class's making -/
structure CalC (P : Program) (w : World) (K : PySem.W.Frag) (mg : Str → Option Value) (base : Heap) (k : Nat) (x : Str) (C : Addr) (sp : Sp) : Prop where
  ex : ∃ (f : Addr) (fd : FuncData) (ps : List Str), FnOk P w K mg base (L2.CX P w) k f fd ps sp ∧ mg x = some (.ref C) ∧ Mk K C f ∧ Binds K fd ps []
theorem cal_mk {P : Program} {w : World} {K : PySem.W.Frag} {mg : Str → Option Value} {base : Heap} {x qual : Str} {pa : Arguments} {bd : List Stmt} {sc : Scope} {f : Addr} {fd : FuncData} {N ps : List Str} {k : Nat} {sp : Sp} (hmm : mg x = some (.ref f)) (F : FunD K x qual pa bd sc [] [] f fd) (S : FnScope N ps sc)
    (hb : ∀ (kV doc pm : Value) (an : Option Addr) (cdv ct : Value) (us : List Value), us.length = ps.length → bindArgs (PySem.W.fnOf x qual pa bd sc .none kV doc pm an cdv ct) ⟨us, []⟩ = pure (ps.zip us))
    (lens : ∀ vs H Q E, sp vs H Q E → vs.length = ps.length)
    (body : ∀ (cdv : Value) (A : Around) (outer : List Env) (s : Shared) (H : Hp) (vs : List V) (Q : VK) (E : XK), Room k (A.deeper (envOfC qual sc s.heap.objs.size f cdv)) → sp vs H Q E →
      ∃ t, PSs (cxOf (L2.CX P w) P w K mg base N qual sc f cdv A outer s H E) bd t ∧ t { nx := fun _ H' => Q .non H', rt := Q } (start N vs) H) : Cal P w K mg base (k + 1) x sp :=
  ⟨f, fd, ps, F.ok S lens body, hmm, F.kp, F.bindsN hb⟩
section
variable {X : Cx} {k j : Nat} {x m : Str} {sp : Sp} {p pos apos : Pos} {e o : Expr} {ers : List Expr} {t : TA} {W : WX} {ta : TE} {C : Addr}
/-- a def called that lets nothing out -/
def uCall (sp : Sp) (t : TA) : TE := fun σ H Q => t σ H fun vs H1 => sp vs H1 Q E0
theorem u_call (c : Cal X.prog X.w X.K X.mg X.base k x sp) (hr : Room j X.A) (hk : k ≤ j) (ha : PA X (e :: ers) t) (hg : Gl X x := by rfl)
    (hnd : (x == ("__debug__" : Str)) = false := by decide) (hstar : starEach (e :: ers) X.env = (false, eval e X.env) :: starEach ers X.env := by rfl) (hspl : (backTo pos (starEach ers X.env)).any (·.1) = false := by rfl) :
    PE X (.Call (.Name x p) (e :: ers) [] pos) (uCall sp t) := by
  obtain ⟨f, fd, ps, F, hmm, kp, b⟩ := c.ex
  refine PE.cast (pe_call F (hr.mono hk) hg hmm kp b .nil passL ha hnd hstar hspl) fun σ H Q h => ?_
  unfold uCall at h
  unfold tCall
  simp only [List.append_nil]
  exact h
/-- a def called that may let an error out -/
theorem u_callX (c : Cal X.prog X.w X.K X.mg X.base k x sp) (tk : Takes X W) (hr : Room j X.A) (hk : k ≤ j) (ha : PA X (e :: ers) t) (hg : Gl X x := by rfl)
    (hnd : (x == ("__debug__" : Str)) = false := by decide) (hstar : starEach (e :: ers) X.env = (false, eval e X.env) :: starEach ers X.env := by rfl) (hspl : (backTo pos (starEach ers X.env)).any (·.1) = false := by rfl) :
    PE X (.Call (.Name x p) (e :: ers) [] pos) (tCallS sp (WE W) t) := by
  obtain ⟨f, fd, ps, F, hmm, kp, b⟩ := c.ex
  exact pe_callS F (hr.mono hk) hg hmm kp b (fun σ => passAt tk σ) ha hnd hstar hspl
/-- o.m(): an own object's method -/
def uMeth0 (C : Addr) (m : Str) (sp : Sp) (ta : TE) : TE := fun σ H Q => ta σ H (onR fun a H1 => ∃ dx fs, H1 a = some (.ins C dx fs) ∧ fs.lookup m = none ∧ sp [.ref a] H1 Q E0)
theorem u_meth0 {pl : Sem Bool} (c : CalM X.prog X.w X.K X.mg X.base k C m sp) (hr : Room j X.A) (hk : k ≤ j) (ho : PE X o ta)
    (htr : eval (.Call (.Attribute o m apos) [] [] pos) X.env = (do
      let ov ← eval o X.env
      standAt apos.atName
      let (f, first) ← holding [ov] (getMethod ov m pl)
      callWith pos f first (backTo pos (starEach [] X.env)) (backToKw pos (keywordEach [] X.env))) := by rfl) : PE X (.Call (.Attribute o m apos) [] [] pos) (uMeth0 C m sp ta) := by
  obtain ⟨f, fd, ps, F, hc, hmm, b⟩ := c.ex
  have q : uMeth0 C m sp ta = tMeth C m sp [] E0 ta tNil := by
    funext σ H Q
    unfold uMeth0 tMeth tNil
    rw [onR_eq]
    congr 1
    funext x H1
    apply propext
    constructor
    · rintro ⟨a, rfl, dx, fs, h1, h2, h3⟩
      exact ⟨a, dx, fs, rfl, h1, h2, h3⟩
    · rintro ⟨a, dx, fs, rfl, h1, h2, h3⟩
      exact ⟨a, rfl, dx, fs, h1, h2, h3⟩
  rw [q]
  exact pe_meth0 (pl := pl) ho hc hmm F (hr.mono hk) b .nil passL htr
/-- C(..): what it lets out goes to W -/
def uMake (C : Addr) (sp : Sp) (E : XK) (t : TA) : TE := fun σ H Q => t σ H fun vs H1 => ∀ x dx, H1 x = none → H1 dx = none → dx ≠ x → sp (.ref x :: vs) (upd (upd H1 dx (.own x)) x (.ins C dx [])) (fun v H2 => v = .non ∧ Q (.ref x) H2) E
theorem u_make (c : CalC X.prog X.w X.K X.mg X.base k x C sp) (hr : Room j X.A) (hk : k + 1 ≤ j) (ha : PA X (e :: ers) t) (hg : Gl X x := by rfl)
    (hnd : (x == ("__debug__" : Str)) = false := by decide) (hstar : starEach (e :: ers) X.env = (false, eval e X.env) :: starEach ers X.env := by rfl) (hspl : (backTo pos (starEach ers X.env)).any (·.1) = false := by rfl) :
    PE X (.Call (.Name x p) (e :: ers) [] pos) (uMake C sp E0 t) := by
  obtain ⟨f, fd, ps, F, hmm, M, b⟩ := c.ex
  refine PE.cast (pe_make M F (hr.mono hk) hg hmm b .nil passL ha hnd hstar hspl) fun σ H Q h => ?_
  unfold uMake at h
  unfold tMake
  simp only [List.append_nil]
  exact h
end
end K90
namespace K90
open PySem PySem.Spec PyProof.Rows L2 RT RZ
theorem crc {X : Cx} {f : Value} {r r' : List V → Hp → VK → Prop} (h : CallR X f r) (q : ∀ xs H Q, r' xs H Q → r xs H Q) : CallR X f r' := fun pins s σ H xs us Q I rv w => h pins s σ H xs us Q I rv (q xs H Q w)
theorem mrc {X : Cx} {id : String} {r r' : V → List V → Hp → VK → Prop} (h : MtR X id r) (q : ∀ x xs H Q, r' x xs H Q → r x xs H Q) : MtR X id r' := fun pins s σ H x xs v us Q I rx rv w => h pins s σ H x xs v us Q I rx rv (q x xs H Q w)
/-! ### built-in functions -/
def kLen (K : PySem.W.Frag) : List V → Hp → VK → Prop := fun vs H Q => match vs with
  | [.ref a] => ∃ xs, (SqL K H a xs ∨ SqT K H a xs) ∧ Q (.int xs.length) H
  | [.str z] => z.length ≤ sizeLine ∧ Q (.int z.length) H
  | _ => False
def kIsi (K : PySem.W.Frag) : List V → Hp → VK → Prop := fun vs H Q => match vs with
  | [x, .ty T] => ∃ t b, TyX K H x (.type t) ∧ kitB t T = some b ∧ Q (.bl b) H
  | _ => False
def k1I (g : Int → V) : List V → Hp → VK → Prop := fun vs H Q => match vs with
  | [.int i] => Q (g i) H
  | _ => False
def k2I (g : Int → Int → V) : List V → Hp → VK → Prop := fun vs H Q => match vs with
  | [.int i, .int j] => Q (g i j) H
  | _ => False
def kInt : List V → Hp → VK → Prop := fun vs H Q => match vs with
  | [.int i] => Q (.int i) H
  | [.bl k] => Q (.int (if k then 1 else 0)) H
  | _ => False
def kList (K : PySem.W.Frag) : List V → Hp → VK → Prop := fun vs H Q => match vs with
  | [.ref p] => ∃ ys, (SqL K H p ys ∨ SqT K H p ys) ∧ ∀ l, H l = none → Q (.ref l) (upd H l (.lst ys))
  | _ => False
def kTuple (K : PySem.W.Frag) : List V → Hp → VK → Prop := fun vs H Q => match vs with
  | [.ref p] => ∃ ys, SqL K H p ys ∧ ∀ l, H l = none → Q (.ref l) (upd H l (.tup ys))
  | _ => False
def kDivmod : List V → Hp → VK → Prop := fun vs H Q => match vs with
  | [.int i, .int j] => CDivP i j ∧ ∀ p, H p = none → Q (.ref p) (upd H p (.tup [.int (i / j), .int (i % j)]))
  | _ => False
def kSum (K : PySem.W.Frag) : List V → Hp → VK → Prop := fun vs H Q => match vs with
  | [.ref a] => ∃ ns : List Int, SqL K H a (ns.map V.int) ∧ Q (.int ns.sum) H
  | _ => False
def kMin (K : PySem.W.Frag) : List V → Hp → VK → Prop := fun vs H Q => match vs with
  | [.ref a] => ∃ ns : List Int, SqL K H a (ns.map V.int) ∧ 0 < ns.length ∧ ∀ m, m ∈ ns → (∀ y, y ∈ ns → m ≤ y) → Q (.int m) H
  | _ => False
def kAll (K : PySem.W.Frag) : List V → Hp → VK → Prop := fun vs H Q => match vs with
  | [.ref a] => ∃ bs : List Bool, SqL K H a (bs.map V.bl) ∧ Q (.bl (bs.all id)) H
  | _ => False
def kAny (K : PySem.W.Frag) : List V → Hp → VK → Prop := fun vs H Q => match vs with
  | [.ref a] => ∃ bs : List Bool, SqL K H a (bs.map V.bl) ∧ Q (.bl (bs.any id)) H
  | _ => False
section
variable {X : Cx}
theorem c_len : CallR X (.builtin "len") (kLen X.K) := fun pins s σ H xs us Q I rv h => by
  unfold kLen at h
  split at h
  · obtain ⟨ys, h1, h2⟩ := h
    exact call_len_seq pins s σ H _ us Q I rv ⟨_, ys, rfl, h1, h2⟩
  · exact call_len pins s σ H _ us Q I rv ⟨_, _, rfl, ⟨h.1, rfl⟩, h.2⟩
  · exact h.elim
theorem c_isi : CallR X (.builtin "isinstance") (kIsi X.K) := crc call_isi fun xs H Q h => by
  unfold kIsi at h
  split at h
  · obtain ⟨t, b, h1, h2, h3⟩ := h
    exact ⟨_, _, _, _, b, rfl, .ty _, h1, kit_ty h2, h3⟩
  · exact h.elim
theorem c_abs : CallR X (.builtin "abs") (k1I fun i => .int (if i < 0 then -i else i)) := crc call_abs fun xs H Q h => by
  unfold k1I at h
  split at h
  · exact ⟨_, rfl, h⟩
  · exact h.elim
theorem c_max2 (hc : X.calm = true := by rfl) : CallR X (.builtin "max") (k2I fun i j => .int (if j > i then j else i)) := crc (call_max2 hc) fun xs H Q h => by
  unfold k2I at h
  split at h
  · exact ⟨_, _, rfl, h⟩
  · exact h.elim
theorem c_min2 (hc : X.calm = true := by rfl) : CallR X (.builtin "min") (k2I fun i j => .int (if j < i then j else i)) := crc (call_min2 hc) fun xs H Q h => by
  unfold k2I at h
  split at h
  · exact ⟨_, _, rfl, h⟩
  · exact h.elim
theorem c_int : CallR X (.type "int") kInt := crc call_int1 fun xs H Q h => by
  unfold kInt at h
  split at h
  · exact .inl ⟨_, rfl, h⟩
  · exact .inr ⟨_, rfl, h⟩
  · exact h.elim
theorem c_list : CallR X (.type "list") (kList X.K) := crc call_list_of fun xs H Q h => by
  unfold kList at h
  split at h
  · obtain ⟨ys, h1, h2⟩ := h
    exact ⟨_, ys, rfl, h1, h2⟩
  · exact h.elim
theorem c_tuple : CallR X (.type "tuple") (kTuple X.K) := crc call_tuple_of fun xs H Q h => by
  unfold kTuple at h
  split at h
  · obtain ⟨ys, h1, h2⟩ := h
    exact ⟨_, ys, rfl, .inl ⟨h1, h2⟩⟩
  · exact h.elim
theorem c_divmod : CallR X (.builtin "divmod") kDivmod := crc call_divmodW fun xs H Q h => by
  unfold kDivmod at h
  split at h
  · exact ⟨_, _, rfl, h⟩
  · exact h.elim
theorem c_sum (hc : X.calm = true := by rfl) : CallR X (.builtin "sum") (kSum X.K) := crc (cr_sum hc) fun xs H Q h => by
  unfold kSum at h
  split at h
  · obtain ⟨ns, h⟩ := h
    exact ⟨_, ns, rfl, h⟩
  · exact h.elim
theorem c_min (hc : X.calm = true := by rfl) : CallR X (.builtin "min") (kMin X.K) := crc (cr_min hc) fun xs H Q h => by
  unfold kMin at h
  split at h
  · obtain ⟨ns, h⟩ := h
    exact ⟨_, ns, rfl, h⟩
  · exact h.elim
theorem c_all (hc : X.calm = true := by rfl) : CallR X (.builtin "all") (kAll X.K) := crc (cr_all hc) fun xs H Q h => by
  unfold kAll at h
  split at h
  · obtain ⟨ns, h⟩ := h
    exact ⟨_, ns, rfl, h⟩
  · exact h.elim
theorem c_any (hc : X.calm = true := by rfl) : CallR X (.builtin "any") (kAny X.K) := crc (cr_any hc) fun xs H Q h => by
  unfold kAny at h
  split at h
  · obtain ⟨ns, h⟩ := h
    exact ⟨_, ns, rfl, h⟩
  · exact h.elim
end
/-! ### methods of a list -/
def uAppend : V → List V → Hp → VK → Prop := fun x vs H Q => match x, vs with
  | .ref l, [y] => ∃ xs, H l = some (.lst xs) ∧ xs.length < sizeLine ∧ Q .non (upd H l (.lst (xs ++ [y])))
  | _, _ => False
def uExtend : V → List V → Hp → VK → Prop := fun x vs H Q => match x, vs with
  | .ref l, [.ref b] => ∃ xs zs, H l = some (.lst xs) ∧ H b = some (.lst zs) ∧ xs.length + zs.length ≤ sizeLine ∧ Q .non (upd H l (.lst (xs ++ zs)))
  | _, _ => False
def uPop : V → List V → Hp → VK → Prop := fun x vs H Q => match x, vs with
  | .ref l, [.int i] => ∃ xs k y, H l = some (.lst xs) ∧ -(2 ^ 63) ≤ i ∧ i < 2 ^ 63 ∧ seqIndex? i xs.length = some k ∧ xs[k]? = some y ∧ Q y (upd H l (.lst (xs.eraseIdx k)))
  | _, _ => False
def uInsert : V → List V → Hp → VK → Prop := fun x vs H Q => match x, vs with
  | .ref l, [.int i, y] => ∃ xs, H l = some (.lst xs) ∧ xs.length < sizeLine ∧ 0 ≤ i ∧ i < 2 ^ 63 ∧ Q .non (upd H l (.lst (xs.take i.toNat ++ [y] ++ xs.drop i.toNat)))
  | _, _ => False
section
variable {X : Cx}
theorem m_append : MtR X "list.append" uAppend := mrc mt_append fun x xs H Q h => by
  unfold uAppend at h
  split at h
  · obtain ⟨ys, h⟩ := h
    exact ⟨_, ys, _, rfl, rfl, h⟩
  · exact h.elim
theorem m_extend : MtR X "list.extend" uExtend := mrc mt_extend fun x xs H Q h => by
  unfold uExtend at h
  split at h
  · obtain ⟨ys, zs, h⟩ := h
    exact ⟨_, _, ys, zs, rfl, rfl, h⟩
  · exact h.elim
theorem m_pop : MtR X "list.pop" uPop := mrc mt_popAt fun x xs H Q h => by
  unfold uPop at h
  split at h
  · obtain ⟨ys, k, y, h⟩ := h
    exact ⟨_, ys, _, k, y, rfl, rfl, h⟩
  · exact h.elim
theorem m_insert : MtR X "list.insert" uInsert := mrc mt_insert fun x xs H Q h => by
  unfold uInsert at h
  split at h
  · obtain ⟨ys, h⟩ := h
    exact ⟨_, ys, _, _, rfl, rfl, h⟩
  · exact h.elim
end
theorem ty_l {K : PySem.W.Frag} {H : Hp} {l : Addr} {xs : List V} (h : H l = some (.lst xs)) : tyV K "list" (.ref l) H := Or.inl ⟨rfl, _, SqL.of h⟩
/-! ### other operators -/
section
variable {X : Cx}
def uIs (neg : Bool) : R2 := fun x y H Q => match y with
  | .non => Q (.bl (neg != decide (x = .non))) H
  | _ => False
theorem o_is : OpR X (compareOp .Is) (uIs false) := opc op_isN fun x y H Q h => by
  unfold uIs at h
  split at h
  · exact ⟨rfl, by simpa using h⟩
  · exact h.elim
theorem o_isnot : OpR X (compareOp .IsNot) (uIs true) := opc op_notN fun x y H Q h => by
  unfold uIs at h
  split at h
  · exact ⟨rfl, by simpa using h⟩
  · exact h.elim
/-- one sign in a text -/
def uInS : R2 := fun x y H Q => match x, y with
  | .str c, .str z => ∃ n, c = ⟨#[n]⟩ ∧ Q (.bl (decide (n ∈ z.cps.toList))) H
  | _, _ => False
theorem o_inS : OpR X (compareOp .In) uInS := opc op_in_sign fun x y H Q h => by
  unfold uInS at h
  split at h
  · obtain ⟨n, rfl, h⟩ := h
    exact ⟨n, _, rfl, rfl, h⟩
  · exact h.elim
/-- a flat thing in a list of such -/
def uInL (K : PySem.W.Frag) : R2 := fun x y H Q => match y with
  | .ref p => ∃ xs, SqL K H p xs ∧ flatV x = true ∧ xs.all flatV = true ∧ Q (.bl (inV x xs)) H
  | _ => False
theorem o_inL : OpR X (compareOp .In) (uInL X.K) := opc op_in_seq fun x y H Q h => by
  unfold uInL at h
  split at h
  · obtain ⟨xs, h1, h2, h3, h4⟩ := h
    exact ⟨_, xs, rfl, .inl h1, h2, h3, h4⟩
  · exact h.elim
theorem o_inD (hu : X.A.units + 65 < cLine) : OpR X (compareOp .In) (rInD X.K) := op_inD hu
/-- x += y: ints, texts -/
def uIadd : R2 := fun x y H Q => match x, y with
  | .int i, .int j => Q (.int (i + j)) H
  | .str i, .str j => i.length + j.length ≤ sizeLine ∧ Q (.str (i ++ j)) H
  | _, _ => False
theorem o_iaddU : OpR X (inplaceOp .Add) uIadd := opc (OpR.or iop_add iop_add_str) fun x y H Q h => by
  unfold uIadd at h
  split at h
  · exact .inl ⟨_, _, rfl, rfl, h⟩
  · exact .inr ⟨_, _, rfl, rfl, h⟩
  · exact h.elim
end
/-! ### fields, dicts, op= -/
section
variable {X : Cx} {o e a b : Expr} {ers : List Expr} {to te ta tb tv : TE} {t : TA} {name f : Str} {apos cpos pos pos' : Pos}
/-- o.f -/
def uFld (K : PySem.W.Frag) (ta : TE) (f : Str) : TE := fun σ H Q => ta σ H (onR fun a H1 => ∃ C dx fs v, H1 a = some (.ins C dx fs) ∧ Cls K C ∧ NoAttr K C f ∧ fs.lookup f = some v ∧ Q v H1)
theorem u_fld (he : PE X e ta) (hb : attributeBase e f X.env (eval e X.env) = eval e X.env) : PE X (.Attribute e f pos) (uFld X.K ta f) := by
  have q : uFld X.K ta f = tFld X.K ta f := by
    funext σ H Q
    unfold uFld tFld
    rw [onR_eq]
    congr 1
    funext x H1
    apply propext
    constructor
    · rintro ⟨a, rfl, C, dx, fs, v, h⟩
      exact ⟨a, C, dx, fs, v, rfl, h⟩
    · rintro ⟨a, C, dx, fs, v, rfl, h⟩
      exact ⟨a, rfl, C, dx, fs, v, h⟩
  rw [q]
  exact pe_fld he hb
/-- o.f = v -/
def uFldS (K : PySem.W.Frag) (ta tv : TE) (f : Str) : TS := fun D σ H => tv σ H fun y H1 => ta σ H1 (onR fun a H2 => ∃ C dx fs, H2 a = some (.ins C dx fs) ∧ Cls K C ∧ NoAttr K C f ∧ fs.length < 1000 ∧ D.nx σ (upd H2 a (.ins C dx (putF f y fs))))
theorem us_fld {value : Expr} (ha : PE X o ta) (hv : PE X value tv) (hs : swapsWith value (some (.Attribute o f pos')) pos.line X.env = pure false) : PS X (.Assign [.Attribute o f pos'] value pos) (uFldS X.K ta tv f) := by
  have q : uFldS X.K ta tv f = sFld X.K ta tv f := by
    funext D σ H
    unfold uFldS sFld
    congr 1
    funext y H1
    rw [onR_eq]
    congr 1
    funext x H2
    apply propext
    constructor
    · rintro ⟨a, rfl, C, dx, fs, h⟩
      exact ⟨a, C, dx, fs, rfl, h⟩
    · rintro ⟨a, C, dx, fs, rfl, h⟩
      exact ⟨a, rfl, C, dx, fs, h⟩
  rw [q]
  exact ps_fld ha hv hs
end
theorem dget_t {H : Hp} {d : Addr} {kvs : List (Key × V)} {k : Str} {v : V} (h : H d = some (.dK kvs)) (hv : valV kvs (Sum.inr k) = some v) : DGet H d (.str k) (some v) := .inl ⟨kvs, Sum.inr k, .inl h, rfl, hv.symm⟩
theorem dput_t {H : Hp} {d : Addr} {kvs : List (Key × V)} {k : Str} {v : V} (h : H d = some (.dK kvs)) (hl : kvs.length < sizeLine) : DPut H d (.str k) v (upd H d (.dK (putK kvs (Sum.inr k) v))) := .inl ⟨kvs, Sum.inr k, h, rfl, hl, rfl⟩
section
variable {X : Cx} {o e a b : Expr} {ers : List Expr} {to te ta tb tv : TE} {t : TA} {name f : Str} {apos cpos pos pos' p p1 p2 : Pos}
def uAug (i : Nat) (te : TE) (ti : R2) : TS := fun D σ H => match slot σ i with
  | some x => te σ H fun y H1 => ti x y H1 fun z H2 => D.nx (σ.set i (some z)) H2
  | none => False
theorem us_aug {i : Nat} {x : Str} {op : Operator} {ti : R2} (hN : X.N.Nodup) (hi : X.N[i]? = some x) (hx : Loc X.env.scope x) (he : PE X e te) (ho : OpR X (inplaceOp op) ti) (hf : X.fn x = true ∨ X.env.scope.names.lookup x = some .local := by first | exact .inl rfl | exact .inr rfl | assumption) :
    PS X (.AugAssign (.Name x pos') op e pos) (uAug i te ti) := PS.cast (ps_aug hN hi hx he ho hf) fun D σ H h => by
  unfold uAug at h
  cases q : slot σ i with
  | none =>
    rw [q] at h
    exact h.elim
  | some v =>
    rw [q] at h
    exact ⟨v, slot_get q, h⟩
/-- sep.join(xs), xs a list of texts -/
def kJoin : V → List V → Hp → VK → Prop := fun x xs H Q => match x, xs with
  | .str a, [.ref p] => ∃ ys : List Str, H p = some (.lst (ys.map V.str)) ∧ (ys.map (·.length)).sum + ys.length * a.length ≤ 16777216 ∧ Q (.str (Txt.join a ys)) H
  | _, _ => False
theorem mt_joinU : MtR X "str.join" kJoin := mrc mt_join fun x xs H Q h => by
  unfold kJoin at h
  split at h
  · obtain ⟨ys, h1, h2, h3⟩ := h
    exact ⟨_, _, ys, rfl, rfl, .inl (SqL.of h1), h2, h3⟩
  · exact h.elim
theorem u_join (ho : PE X o to) (he : PE X e te) (hs : starEach [e] X.env = [(false, eval e X.env)] := by rfl) (hba : attributeBase o "join" X.env (eval o X.env) = eval o X.env := by rfl) (hli : (apos.endLine == pos.line) = true := by rfl) :
    PE X (.Call (.Attribute o "join" apos) [e] [] pos) (tM1 kJoin to te) := pe_m1 PySem.F.slot_str_join PySem.F.type_str_join mt_joinU ho he hs hba hli
/-- a text's sign's place -/
def kIdxS : V → List V → Hp → VK → Prop := fun x xs H Q => match x, xs with
  | .str a, [.str b] => ∃ k : Nat, Txt.index0 a b = some k ∧ Q (.int k) H
  | _, _ => False
theorem mt_indexU (hc : X.calm = true) : MtS X "str.index" (fun _ x xs H Q => kIdxS x xs H Q) := fun pins s σ H x xs v us Q I rx rs h => by
  dsimp only at h
  unfold kIdxS at h
  split at h
  · obtain ⟨k, h1, h2⟩ := h
    refine mt_indexX (W := fun _ _ _ _ => False) hc takes0 pins s σ H _ _ v us Q I rx rs ⟨_, _, rfl, rfl, fun k' e => ?_, fun e => ?_⟩
    · rw [h1] at e
      cases e
      exact h2
    · rw [h1] at e
      cases e
  · exact h.elim
theorem u_indexS (ho : PE X o to) (ha : PA X (e :: ers) t) (hc : X.calm = true := by rfl)
    (hba : attributeBase o "index" X.env (eval o X.env) = eval o X.env := by rfl)
    (hfe : ((backTo cpos (starEach (e :: ers) X.env)).all (fun x => !x.1) && (backToKw cpos (keywordEach [] X.env)).all (fun x => x.1.isSome)
      && decide ((e :: ers).length + ([] : List Keyword).length + (if ([] : List Keyword).isEmpty then 0 else 1) < 30)) = true := by rfl)
    (hli : (apos.endLine == cpos.line) = true := by rfl) (hs : starEach (e :: ers) X.env = (false, eval e X.env) :: starEach ers X.env := by rfl) (hpla : (backTo cpos (starEach ers X.env)).any (·.1) = false := by rfl) :
    PE X (.Call (.Attribute o "index" apos) (e :: ers) [] cpos) (tBMS X.K "str" (fun _ x xs H Q => kIdxS x xs H Q) to t) := pe_bmS PySem.F.plainAttrs_str PySem.F.slot_str_index PySem.F.type_str_index (mt_indexU hc) ho ha hba hfe hli hs hpla
/-- a text's place in a tuple of texts -/
def kIdxT (K : PySem.W.Frag) : V → List V → Hp → VK → Prop := fun x xs H Q => match x, xs with
  | .ref p, [.str z] => ∃ (ys : List Str) (j : Nat), SqT K H p (ys.map V.str) ∧ ys[j]? = some z ∧ (∀ m, m < j → ys[m]? ≠ some z) ∧ Q (.int j) H
  | _, _ => False
theorem mt_indexT : MtR X "tuple.index" (kIdxT X.K) := mrc mt_tup_index fun x xs H Q h => by
  unfold kIdxT at h
  split at h
  · obtain ⟨ys, j, h⟩ := h
    exact ⟨_, ys, _, j, rfl, rfl, h⟩
  · exact h.elim
theorem u_indexT (ho : PE X o to) (ha : PA X (e :: ers) t)
    (hba : attributeBase o "index" X.env (eval o X.env) = eval o X.env := by rfl)
    (hfe : ((backTo cpos (starEach (e :: ers) X.env)).all (fun x => !x.1) && (backToKw cpos (keywordEach [] X.env)).all (fun x => x.1.isSome)
      && decide ((e :: ers).length + ([] : List Keyword).length + (if ([] : List Keyword).isEmpty then 0 else 1) < 30)) = true := by rfl)
    (hli : (apos.endLine == cpos.line) = true := by rfl) (hs : starEach (e :: ers) X.env = (false, eval e X.env) :: starEach ers X.env := by rfl) (hpla : (backTo cpos (starEach ers X.env)).any (·.1) = false := by rfl) :
    PE X (.Call (.Attribute o "index" apos) (e :: ers) [] cpos) (tBM X.K "tuple" (kIdxT X.K) to t) := pe_bm PySem.F.plainAttrs_tuple PySem.F.slot_tuple_index PySem.F.type_tuple_index mt_indexT ho ha hba hfe hli hs hpla
/-! ### BadBytes -/
/-- StoreError.__init__(self, ..) -/
theorem u_stinit {pl : Sem Bool} (B : BadTxt X.K) (hm : X.mg "StoreError" = some (.ref (SE X.K))) (ha : PA X (e :: ers) t) (hg : Gl X "StoreError" := by rfl)
    (hc : eval (.Call (.Attribute (.Name "StoreError" p1) "__init__" p2) (e :: ers) [] pos) X.env = (do
      let ov ← eval (.Name "StoreError" p1) X.env
      standAt p2.atName
      let (f, first) ← holding [ov] (getMethod ov "__init__" pl)
      callWith pos f first (backTo pos (starEach (e :: ers) X.env)) (backToKw pos (keywordEach [] X.env))) := by rfl)
    (he : starEach (e :: ers) X.env = (false, eval e X.env) :: starEach ers X.env := by rfl) (hpl : (backTo pos (starEach ers X.env)).any (·.1) = false := by rfl) :
    PE X (.Call (.Attribute (.Name "StoreError" p1) "__init__" p2) (e :: ers) [] pos) (tVeI X.K t) := by
  refine ⟨fun pins s σ H Q I h => ?_⟩
  refine PySem.W.methodCall_KW (ld_glob I hg hm ?_ (by decide)) hc
  refine PySem.W.method_cls I.kIn B.sga (PySem.W.cls_value I.kIn B.srd B.sin (by decide +kernel) ?_)
  show wpAny _ _ (callWith pos (Value.builtin "ValueError.__init__") [] (backTo pos (starEach (e :: ers) X.env)) []) _ _ _
  refine PyProof.Rows.callWith_method1 (thn (ha.run pos pins _ σ H _ (I.tok _) h) fun us s1 ⟨vs, H1, I1, r1, a, C, ws, ev, hl, O, ea, q⟩ => ?_) he hpl
  subst ev
  cases r1 with
  | @cons _ v0 _ vr ra rw' =>
    obtain rfl : v0 = Value.ref a := ra
    have hle : vr.length ≤ sizeLine := by
      rw [← Paired.length rw', sizeLine_eq]
      omega
    exact oinit_ok O I1 ea hle fun s' J => ⟨.non, H1, J, rfl, q⟩
end
end K90
namespace K90
open PySem PySem.Spec PyProof.Rows L2 RT RZ
section
variable {P : Program} {w : World} {K : PySem.W.Frag} {mg : Str → Option Value} {base : Heap}
theorem calM_mk {m qual : Str} {pa : Arguments} {bd : List Stmt} {sc : Scope} {C f : Addr} {fd : FuncData} {N ps : List Str} {k : Nat} {sp : Sp} (hc : Cls K C) (hm : Meth K C m f) (F : FunD K m qual pa bd sc [] [] f fd) (S : FnScope N ps sc)
    (hb : ∀ (kV doc pm : Value) (an : Option Addr) (cdv ct : Value) (us : List Value), us.length = ps.length → bindArgs (PySem.W.fnOf m qual pa bd sc .none kV doc pm an cdv ct) ⟨us, []⟩ = pure (ps.zip us))
    (len : ∀ vs H Q E, sp vs H Q E → vs.length = ps.length)
    (body : ∀ (cdv : Value) (A : Around) (outer : List Env) (s : Shared) (H : Hp) (vs : List V) (Q : VK) (E : XK), Room k (A.deeper (envOfC qual sc s.heap.objs.size f cdv)) → sp vs H Q E →
      ∃ t, PSs (cxOf (L2.CX P w) P w K mg base N qual sc f cdv A outer s H E) bd t ∧ t { nx := fun _ H' => Q .non H', rt := Q } (start N vs) H) : CalM P w K mg base (k + 1) C m sp :=
  ⟨f, fd, ps, F.ok S len body, hc, hm, F.bindsN hb⟩
theorem calC_mk {x qual : Str} {pa : Arguments} {bd : List Stmt} {sc : Scope} {C f : Addr} {fd : FuncData} {N ps : List Str} {k : Nat} {sp : Sp} (hx : mg x = some (.ref C)) (M : Mk K C f) (F : FunD K "__init__" qual pa bd sc [] [] f fd) (S : FnScope N ps sc)
    (hb : ∀ (kV doc pm : Value) (an : Option Addr) (cdv ct : Value) (us : List Value), us.length = ps.length → bindArgs (PySem.W.fnOf "__init__" qual pa bd sc .none kV doc pm an cdv ct) ⟨us, []⟩ = pure (ps.zip us))
    (len : ∀ vs H Q E, sp vs H Q E → vs.length = ps.length)
    (body : ∀ (cdv : Value) (A : Around) (outer : List Env) (s : Shared) (H : Hp) (vs : List V) (Q : VK) (E : XK), Room k (A.deeper (envOfC qual sc s.heap.objs.size f cdv)) → sp vs H Q E →
      ∃ t, PSs (cxOf (L2.CX P w) P w K mg base N qual sc f cdv A outer s H E) bd t ∧ t { nx := fun _ H' => Q .non H', rt := Q } (start N vs) H) : CalC P w K mg base (k + 1) x C sp :=
  ⟨f, fd, ps, F.ok S len body, hx, M, F.bindsN hb⟩
/-! ### BadBytes.__init__ -/
/-- self: an exception just made; behind it stands its own dict -/
def sp_BadBytes_init (K : PySem.W.Frag) : Sp := fun vs H Q E => match vs with
  | [.ref a, .str _] => H a = some (exo a (CB K) none) ∧ ∀ (d : Addr) (fs : List (Str × V)) (H' : Hp), H d = none → d ≠ a → H' a = some (exo a (CB K) (some d)) → H' d = some (exd d fs) → (∀ b, b ≠ a → b ≠ d → H' b = H b) → Q .non H'
  | _ => False
theorem sc_BadBytes_init : FnScope ["self", "why"] ["self", "why"] (defScope s_BadBytes_init) := ⟨rfl, rfl, rfl, by decide +kernel, rfl, by decide +kernel, by decide +kernel⟩
structure CalB (P : Program) (w : World) (K : PySem.W.Frag) (mg : Str → Option Value) (base : Heap) (k : Nat) : Prop where
  ex : ∃ (fd : FuncData) (ps : List Str), FnOk P w K mg base (L2.CX P w) k (fIni K) fd ps (sp_BadBytes_init K) ∧ Binds K fd ps []
theorem ok_BadBytes (T : Txt K mg) : CalB P w K mg base 1 := by
  obtain ⟨fd, F⟩ := D_BadBytes_init T
  have B := bad_txt T
  refine ⟨fd, ["self", "why"], F.ok (k := 0) sc_BadBytes_init (fun vs H Q E h => ?len) (fun cdv A outer s H vs Q E hr h => ⟨_,
(pss_cons (ps_expr (u_stinit (bad_txt T) (gc_StoreError T) (pa_cons (uv 0) (pa_cons pe_str pa_nil))))
      (pss_one (ps_ost (uv 0) (uv 1))))
    , ?body⟩), F.bindsN (fun _ _ _ _ _ _ us hl => match us, hl with | [_, _], _ => rfl)⟩
  case len => unfold sp_BadBytes_init at h; (split at h) <;> first | rfl | exact h.elim
  case body =>
    unfold sp_BadBytes_init at h
    split at h
    · rename_i a z
      obtain ⟨h1, h2⟩ := h
      refine ⟨a, CB K, [.str "bytes that are none"], rfl, by decide, B.oex, h1, ?_⟩
      refine ⟨a, CB K, rfl, B.oex, B.why, .inl ⟨h1, fun dx hd ne => ?_⟩⟩
      refine h2 dx [("why", V.str z)] _ hd ne upd_same ?_ fun b hb hd => ?_
      · rw [upd_ne ne]
        exact upd_same
      · rw [upd_ne hb, upd_ne hd]
    · exact h.elim
end
/-- raise BadBytes('..') -/
theorem us_bad {X : Cx} {W : WX} {m : Str} {j k : Nat} {p pos pos2 : Pos} {c : Nat} {pc : Pos} (T : Txt X.K X.mg) (B : CalB X.prog X.w X.K X.mg X.base k) (hr : Room j X.A) (hk : k + 1 ≤ j) (tk : Takes X W) (hg : Gl X "BadBytes" := by rfl) (hc : X.calm = true := by rfl)
    (he : starEach [.Constant (.str m) c pc] X.env = (false, eval (.Constant (.str m) c pc) X.env) :: starEach [] X.env := by rfl) :
    PS X (.Raise (some (.Call (.Name "BadBytes" p) [.Constant (.str m) c pc] [] pos)) none pos2) (fun _ σ H => ∀ d H', Same H H' → W (.ref (CB X.K)) (some d) σ H') := by
  obtain ⟨fd, ps, F, b⟩ := B.ex
  have O := bad_txt T
  refine PS.cast (ps_raise hc tk (pmk_oex O.oex O.ini O.tin F (hr.mono hk) b .nil passL hg (gc_BadBytes T) (pa_cons pe_str pa_nil he) (by decide) he)) fun D σ H h => ?_
  show (1 ≤ 1000 ∧ _)
  refine ⟨by decide, fun a ha => ?_⟩
  show _ ∧ _
  refine ⟨upd_same, fun d fs H' hd ne e1 e2 e3 => ⟨rfl, d, fs, e1, e2, ?_, h d _ fun x o e => ?_⟩⟩
  · rw [upd_ne ne] at hd
    exact hd
  · have hxa : x ≠ a := ne_of_none e ha
    have hxd : x ≠ d := fun z => by
      rw [upd_ne ne, ← z, e] at hd
      cases hd
    rw [upd_ne hxd, del_ne hxa, e3 x hxa hxd, upd_ne hxa]
    exact e
end K90
/-! The same rules with the fragment named apart: inside a comprehension the turn's context is another than the def's. -/
namespace K90
open PySem PySem.Spec PyProof.Rows L2 RT RZ
section
variable {X : Cx} {K : PySem.W.Frag}
theorem q_len (hK : X.K = K := by rfl) : CallR X (.builtin "len") (kLen K) := hK ▸ c_len
theorem q_isi (hK : X.K = K := by rfl) : CallR X (.builtin "isinstance") (kIsi K) := hK ▸ c_isi
theorem q_list (hK : X.K = K := by rfl) : CallR X (.type "list") (kList K) := hK ▸ c_list
theorem q_tuple (hK : X.K = K := by rfl) : CallR X (.type "tuple") (kTuple K) := hK ▸ c_tuple
theorem q_any (hc : X.calm = true := by rfl) (hK : X.K = K := by rfl) : CallR X (.builtin "any") (kAny K) := hK ▸ c_any hc
theorem q_all (hc : X.calm = true := by rfl) (hK : X.K = K := by rfl) : CallR X (.builtin "all") (kAll K) := hK ▸ c_all hc
theorem q_seq (hK : X.K = K := by rfl) : IxR X (uIx K) := hK ▸ i_seq
theorem q_sl (hK : X.K = K := by rfl) : SlR X (uSl K) := hK ▸ s_seq
theorem q_inL (hK : X.K = K := by rfl) : OpR X (compareOp .In) (uInL K) := hK ▸ o_inL
theorem q_tup {pos : Pos} {ers : List Expr} {k : Nat} {t : TGs} {n : Nat} (hc : X.calm = true) (h : PGs X ers t) (hn : (assignEach ers X.env).length = n := by rfl) (hst : (assignEach ers X.env).findIdx? (·.1) = none := by rfl) (hK : X.K = K := by rfl) : PG X (.Tuple ers k pos) (hTup K n t) := hK ▸ hg_tup hc h hn hst
def tIdxS (to : TE) (t : TA) : TE := fun σ H Q => to σ H fun x H1 => match x with
  | .str z => t σ H1 fun xs H2 => kIdxS (.str z) xs H2 Q
  | _ => False
variable {o e : Expr} {ers : List Expr} {to : TE} {t : TA} {apos cpos : Pos}
theorem q_indexS (ho : PE X o to) (ha : PA X (e :: ers) t) (hc : X.calm = true := by rfl)
    (hba : attributeBase o "index" X.env (eval o X.env) = eval o X.env := by rfl)
    (hfe : ((backTo cpos (starEach (e :: ers) X.env)).all (fun x => !x.1) && (backToKw cpos (keywordEach [] X.env)).all (fun x => x.1.isSome)
      && decide ((e :: ers).length + ([] : List Keyword).length + (if ([] : List Keyword).isEmpty then 0 else 1) < 30)) = true := by rfl)
    (hli : (apos.endLine == cpos.line) = true := by rfl) (hs : starEach (e :: ers) X.env = (false, eval e X.env) :: starEach ers X.env := by rfl) (hpla : (backTo cpos (starEach ers X.env)).any (·.1) = false := by rfl) :
    PE X (.Call (.Attribute o "index" apos) (e :: ers) [] cpos) (tIdxS to t) := by
  have q : tIdxS to t = tBMS X.K "str" (fun _ x xs H Q => kIdxS x xs H Q) to t := by
    funext σ H Q
    unfold tIdxS tBMS
    congr 1
    funext x H1
    apply propext
    constructor
    · intro h
      split at h
      · exact ⟨rfl, h⟩
      · exact h.elim
    · rintro ⟨h1, h2⟩
      cases x with
      | str z => exact h2
      | ref p => rcases h1 with h | h | h | h <;> exact absurd h.1 (by decide)
      | int i => exact absurd (show "str" = "int" from h1) (by decide)
      | _ => exact h1.elim
  rw [q]
  exact u_indexS ho ha hc hba hfe hli hs hpla
def tIdxT (K : PySem.W.Frag) (to : TE) (t : TA) : TE := fun σ H Q => to σ H fun x H1 => tyV K "tuple" x H1 ∧ t σ H1 fun xs H2 => kIdxT K x xs H2 Q
theorem q_indexT (ho : PE X o to) (ha : PA X (e :: ers) t) (hK : X.K = K := by rfl)
    (hba : attributeBase o "index" X.env (eval o X.env) = eval o X.env := by rfl)
    (hfe : ((backTo cpos (starEach (e :: ers) X.env)).all (fun x => !x.1) && (backToKw cpos (keywordEach [] X.env)).all (fun x => x.1.isSome)
      && decide ((e :: ers).length + ([] : List Keyword).length + (if ([] : List Keyword).isEmpty then 0 else 1) < 30)) = true := by rfl)
    (hli : (apos.endLine == cpos.line) = true := by rfl) (hs : starEach (e :: ers) X.env = (false, eval e X.env) :: starEach ers X.env := by rfl) (hpla : (backTo cpos (starEach ers X.env)).any (·.1) = false := by rfl) :
    PE X (.Call (.Attribute o "index" apos) (e :: ers) [] cpos) (tIdxT K to t) := by
  subst hK
  exact u_indexT ho ha hba hfe hli hs hpla
end
end K90
/-! min and max with default=, min with key=len. -/
namespace K90
open PySem PySem.Spec PyProof.Rows L2 RT RZ
open PySem.W (alike min_list_default max_list_default minD_ints maxD_ints AlikeAll iter_listW moved_old reads_keeps minD maxD)
/-- min(xs, default=d), max(xs, default=d) of ints, of texts -/
def kMD (K : PySem.W.Frag) (g : List Int → Int) : List V → List V → Hp → VK → Prop := fun vs zvs H Q => match vs, zvs with
  | [.ref a], [d] => ∃ xs, SqL K H a xs ∧ ((∃ ns : List Int, xs = ns.map V.int ∧ Q (if ns = [] then d else .int (g ns)) H) ∨ ∃ ys : List Str, xs = ys.map V.str ∧ (ys = [] → Q d H) ∧ ∀ y ∈ ys, Q (.str y) H)
  | _, _ => False
theorem dp_strs {K : PySem.W.Frag} {H : Hp} : ∀ xs : List Str, DpAll K H (xs.map V.str) (xs.map PyData.str)
  | [] => .nil
  | x :: r => .cons (.str x) (dp_strs r)
theorem dep_strs : ∀ xs : List Str, PyData.depthAll (xs.map PyData.str) = 0
  | [] => rfl
  | x :: r => by
    have ih := dep_strs r
    simp only [List.map_cons, PyData.depthAll, PyData.depth, ih, Nat.max_self]
theorem al_ints (ns : List Int) : AlikeAll (ns.map PyData.int) := by
  refine ⟨fun x hx y hy => ?_, fun x hx => ?_⟩
  · obtain ⟨a, _, rfl⟩ := List.mem_map.mp hx
    obtain ⟨b, _, rfl⟩ := List.mem_map.mp hy
    simp [alike]
  · obtain ⟨a, _, rfl⟩ := List.mem_map.mp hx
    exact fun z => nomatch z
theorem al_strs (ns : List Str) : AlikeAll (ns.map PyData.str) := by
  refine ⟨fun x hx y hy => ?_, fun x hx => ?_⟩
  · obtain ⟨a, _, rfl⟩ := List.mem_map.mp hx
    obtain ⟨b, _, rfl⟩ := List.mem_map.mp hy
    simp [alike]
  · obtain ⟨a, _, rfl⟩ := List.mem_map.mp hx
    exact fun z => nomatch z
theorem vals_at : ∀ {xs : List V} {us : List Value} {i : Nat} {u : Value}, Vals xs us → us[i]? = some u → ∃ x, xs[i]? = some x ∧ RelV x u
  | _, _, _, _, .nil, eq => by simp at eq
  | _, _, 0, _, .cons rel _, eq => by
    simp at eq
    subst eq
    exact ⟨_, rfl, rel⟩
  | _, _, i + 1, _, .cons _ t, e => by
    obtain ⟨x, h1, h2⟩ := vals_at (i := i) t (by simpa using e)
    exact ⟨x, by simpa using h1, h2⟩
section
variable {X : Cx} {K : PySem.W.Frag}
theorem c_minD (hu : X.A.units + 64 < cLine) (hc : X.calm = true := by rfl) (hK : X.K = K := by rfl) : CallRK X (.builtin "min") ["default"] (kMD K minL) := by
  subst hK
  intro pins s σ H vs zvs us ws Q I r rzz h
  unfold kMD at h
  split at h
  · rename_i a d
    obtain ⟨xs, hs, h⟩ := h
    obtain rfl := Vals.ref1 r
    obtain ⟨d', rfl, rd⟩ := vals1 rzz
    obtain ⟨itv, rv, hl, _⟩ := I.list hs
    rcases h with ⟨ns, rfl, h⟩ | ⟨y0s, rfl, h1, h2⟩
    · obtain ⟨as, ra⟩ := Dp.readsAll I _ _ _ (dp_ints ns) rv
      refine min_list_default (xs := ns.map PyData.int) (I.ok.hd hc) hl.isList (by simpa using ra) (al_ints ns) (by rw [dep_ints]; omega) (fun e h' tk hk => ?_) (fun y ys i v h' tk bs e hv hr hk => ?_)
      · have e : ns = [] := by simpa using e
        rw [if_pos e] at h
        exact ⟨d, H, I.kept hk, rd, h⟩
      · cases ns with
        | nil => cases e
        | cons n r =>
          injection e with e1 e2
          subst e1 e2
          rw [minD_ints] at hr
          rw [if_neg (by simp)] at h
          cases hr
          exact ⟨.int _, H, I.kept hk, ⟨_, rfl⟩, h⟩
    · obtain ⟨as, ra⟩ := Dp.readsAll I _ _ _ (dp_strs y0s) rv
      refine min_list_default (xs := y0s.map PyData.str) (I.ok.hd hc) hl.isList (by simpa using ra) (al_strs y0s) (by rw [dep_strs]; omega) (fun e h' tk hk => ?_) (fun y ys' i v h' tk bs e hv hr hk => ?_)
      · have e : y0s = [] := by simpa using e
        exact ⟨d, H, I.kept hk, rd, h1 e⟩
      · obtain ⟨z, hz, rzz⟩ := vals_at rv (show itv[i]? = some v by simpa using hv)
        rw [List.getElem?_map] at hz
        cases eq : (y0s)[i]? with
        | none =>
          rw [eq] at hz
          cases hz
        | some q =>
          rw [eq] at hz
          cases hz
          exact ⟨.str q, H, I.kept hk, rzz, h2 q (List.mem_of_getElem? eq)⟩
  · exact h.elim
theorem c_maxD (hu : X.A.units + 64 < cLine) (hc : X.calm = true := by rfl) (hK : X.K = K := by rfl) : CallRK X (.builtin "max") ["default"] (kMD K maxL) := by
  subst hK
  intro pins s σ H vs zvs us ws Q I r rzz h
  unfold kMD at h
  split at h
  · rename_i a d
    obtain ⟨xs, hs, h⟩ := h
    obtain rfl := Vals.ref1 r
    obtain ⟨d', rfl, rd⟩ := vals1 rzz
    obtain ⟨itv, rv, hl, _⟩ := I.list hs
    rcases h with ⟨ns, rfl, h⟩ | ⟨y0s, rfl, h1, h2⟩
    · obtain ⟨as, ra⟩ := Dp.readsAll I _ _ _ (dp_ints ns) rv
      refine max_list_default (xs := ns.map PyData.int) (I.ok.hd hc) hl.isList (by simpa using ra) (al_ints ns) (by rw [dep_ints]; omega) (fun e h' tk hk => ?_) (fun y ys i v h' tk bs e hv hr hk => ?_)
      · have e : ns = [] := by simpa using e
        rw [if_pos e] at h
        exact ⟨d, H, I.kept hk, rd, h⟩
      · cases ns with
        | nil => cases e
        | cons n r =>
          injection e with e1 e2
          subst e1 e2
          rw [maxD_ints] at hr
          rw [if_neg (by simp)] at h
          cases hr
          exact ⟨.int _, H, I.kept hk, ⟨_, rfl⟩, h⟩
    · obtain ⟨as, ra⟩ := Dp.readsAll I _ _ _ (dp_strs y0s) rv
      refine max_list_default (xs := y0s.map PyData.str) (I.ok.hd hc) hl.isList (by simpa using ra) (al_strs y0s) (by rw [dep_strs]; omega) (fun e h' tk hk => ?_) (fun y ys' i v h' tk bs e hv hr hk => ?_)
      · have e : y0s = [] := by simpa using e
        exact ⟨d, H, I.kept hk, rd, h1 e⟩
      · obtain ⟨z, hz, rzz⟩ := vals_at rv (show itv[i]? = some v by simpa using hv)
        rw [List.getElem?_map] at hz
        cases eq : (y0s)[i]? with
        | none =>
          rw [eq] at hz
          cases hz
        | some q =>
          rw [eq] at hz
          cases hz
          exact ⟨.str q, H, I.kept hk, rzz, h2 q (List.mem_of_getElem? eq)⟩
  · exact h.elim
theorem best_first {α : Type} (g : α → Nat) (d : α) (x : α) (r : List α) : ∀ k, k ≤ r.length → argBest (fun i j => decide (g ((x :: r).getD i d) < g ((x :: r).getD j d))) k ≤ k ∧ (x :: r).getD (argBest (fun i j => decide (g ((x :: r).getD i d) < g ((x :: r).getD j d))) k) d = (r.take k).foldl (fun a y => if g y < g a then y else a) x := by
  intro k hk
  have := PySem.W.argBest_fold (fun a b => decide (g a < g b)) d x r k hk
  simpa using this
theorem run_minLen {pins : List (Addr × Obj)} {σ : L2.St} {H : Hp} {s : Shared} {a : Addr} {ps : List Addr} {Q : VK} (hc : X.calm = true) (I : Inv X pins σ H s) (ha : H a = some (.lst (ps.map V.ref))) (hn : 0 < ps.length) (hp : ∀ p ∈ ps, ∃ xs, H p = some (.lst xs))
    (q : ∀ (g : Addr → Nat), (∀ p ∈ ps, ∀ xs, H p = some (.lst xs) → g p = xs.length) → ∀ q, firstMin g ps = some q → Q (.ref q) H) : wpAny (model X.prog X.w) X.A (call (.builtin "min") [.ref a] [(Str.ofString "key", .builtin "len")]) (EP X pins σ Q) X.xe s := by
  obtain ⟨itv, rv, hl, hz⟩ := I.list (SqL.of (K := X.K) ha)
  let g : Addr → Nat := fun p => match H p with
    | some (.lst xs) => xs.length
    | _ => 0
  have hg : ∀ p xs, H p = some (.lst xs) → g p = xs.length := fun p xs e => by
    show (match H p with
      | some (.lst xs) => xs.length
      | _ => 0) = _
    rw [e]
  have hlen : itv.length = ps.length := by
    have := rv.length
    simpa using this.symm
  have item : ∀ i v, itv[i]? = some v → ∃ (p : Addr) (xs : List V), v = Value.ref p ∧ ps[i]? = some p ∧ H p = some (.lst xs) := fun i v e => by
    obtain ⟨x, h1, h2⟩ := vals_at rv e
    rw [List.getElem?_map] at h1
    cases e2 : ps[i]? with
    | none =>
      rw [e2] at h1
      cases h1
    | some p =>
      rw [e2] at h1
      cases h1
      obtain ⟨xs, e3⟩ := hp p (List.mem_of_getElem? e2)
      exact ⟨p, xs, h2, e2, e3⟩
  have gi : ∀ i p, ps[i]? = some p → ps.getD i 0 = p := fun i p e => by
    rw [List.getD_eq_getElem?_getD, e]
    rfl
  refine PySem.call_min_walkKB (iter_listW (A := X.A.in1) (I.ok.hd hc) hl.isList fun s₂ e W st hfp hw hk => ?_)
  refine ⟨_, _, _, _, _, _, _, (fun s' => ∃ h' tk, s' = { s with heap := h', toks := tk } ∧ ∀ b o, s.heap.get? b = some o → h'.get? b = some o), (fun i k _ => ∃ t, k = .int (g (ps.getD i 0) : Nat) t), (fun i j => decide (g (ps.getD i 0) < g (ps.getD j 0))), rfl, W, st, hfp, by simp; omega, ⟨?_, ?_, ?_, ?_⟩, ?_, ?_⟩
  · rintro s3 s4 ⟨h3, tk3, rfl, k3⟩ m
    refine ⟨s4.heap, s4.toks, ?_, fun b o e => m.heap b o (fun hb => ?_) (k3 b o e)⟩
    · obtain ⟨hp4, g4, d4, tk4, os4⟩ := s4
      have h1 : g4 = s.gens := m.gens
      have h2 : d4 = s.drawn := m.drawn
      have h3 : os4 = s.os := m.os
      subst h1 h2 h3
      rfl
    · have hlt := Heap.lt_size e
      rw [‹s₂ = _›] at hb
      rcases List.mem_cons.mp hb with z | hb
      · have z : b = (s.heap.push _).objs.size := z
        rw [Heap.size_push] at z
        rw [z] at hlt
        exact absurd hlt (Nat.not_lt.mpr (Nat.le_succ _))
      · rw [List.mem_singleton.mp hb] at hlt
        exact Nat.lt_irrefl _ hlt
  · rintro i k s3 s4 h _
    exact h
  · rintro i v s3 o Q' E' hi hv ⟨h3, tk3, rfl, k3⟩ hst hS hQ
    obtain ⟨p, xs, rfl, hpi, hpl⟩ := item i v (by rw [← List.getElem?_toArray]; exact hv)
    obtain ⟨its2, rv2, hl2, hz2⟩ := I.list (SqL.of (K := X.K) hpl)
    have hl3 : h3.IsList p its2.toArray := by
      obtain ⟨o', e', c', n', d'⟩ := hl2.isList
      exact ⟨o', k3 _ _ e', c', n', d'⟩
    have hsz : (its2.toArray.size : Int) < 2 ^ 63 := by
      have e2 := rv2.length
      have h3 := sizeLine_eq
      rw [List.size_toArray]
      omega
    refine Calls.call_len_list (s := { s with heap := h3, toks := tk3 }) hl3 hsz (hQ _ _ ⟨h3, _, rfl, k3⟩ hst hS ⟨tk3 + 1, ?_⟩ fun j k' h => h)
    rw [gi i p hpi, hg p xs hpl]
    have e2 := rv2.length
    simp [e2]
  · rintro i j ki kj s3 Q' E' _ ⟨t, rfl⟩ ⟨u, rfl⟩ hQ
    refine PySem.wpAny_lt_int ?_
    have e2 : decide (((g (ps.getD i 0) : Nat) : Int) < ((g (ps.getD j 0) : Nat) : Int)) = decide (g (ps.getD i 0) < g (ps.getD j 0)) := by simp
    rw [e2]
    exact hQ
  · exact ⟨s₂.heap, s₂.toks, by rw [e], hk⟩
  · rintro v s' hv ⟨h', tk, rfl, hk'⟩
    obtain ⟨p, xs, rfl, hpi, hpl⟩ := item _ v (by rw [← List.getElem?_toArray]; exact hv)
    refine ⟨.ref p, H, I.kept hk', rfl, q g (fun p _ xs e => hg p xs e) p ?_⟩
    cases ps with
    | nil => simp at hn
    | cons p0 r =>
      unfold firstMin
      have b := best_first g 0 p0 r r.length (Nat.le_refl _)
      have e1 : itv.toArray.size - 1 = r.length := by
        simp
        simp at hlen
        omega
      rw [e1] at hpi
      have e2 := gi _ _ hpi
      rw [List.take_length] at b
      show some (r.foldl (fun a y => if g y < g a then y else a) p0) = some p
      rw [← b.2]
      exact congrArg some e2
theorem boot_min' : bootBuiltins "min" = some (.builtin "min") := by decide +kernel
theorem boot_len' : bootBuiltins "len" = some (.builtin "len") := by decide +kernel
def tMinLen (t : TA) : TE := fun σ H Q => t σ H fun vs H1 => match vs with
  | [.ref a] => ∃ ps : List Addr, H1 a = some (.lst (ps.map V.ref)) ∧ 0 < ps.length ∧ (∀ p ∈ ps, ∃ xs, H1 p = some (.lst xs)) ∧
      ∀ (g : Addr → Nat), (∀ p ∈ ps, ∀ xs, H1 p = some (.lst xs) → g p = xs.length) → ∀ q, firstMin g ps = some q → Q (.ref q) H1
  | _ => False
theorem u_minLen {e : Expr} {t : TA} {p p2 kp pos : Pos} (hm : X.mg "min" = none) (hl : X.mg "len" = none) (ha : PA X [e] t) (hc : X.calm = true := by rfl) (hg : Gl X "min" := by rfl) (hg2 : Gl X "len" := by rfl)
    (he : backTo pos (starEach [e] X.env) = (false, eval e X.env) :: backTo pos (starEach [] X.env) := by rfl) (hpl : (backTo pos (starEach [e] X.env)).any (·.1) = false := by rfl) :
    PE X (.Call (.Name "min" p) [e] [⟨some "key", .Name "len" p2, kp⟩] pos) (tMinLen t) := by
  refine ⟨fun pins s σ H Q I h => ?_⟩
  refine wpAny_Call_Name_kw (ld_blt I hg hm boot_min' ?_)
  refine PyProof.Rows.callWith_kw (thn (ha.run pos pins s σ H _ I h) fun us s1 ⟨vs, H1, I1, r1, q1⟩ => ?_) he hpl rfl rfl
  show wpAny _ _ (evalAll ((do let v ← eval (.Name "len" p2) X.env; standAt pos; pure v) :: [])) _ _ s1
  refine wpAny_evalAll_cons (wpAny_bind (ld_blt I1 hg2 hl boot_len' (wpAny_bind (wpAny_standAt (wpAny_pure (wpAny_evalAll_nil ?_))))))
  dsimp only at q1
  split at q1
  · obtain ⟨ps, h1, h2, h3, h4⟩ := q1
    obtain rfl := Vals.ref1 r1
    exact run_minLen hc I1 h1 h2 h3 h4
  · exact q1.elim
end
end K90
/-! Dicts whose keys are None, ints, texts. -/
namespace K90
open PySem PySem.Spec PyProof.Rows L2 RT RZ
def kN : Option Key → V
  | none => .non
  | some k => kV k
theorem kN_is {P : Program} {w : World} {k : Option Key} {u : Value} (r : RelV (kN k) u) : (noneKind P w).is k u = true := by
  cases k with
  | none =>
    have e : u = Value.none := r
    subst e
    rfl
  | some k => exact kV_is (P := P) (w := w) (k := k) r
theorem kN_rel {P : Program} {w : World} {k : Option Key} {u : Value} (h : (noneKind P w).is k u = true) : RelV (kN k) u := by
  cases k with
  | none => exact nk_none h
  | some k => exact keyIs_rel h
/-- such a dict at a -/
def LD (P : Program) (w : World) (a : Addr) (prs : List (Option Key × V)) : HO := .ext fun h => prs.length ≤ sizeLine ∧ (a == sysModules) = false ∧ ∃ vs, KV prs vs ∧ h.DictOf (noneKind P w) a vs
theorem ld_ok {P : Program} {w : World} {H : Hp} {h : Heap} {a : Addr} {prs : List (Option Key × V)} {vs : List (Option Key × Value)} (zz : prs.length ≤ sizeLine) (hd : (a == sysModules) = false) (rel : KV prs vs) (dd : h.DictOf (noneKind P w) a vs) : ObjOk P w H h a (LD P w a prs) := by
  refine ⟨⟨zz, hd, vs, rel, dd⟩, ?_, fun h1 h2 p k => ?_⟩
  · obtain ⟨o, _, _, ho, _⟩ := id dd
    exact ⟨o, ho⟩
  · obtain ⟨zz, hd, vs, rel, dd⟩ := p
    exact ⟨zz, hd, vs, rel, dd.at k⟩
theorem ld_of {X : Cx} {pins : List (Addr × Obj)} {σ : L2.St} {H : Hp} {s : Shared} {a : Addr} {prs : List (Option Key × V)} (I : Inv X pins σ H s) (e : H a = some (LD X.prog X.w a prs)) : prs.length ≤ sizeLine ∧ (a == sysModules) = false ∧ ∃ vs, KV prs vs ∧ s.heap.DictOf (noneKind X.prog X.w) a vs := (I.hok a _ e).1
section
variable {X : Cx} {P : Program} {w : World} {o i e value : Expr} {pos pos' : Pos} {td ty tv : TE}
def tLNew (P : Program) (w : World) : TE := fun _ H Q => ∀ p, H p = none → Q (.ref p) (upd H p (LD P w p []))
theorem u_cnew (hP : X.prog = P := by rfl) (hw : X.w = w := by rfl) : PE X (.Dict [] [] pos) (tLNew P w) := by
  subst hP hw
  exact ⟨fun pins s σ H Q I h => wpAny_Dict_empty ⟨.ref s.heap.objs.size, _, I.laid (a := s.heap.objs.size) (o := LD X.prog X.w s.heap.objs.size []) (t' := s.toks) (fun _ _ q => Heap.get?_push_of_some _ q) (Nat.le_refl _)
    (ld_ok (Nat.zero_le _) (beq_eq_false_iff_ne.mpr (Ne.symm (Nat.ne_of_lt I.big))) .nil (Heap.DictOf.new s.heap)), rfl, h _ (I.hok.fresh (Nat.le_refl _))⟩⟩
/-- d[y] -/
def tLGet (P : Program) (w : World) (td ty : TE) : TE := fun σ H Q => td σ H fun x H1 => ty σ H1 fun y H2 => match x with
  | .ref a => ∃ prs k v, H2 a = some (LD P w a prs) ∧ y = kN k ∧ valV prs k = some v ∧ Q v H2
  | _ => False
theorem u_cget (ho : PE X o td) (hi : PE X i ty) (hs : NoSl i := by intro _ _; rfl) (hP : X.prog = P := by rfl) (hw : X.w = w := by rfl) : PE X (.Subscript o i pos) (tLGet P w td ty) := by
  subst hP hw
  refine ⟨fun pins s σ H Q I h => ?_⟩
  refine subD_of PySem.F.slot_dict_getitem.lookup hs (thn (ho.run pins s σ H _ I h) fun u s1 ⟨x, H1, I1, rx, q1⟩ => thn (hi.run pins s1 σ H1 _ I1 q1) fun iv s2 ⟨y, H2, I2, ry, q2⟩ => ?_)
  cases x with
  | ref a =>
    obtain ⟨prs, k, v, hd, rfl, hv, q⟩ := q2
    obtain rfl : u = Value.ref a := rx
    obtain ⟨zz, lo, vs, rel, dd⟩ := ld_of I2 hd
    obtain ⟨w', hw, rw'⟩ := RelO.some_of (v := v) (o := valueAt vs k) (by rw [← hv]; exact rel.val k)
    exact ⟨dd.typeIs, wpAny_getItem_of (kN_is ry) dd.mapOf hw ⟨v, H2, I2.tok _, rw', q⟩⟩
  | _ => exact q2.elim
/-- d[y] = v -/
def sLPut (P : Program) (w : World) (td ty tv : TE) : TS := fun D σ H => tv σ H fun v H1 => td σ H1 fun x H2 => ty σ H2 fun y H3 => match x with
  | .ref a => ∃ prs k, H3 a = some (LD P w a prs) ∧ y = kN k ∧ prs.length < sizeLine ∧ D.nx σ (upd H3 a (LD P w a (putK prs k v)))
  | _ => False
theorem us_cput (ho : PE X o td) (hi : PE X i ty) (hv : PE X value tv) (hs : swapsWith value (some (.Subscript o i pos')) pos.line X.env = pure false := by rfl) (hP : X.prog = P := by rfl) (hw : X.w = w := by rfl) : PS X (.Assign [.Subscript o i pos'] value pos) (sLPut P w td ty tv) := by
  subst hP hw
  refine ⟨fun pins s σ H D I h => ?_⟩
  refine wpAny_Assign_Subscript (thn (hv.run pins s σ H _ I h) fun r s1 ⟨v, H1, I1, rv, q1⟩ => thn (ho.run pins s1 σ H1 _ I1 q1) fun u s2 ⟨x, H2, I2, rx, q2⟩ => thn (hi.run pins s2 σ H2 _ I2 q2) fun iv s3 ⟨y, H3, I3, ry, q3⟩ => ?_) hs
  cases x with
  | ref a =>
    obtain ⟨prs, k, hd, rfl, fll, q⟩ := q3
    obtain rfl : u = Value.ref a := rx
    obtain ⟨zz, lo, vs, rel, dd⟩ := ld_of I3 hd
    have fz : vs.length ≤ sizeLine := by rw [← rel.length]; exact zz
    have fl2 : (putK prs k v).length ≤ sizeLine := by have := length_putK prs k v; omega
    refine wpAny_setItem_pairs (hsz := fz) (kN_is ry) dd fun h' dd' hs => ?_
    have hef : ∃ q, h'.get? a = some q := let ⟨q, _, _, hq, _⟩ := dd'; ⟨q, hq⟩
    exact ⟨σ, _, d_write I3 (by rw [hd]; exact True.intro) hs hef (ld_ok fl2 lo (rel.put k rv) dd'), q⟩
  | _ => exact q3.elim
def kListD (P : Program) (w : World) : List V → Hp → VK → Prop := fun vs H Q => match vs with
  | [.ref p] => ∃ prs, H p = some (LD P w p prs) ∧ ∀ q, H q = none → Q (.ref q) (upd H q (.lst (prs.map fun kv => kN kv.1)))
  | _ => False
theorem c_listD (hc : X.calm = true := by rfl) (hP : X.prog = P := by rfl) (hw : X.w = w := by rfl) : CallR X (.type "list") (kListD P w) := by
  subst hP hw
  intro pins s σ H xs uvs Q I r h
  unfold kListD at h
  split at h
  · rename_i p
    obtain ⟨prs, hk, q⟩ := h
    obtain ⟨u, eu, rx⟩ := vals1 r
    subst eu
    obtain rfl : u = Value.ref p := rx
    obtain ⟨zz, lo, vs, rkk, hd⟩ := ld_of I hk
    obtain ⟨ep, hat⟩ := hd.dictAt
    have fll : prs.length = vs.length := Paired.length rkk
    refine PySem.W.kdl_call (PySem.W.kdl_dict (knd := noneKind X.prog X.w) (kvs := vs) (ep := ep) lo) (I.ok.hd hc) hat (by rw [← fll]; exact zz) fun h' tk ac c' hkeep hSS hac => ?_
    refine ⟨.ref s.heap.objs.size, upd H s.heap.objs.size (.lst (prs.map fun kv => kN kv.1)), I.laid hkeep (Nat.le_refl _) (show ObjOk X.prog X.w _ _ _ (.lst (prs.map fun kv => kN kv.1)) from ⟨?_, ac.toList, c', ?_, ?_⟩), rfl, q _ (I.hok.fresh (Nat.le_refl _))⟩
    · rw [List.length_map]; exact zz
    · have fl : ac.toList.length = ac.size := by simp
      refine vals_of_at (by rw [List.length_map, fl, hac.1, fll]) fun j x w h1 h2 => ?_
      obtain ⟨k, y, hkz, hi⟩ := hac.2 j w (by rw [← Array.getElem?_toList]; exact h2)
      have f1 : (prs.map (·.1))[j]? = some k := by
        rw [KV.keys rkk, List.getElem?_map, hkz] <;> rfl
      have f2 : (prs.map fun kv => kN kv.1)[j]? = some (kN k) := by
        have f3 : (prs.map fun kv => kN kv.1) = (prs.map (·.1)).map kN := by rw [List.map_map] <;> rfl
        rw [f3, List.getElem?_map, f1] <;> rfl
      rw [f2] at h1
      cases h1
      exact kN_rel hi
    · rw [Array.toArray_toList]; exact hSS
  · exact h.elim
end
end K90
/-! list(zip(a, b, c)) of three lists: each turn's tuple is held by the list, so each turn makes another. -/
namespace K90
open PySem PySem.Spec PyProof.Rows L2 RT RZ
section
variable {pgm : Program} {w : World} {A : Around} {E : Value → Shared → Prop} {s : Shared} {z0 TI TO T i1 i2 i3 l1 l2 l3 : Addr} {f : Bool} {oT : Obj} {xs ys us : Array Value} {i : Nat}
/-- the three iterators, at turn i -/
def It3 (h : Heap) (TI i1 i2 i3 l1 l2 l3 : Addr) (xs ys us : Array Value) (i : Nat) : Prop :=
  IsTupOf3 h TI (.ref i1) (.ref i2) (.ref i3) ∧ (h.IsListIter i1 l1 i ∧ h.IsList l1 xs) ∧ (h.IsListIter i2 l2 i ∧ h.IsList l2 ys) ∧ (h.IsListIter i3 l3 i ∧ h.IsList l3 us)
abbrev Sep (z0 TI TO i1 i2 i3 l1 l2 l3 : Addr) : Prop := ZipSep3 z0 TI TO i1 i2 i3 [i1, l1] [i2, l2] [i3, l3]
theorem zip3_held {Q : Value → Shared → Prop} (kh : A.handled = none) (S : Sep z0 TI TO i1 i2 i3 l1 l2 l3) (n1 : l1 ≠ i1) (n2 : l2 ≠ i2) (n3 : l3 ≠ i3) (kz0 : IsZipHeld s.heap z0 TI TO T f) (kT : s.heap.get? T = some oT) (st : It3 s.heap TI i1 i2 i3 l1 l2 l3 xs ys us i)
    (h1 : i < xs.size) (h2 : i < ys.size) (h3 : i < us.size)
    (hQ : ∀ x y u h' tk, xs[i]? = some x → ys[i]? = some y → us[i]? = some u → IsZipHeld h' z0 TI TO T true → It3 h' TI i1 i2 i3 l1 l2 l3 xs ys us (i + 1) → IsTupOf3 h' s.heap.objs.size x y u → h'.objs.size = s.heap.objs.size + 1 →
      (∀ c o, c ≠ z0 → c ≠ i1 → c ≠ i2 → c ≠ i3 → s.heap.get? c = some o → h'.get? c = some o) → Q (.ref s.heap.objs.size) { s with heap := h', toks := tk }) :
    wpAny (model pgm w) A (Builtin.«zip.__next__» ⟨[.ref z0], []⟩) (fun fi s' => ∃ v, fi = .done (.ret v) ∧ Q v s') E s := by
  obtain ⟨kTI, st1, st2, st3⟩ := st
  have D1 := Draws.list (prog := pgm) (w := w) (A := A) kh i1 l1 n1 xs
  have D2 := Draws.list (prog := pgm) (w := w) (A := A) kh i2 l2 n2 ys
  have D3 := Draws.list (prog := pgm) (w := w) (A := A) kh i3 l3 n3 us
  show wpAny _ _ (field (.ref z0) 2 >>= fun a => _) _ _ _
  refine wpAny_bind (wpAny_field kz0 rfl (x := .bool false) rfl ?_)
  show wpAny _ _ (field (.ref z0) 3 >>= fun a => _) _ _ _
  refine wpAny_bind (wpAny_field kz0 rfl (x := .ref TI) rfl ?_)
  refine wpAny_bind (wpAny_seqItems kTI rfl ?_)
  show wpAny _ _ (Builtin.SmallTypes.ownedTupleIsFree (.ref z0) >>= fun a => _) _ _ _
  refine wpAny_bind (wpAny_tupleHeld_zip kz0 kT fun g0 hz0 hs0 => ?_)
  simp only [Bool.false_eq_true, if_false]
  refine wpAny_bind ?_
  rw [← Array.forIn_toList]
  simp only [List.forIn_cons, List.forIn_nil]
  refine wpAny_bind (wpAny_bind (wpAny_holding ?_))
  show wpAny _ _ (Builtin.SmallTypes.nextOf (.ref i1) >>= fun a => _) _ _ _
  refine wpAny_bind (D1.item i { s with heap := g0 } _ _ h1 (D1.over st1 hs0 S.zf1) fun x p1 tk1 hx sn1 hp1 => wpAny_pure ?_)
  refine wpAny_pure (wpAny_bind (wpAny_bind (wpAny_holding ?_)))
  show wpAny _ _ (Builtin.SmallTypes.nextOf (.ref i2) >>= fun a => _) _ _ _
  refine wpAny_bind (D2.item i { s with heap := p1, toks := tk1 } _ _ h2 (D2.over (D2.over st2 hs0 S.zf2) hp1 S.sep1_2) fun y p2 tk2 hy sn2 hp2 => wpAny_pure ?_)
  refine wpAny_pure (wpAny_bind (wpAny_bind (wpAny_holding ?_)))
  show wpAny _ _ (Builtin.SmallTypes.nextOf (.ref i3) >>= fun a => _) _ _ _
  refine wpAny_bind (D3.item i { s with heap := p2, toks := tk2 } _ _ h3 (D3.over (D3.over (D3.over st3 hs0 S.zf3) hp1 S.sep1_3) hp2 S.sep2_3) fun u p3 tk3 hu sn3 hp3 => wpAny_pure ?_)
  refine wpAny_pure (wpAny_pure ?_)
  show wpAny _ _ (newTuple [x, y, u] >>= fun a => _) _ _ _
  refine wpAny_bind (wpAny_newTuple ?_)
  have hsz : p3.objs.size = s.heap.objs.size := by rw [hp3.1, hp2.1, hp1.1, hs0.1]
  have keep : ∀ c o, c ≠ z0 → c ≠ i1 → c ≠ i2 → c ≠ i3 → s.heap.get? c = some o → p3.get? c = some o := fun c o c0 c1 c2 c3 e => hp3.extBut _ _ c3 (hp2.extBut _ _ c2 (hp1.extBut _ _ c1 (hs0.extBut _ _ c0 e)))
  have hz3 : IsZipHeld p3 z0 TI TO T true := hp3.extBut _ _ S.zi3 (hp2.extBut _ _ S.zi2 (hp1.extBut _ _ S.zi1 hz0))
  have b1 := D1.over (D1.over sn1 hp2 S.sep2_1) hp3 S.sep3_1
  have b2 := D2.over sn2 hp3 S.sep3_2
  have up : ∀ {c o}, p3.get? c = some o → (p3.push { cls := .type "tuple", data := .seq #[x, y, u] }).get? c = some o := fun e => Heap.get?_push_of_some _ e
  refine wpAny_pure ⟨_, rfl, ?_⟩
  show Q (.ref p3.objs.size) { s with heap := p3.push { cls := .type "tuple", data := .seq #[x, y, u] }, toks := tk3 }
  have new : IsTupOf3 (p3.push { cls := .type "tuple", data := .seq #[x, y, u] }) p3.objs.size x y u := Heap.get?_push_size _ rfl
  have sz : (p3.push { cls := .type "tuple", data := .seq #[x, y, u] }).objs.size = p3.objs.size + 1 := Heap.size_push ..
  rw [hsz] at new sz ⊢
  exact hQ x y u _ tk3 hx hy hu (up hz3) ⟨up (keep _ _ S.TIz S.TIi1 S.TIi2 S.TIi3 kTI), D1.frame _ _ _ b1 fun c _ o e => up e, D2.frame _ _ _ b2 fun c _ o e => up e, D3.frame _ _ _ sn3 fun c _ o e => up e⟩ new sz fun c o c0 c1 c2 c3 e => up (keep c o c0 c1 c2 c3 e)
theorem zip3_held_end {Q : Fin → Shared → Prop} (kh : A.handled = none) (S : Sep z0 TI TO i1 i2 i3 l1 l2 l3) (n1 : l1 ≠ i1) (kz0 : IsZipHeld s.heap z0 TI TO T f) (kT : s.heap.get? T = some oT) (st : It3 s.heap TI i1 i2 i3 l1 l2 l3 xs ys us xs.size)
    (hE : ∀ h' e, (∀ c o, c ≠ z0 → c ≠ i1 → s.heap.get? c = some o → h'.get? c = some o) → (∃ o, h'.get? e = some o ∧ o.cls = .type "StopIteration") → E (.ref e) { s with heap := h' }) :
    wpAny (model pgm w) A (Builtin.«zip.__next__» ⟨[.ref z0], []⟩) Q E s := by
  obtain ⟨kTI, st1, st2, st3⟩ := st
  have D1 := Draws.list (prog := pgm) (w := w) (A := A) kh i1 l1 n1 xs
  show wpAny _ _ (field (.ref z0) 2 >>= fun a => _) _ _ _
  refine wpAny_bind (wpAny_field kz0 rfl (x := .bool false) rfl ?_)
  show wpAny _ _ (field (.ref z0) 3 >>= fun a => _) _ _ _
  refine wpAny_bind (wpAny_field kz0 rfl (x := .ref TI) rfl ?_)
  refine wpAny_bind (wpAny_seqItems kTI rfl ?_)
  show wpAny _ _ (Builtin.SmallTypes.ownedTupleIsFree (.ref z0) >>= fun a => _) _ _ _
  refine wpAny_bind (wpAny_tupleHeld_zip kz0 kT fun g0 hz0 hs0 => ?_)
  simp only [Bool.false_eq_true, if_false]
  refine wpAny_bind ?_
  rw [← Array.forIn_toList]
  simp only [List.forIn_cons, List.forIn_nil]
  refine wpAny_bind (wpAny_bind (wpAny_holding ?_))
  show wpAny _ _ (Builtin.SmallTypes.nextOf (.ref i1) >>= fun a => _) _ _ _
  refine wpAny_bind (D1.done { s with heap := g0 } _ _ (D1.over st1 hs0 S.zf1) fun h' e hk he => ?_)
  exact hE h' e (fun c o c0 c1 x => hk _ _ c1 (hs0.extBut _ _ c0 x)) he
end
section
variable {pgm : Program} {w : World} {A : Around} {E : Value → Shared → Prop} {s : Shared} {z0 TI TO i1 i2 i3 l1 l2 l3 S M : Addr} {xs ys us : Array Value} {i : Nat}
/-- the cells of the zip and of the list are below M -/
structure Below (z0 TI TO i1 i2 i3 S M : Addr) : Prop where
  z0 : z0 < M
  TO : TO < M
  i1 : i1 < M
  i2 : i2 < M
  i3 : i3 < M
  S : S < M
/-- the zip at turn i -/
def ZS (h : Heap) (z0 TI TO i1 i2 i3 l1 l2 l3 M : Addr) (xs ys us : Array Value) (i : Nat) : Prop := It3 h TI i1 i2 i3 l1 l2 l3 xs ys us i ∧ M ≤ h.objs.size ∧
  ((i = 0 ∧ IsZip h z0 TI TO .none ∧ ∃ a b c, IsTupOf3 h TO a b c) ∨ ∃ T f oT, IsZipHeld h z0 TI TO T f ∧ h.get? T = some oT ∧ M ≤ T)
theorem ne_lt {a b M : Addr} (h : a < M) (k : M ≤ b) : b ≠ a := fun e => Nat.lt_irrefl _ (Nat.lt_of_lt_of_le h (e ▸ k))
theorem zs_item {Q : Option Value → Shared → Prop} (kh : A.handled = none) (Z : Sep z0 TI TO i1 i2 i3 l1 l2 l3) (n1 : l1 ≠ i1) (n2 : l2 ≠ i2) (n3 : l3 ≠ i3) (st : ZS s.heap z0 TI TO i1 i2 i3 l1 l2 l3 M xs ys us i) (B : Below z0 TI TO i1 i2 i3 S M)
    (h1 : i < xs.size) (h2 : i < ys.size) (h3 : i < us.size)
    (hQ : ∀ x y u h' tk, xs[i]? = some x → ys[i]? = some y → us[i]? = some u → ZS h' z0 TI TO i1 i2 i3 l1 l2 l3 M xs ys us (i + 1) → IsTupOf3 h' s.heap.objs.size x y u →
      (∀ c o, c ≠ z0 → c ≠ TO → c ≠ i1 → c ≠ i2 → c ≠ i3 → s.heap.get? c = some o → h'.get? c = some o) → Q (some (.ref s.heap.objs.size)) { s with heap := h', toks := tk }) :
    wpAny (model pgm w) A (pyNext (.ref z0)) Q E s := by
  obtain ⟨it, hM, c⟩ := st
  have kh1 : A.in1.handled = none := kh
  rcases c with ⟨rfl, kz0, a, b, c, kTO⟩ | ⟨T, f, oT, kz0, kT, hMT⟩
  · obtain ⟨kTI, st1, st2, st3⟩ := it
    refine wpAny_pyNext_zipD3_item Z (Draws.list (A := A.in1) kh1 i1 l1 n1 xs) (Draws.list (A := A.in1) kh1 i2 l2 n2 ys) (Draws.list (A := A.in1) kh1 i3 l3 n3 us) kz0 kTI kTO st1 st2 st3 h1 h2 h3 fun x y u h' tk hx hy hu hz' hTO' t1 t2 t3 hnew hsz hk => ?_
    exact hQ x y u h' tk hx hy hu ⟨⟨hk _ _ Z.TIz Z.TITO Z.TIi1 Z.TIi2 Z.TIi3 kTI, t1, t2, t3⟩, by rw [hsz]; exact Nat.le_succ_of_le hM, .inr ⟨_, false, _, hz', hnew, hM⟩⟩ hnew hk
  · have hTy : s.TypeIs (.ref z0) "zip" := ⟨_, kz0, rfl⟩
    unfold pyNext
    refine wpAny_bind (wpAny_attempt (wpAny_callSpecial?_slot (name := Str.ofString "__next__") hTy F.slot_zip_next (wpAny_call_entry F.slot_zip_next hTy F.entry_zip_next ?body (F.args_zip_next_1 _))))
    case body =>
      refine zip3_held kh1 Z n1 n2 n3 kz0 kT it h1 h2 h3 fun x y u h' tk hx hy hu hz' it' hnew hsz hk => wpAny_pure ?_
      exact hQ x y u h' tk hx hy hu ⟨it', by rw [hsz]; exact Nat.le_succ_of_le hM, .inr ⟨T, true, oT, hz', hk _ _ (ne_lt B.z0 hMT) (ne_lt B.i1 hMT) (ne_lt B.i2 hMT) (ne_lt B.i3 hMT) kT, hMT⟩⟩ hnew fun c o c0 _ c1 c2 c3 e => hk c o c0 c1 c2 c3 e
theorem zs_end {Q : Option Value → Shared → Prop} (kh : A.handled = none) (Z : Sep z0 TI TO i1 i2 i3 l1 l2 l3) (n1 : l1 ≠ i1) (hn : 0 < xs.size) (st : ZS s.heap z0 TI TO i1 i2 i3 l1 l2 l3 M xs ys us xs.size)
    (hQ : ∀ h', (∀ c o, c ≠ z0 → c ≠ i1 → s.heap.get? c = some o → h'.get? c = some o) → Q none { s with heap := h' }) : wpAny (model pgm w) A (pyNext (.ref z0)) Q E s := by
  obtain ⟨it, hM, c⟩ := st
  have kh1 : A.in1.handled = none := kh
  rcases c with ⟨e, _⟩ | ⟨T, f, oT, kz0, kT, hMT⟩
  · omega
  · have hTy : s.TypeIs (.ref z0) "zip" := ⟨_, kz0, rfl⟩
    unfold pyNext
    refine wpAny_bind (wpAny_attempt (wpAny_callSpecial?_slot (name := Str.ofString "__next__") hTy F.slot_zip_next (wpAny_call_entry F.slot_zip_next hTy F.entry_zip_next (zip3_held_end kh1 Z n1 kz0 kT it fun h' e hk he => ?_) (F.args_zip_next_1 _))))
    obtain ⟨o, ho, hc⟩ := he
    exact wpAny_bind (wpAny_isInstance (T := "StopIteration") (b := true) ⟨o, ho, hc⟩ isSubtype_stop (wpAny_pure (hQ _ hk)))
/-- the tuples made so far -/
def Trip (h : Heap) (M : Addr) (xs ys us acc : Array Value) (i : Nat) : Prop := (acc.size = i ∧ ∀ (j k : Nat) (v : Value), acc[j]? = some v → acc[k]? = some v → j = k) ∧ ∀ (j : Nat) (v : Value), acc[j]? = some v → ∃ (T : Addr) (x y u : Value), v = Value.ref T ∧ M ≤ T ∧ IsTupOf3 h T x y u ∧ xs[j]? = some x ∧ ys[j]? = some y ∧ us[j]? = some u
theorem Trip.keep {h h' : Heap} {acc : Array Value} (t : Trip h M xs ys us acc i) (k : ∀ b o, M ≤ b → h.get? b = some o → h'.get? b = some o) : Trip h' M xs ys us acc i :=
  ⟨t.1, fun j v e => let ⟨T, x, y, u, h1, h2, h3, h4⟩ := t.2 j v e; ⟨T, x, y, u, h1, h2, k _ _ h2 h3, h4⟩⟩
theorem Trip.push {h : Heap} {acc : Array Value} {T : Addr} {x y u : Value} (t : Trip h M xs ys us acc i) (hnew : ∀ j : Nat, acc[j]? ≠ some (Value.ref T)) (kT : M ≤ T) (d : IsTupOf3 h T x y u) (hx : xs[i]? = some x) (hy : ys[i]? = some y) (hu : us[i]? = some u) : Trip h M xs ys us (acc.push (.ref T)) (i + 1) := by
  refine ⟨⟨by rw [Array.size_push, t.1.1], fun j k v e1 e2 => ?_⟩, fun j v e => ?_⟩
  · rw [Array.getElem?_push] at e1 e2
    split at e1
    · rename_i z0
      split at e2
      · rename_i z2
        exact z0.trans z2.symm
      · cases e1
        exact absurd e2 (hnew k)
    · split at e2
      · cases e2
        exact absurd e1 (hnew j)
      · exact t.1.2 j k v e1 e2
  rw [Array.getElem?_push] at e
  split at e
  · rename_i z0
    rw [t.1.1] at z0
    subst z0
    cases e
    exact ⟨T, x, y, u, rfl, kT, d, hx, hy, hu⟩
  · exact t.2 j v e
/-- S stands apart from the zip's cells -/
structure Off (z0 TI TO i1 i2 i3 l1 l2 l3 S : Addr) : Prop where
  z0 : z0 ≠ S
  TI : TI ≠ S
  TO : TO ≠ S
  i1 : i1 ≠ S
  i2 : i2 ≠ S
  i3 : i3 ≠ S
  l1 : l1 ≠ S
  l2 : l2 ≠ S
  l3 : l3 ≠ S
theorem ZS.but {h h' : Heap} (st : ZS h z0 TI TO i1 i2 i3 l1 l2 l3 M xs ys us i) (O : Off z0 TI TO i1 i2 i3 l1 l2 l3 S) (kS : S < M) (k : ∀ b o, b ≠ S → h.get? b = some o → h'.get? b = some o) (sz : h'.objs.size = h.objs.size) : ZS h' z0 TI TO i1 i2 i3 l1 l2 l3 M xs ys us i := by
  obtain ⟨⟨kTI, ⟨a1, b1⟩, ⟨a2, b2⟩, ⟨a3, b3⟩⟩, hM, c⟩ := st
  refine ⟨⟨k _ _ O.TI kTI, ⟨a1.at fun o e => k _ _ O.i1 e, b1.at fun o e => k _ _ O.l1 e⟩, ⟨a2.at fun o e => k _ _ O.i2 e, b2.at fun o e => k _ _ O.l2 e⟩, ⟨a3.at fun o e => k _ _ O.i3 e, b3.at fun o e => k _ _ O.l3 e⟩⟩, by rw [sz]; exact hM, ?_⟩
  rcases c with ⟨e, kz0, a, b, c, kTO⟩ | ⟨T, f, oT, kz0, kT, hMT⟩
  · exact .inl ⟨e, k _ _ O.z0 kz0, a, b, c, k _ _ O.TO kTO⟩
  · exact .inr ⟨T, f, oT, k _ _ O.z0 kz0, k _ _ (ne_lt kS hMT) kT, hMT⟩
theorem zs_loop {Rr : Result → Shared → Prop} (kh : A.handled = none) (Z : Sep z0 TI TO i1 i2 i3 l1 l2 l3) (n1 : l1 ≠ i1) (n2 : l2 ≠ i2) (n3 : l3 ≠ i3) (B : Below z0 TI TO i1 i2 i3 S M) (O : Off z0 TI TO i1 i2 i3 l1 l2 l3 S)
    (hy : ys.size = xs.size) (hu : us.size = xs.size) (hn : xs.size ≤ sizeLine) (h0 : 0 < xs.size) (res : Value) :
    ∀ (k i : Nat) (s : Shared) (acc : Array Value) (c : Nat), xs.size - i = k → i ≤ xs.size → ZS s.heap z0 TI TO i1 i2 i3 l1 l2 l3 M xs ys us i → s.heap.get? S = some { cls := .type "list", dict := none, data := .seq acc c, slots := #[] } → Trip s.heap M xs ys us acc i →
    (∀ h' tk acc' c', (∀ b o, b ≠ z0 → b ≠ TO → b ≠ i1 → b ≠ i2 → b ≠ i3 → b ≠ S → s.heap.get? b = some o → h'.get? b = some o) → h'.get? S = some { cls := .type "list", dict := none, data := .seq acc' c', slots := #[] } → Trip h' M xs ys us acc' xs.size → Rr (.ok (.ret res)) { s with heap := h', toks := tk }) →
    codeAny (model pgm w) A (.builtin "list.extend.loop" ⟨[.ref S, .ref z0, res], []⟩) Rr s := by
  have kh1 : A.in1.handled = none := kh
  intro k
  induction k with
  | zero =>
    intro i s acc c hk hi st kS ht hR
    have hin : i = xs.size := by omega
    subst hin
    refine codeAny_builtin F.entry_extend_loop ?_
    rw [Around.under_plainId F.plain_extend_loop _]
    show wpAny _ A.in1 (pyNext (.ref z0) >>= fun a => _) _ _ s
    refine wpAny_bind (zs_end kh1 Z n1 h0 st fun h' hk => wpAny_pure ?_)
    have hkM : ∀ b o, M ≤ b → s.heap.get? b = some o → h'.get? b = some o := fun b o hb e => hk b o (ne_lt B.z0 hb) (ne_lt B.i1 hb) e
    exact hR h' s.toks acc c (fun b o c0 _ c1 _ _ _ e => hk b o c0 c1 e) (hk _ _ (Ne.symm O.z0) (Ne.symm O.i1) kS) (ht.keep hkM)
  | succ k ih =>
    intro i s acc c hk hi st kS ht hR
    have hlt : i < xs.size := by omega
    refine codeAny_builtin F.entry_extend_loop ?_
    rw [Around.under_plainId F.plain_extend_loop _]
    show wpAny _ A.in1 (pyNext (.ref z0) >>= fun a => _) _ _ s
    have hMs : M ≤ s.heap.objs.size := st.2.1
    refine wpAny_bind (zs_item kh1 Z n1 n2 n3 st B hlt (by omega) (by omega) fun x y u h' tk hx hy' hu' st' hnew hkeep => ?_)
    have hS' := hkeep _ _ (Ne.symm O.z0) (Ne.symm O.TO) (Ne.symm O.i1) (Ne.symm O.i2) (Ne.symm O.i3) kS
    show wpAny _ A.in1 (updateSeq S (·.push (.ref s.heap.objs.size)) >>= fun a => _) _ _ _
    have sb := Heap.SameBut.update h' S (Obj.mapSeq (·.push (Value.ref s.heap.objs.size)))
    have kb : ∀ b o, b ≠ S → h'.get? b = some o → (h'.update S (Obj.mapSeq (·.push (Value.ref s.heap.objs.size)))).get? b = some o := fun b o hb e => (sb.2 b hb).trans e
    have hkM : ∀ b o, M ≤ b → s.heap.get? b = some o → h'.get? b = some o := fun b o hb e => hkeep b o (ne_lt B.z0 hb) (ne_lt B.TO hb) (ne_lt B.i1 hb) (ne_lt B.i2 hb) (ne_lt B.i3 hb) e
    have hno : ∀ j : Nat, acc[j]? ≠ some (Value.ref s.heap.objs.size) := fun j e => by
      obtain ⟨T, _, _, _, e1, _, e3, _⟩ := ht.2 j _ e
      cases e1
      exact Nat.lt_irrefl _ (Heap.lt_size e3)
    have ht' := ((ht.keep hkM).push hno hMs hnew hx hy' hu').keep fun b o hb e => kb b o (ne_lt B.S hb) e
    have hacc := ht.1.1
    refine wpAny_bind (wpAny_updateSeq (s := { s with heap := h', toks := tk }) hS' rfl (wpAny_pure ⟨plainId_quiet F.plain_extend_loop _, ih (i + 1) _ (acc.push (.ref s.heap.objs.size)) _ (by omega) hlt (st'.but O B.S kb sb.1) (Heap.get?_update_self _ hS' rfl) ht' fun h2 tk2 acc' c' hk2 hS2 ht2 => ?_⟩) (by rw [hacc]; omega) (by show (acc.push _).size ≤ sizeLine + 1; rw [Array.size_push, hacc]; omega))
    exact hR h2 tk2 acc' c' (fun b o c0 cO c1 c2 c3 cS e => hk2 b o c0 cO c1 c2 c3 cS (kb b o cS (hkeep b o c0 cO c1 c2 c3 e))) hS2 ht2
theorem zip_no_len : typeLookup (.type "zip") "__len__" = pure none := by rw [typeLookup_type, builtinLookup_eq_fast]; kernel_rfl
theorem zip_no_hint : typeLookup (.type "zip") "__length_hint__" = pure none := by rw [typeLookup_type, builtinLookup_eq_fast]; kernel_rfl
theorem zs_extend {Rr : Result → Shared → Prop} (kh : A.handled = none) (Z : Sep z0 TI TO i1 i2 i3 l1 l2 l3) (n1 : l1 ≠ i1) (n2 : l2 ≠ i2) (n3 : l3 ≠ i3) (B : Below z0 TI TO i1 i2 i3 S M) (O : Off z0 TI TO i1 i2 i3 l1 l2 l3 S)
    (hy : ys.size = xs.size) (hu : us.size = xs.size) (hn : xs.size ≤ sizeLine) (h0 : 0 < xs.size) (res : Value) {c : Nat} (kz0 : IsZip s.heap z0 TI TO .none) (st : ZS s.heap z0 TI TO i1 i2 i3 l1 l2 l3 M xs ys us 0)
    (kS : s.heap.get? S = some { cls := .type "list", dict := none, data := .seq #[] c, slots := #[] })
    (hR : ∀ h' tk acc' c', (∀ b o, b ≠ z0 → b ≠ TO → b ≠ i1 → b ≠ i2 → b ≠ i3 → b ≠ S → s.heap.get? b = some o → h'.get? b = some o) → h'.get? S = some { cls := .type "list", dict := none, data := .seq acc' c', slots := #[] } → Trip h' M xs ys us acc' xs.size → Rr (.ok (.ret res)) { s with heap := h', toks := tk }) :
    wpAny (model pgm w) A.in1 (Builtin.List.listExtendWith (.ref S) (.ref z0) res)
      (fun fi s' => match fi with | .done f => Rr (.ok f) s' | .again c' => c'.quiet = true ∧ codeAny (model pgm w) A c' Rr s') (fun e s' => Rr (.error e) s') s := by
  have kT : s.TypeIs (.ref z0) "zip" := ⟨_, kz0, rfl⟩
  unfold Builtin.List.listExtendWith
  refine wpAny_bind (wpAny_typeOf kT ?_)
  have q1 : Builtin.List.listSameRef (.ref S) (.ref z0) = false := by simp [Builtin.List.listSameRef, Ne.symm O.z0]
  have q2 : (Value.type "zip" == Value.type "list") = false := by decide
  have q3 : (Value.type "zip" == Value.type "tuple") = false := by decide
  simp only [q1, q2, q3, Bool.or_false, Bool.false_eq_true, if_false]
  refine wpAny_bind (wpAny_pyIter_zip kz0 (wpAny_bind (wpAny_holding ?_)))
  unfold Builtin.List.listLengthHint
  refine wpAny_bind (wpAny_specialOf kT zip_no_len ?_)
  show wpAny _ A.in1 (specialOf (Value.ref z0) (Str.ofString "__length_hint__") >>= fun a => _) _ _ _
  refine wpAny_bind (wpAny_specialOf kT zip_no_hint (wpAny_pure ?_))
  show wpAny _ A.in1 (rule "list.extend.makes-room" >>= fun a => Builtin.List.listTouch (.ref S) >>= fun b => again (.builtin "list.extend.loop" ⟨[.ref S, .ref z0, res], []⟩)) _ _ _
  refine wpAny_bind (wpAny_rule (wpAny_bind ?_))
  show wpAny _ A.in1 (updateSeq S (·.push .none) >>= fun a => updateSeq S (·.pop)) _ _ _
  have sb1 := Heap.SameBut.update s.heap S (Obj.mapSeq (·.push Value.none))
  refine wpAny_bind (wpAny_updateSeq kS rfl ?_)
  have d1 := Heap.get?_update_self (Obj.mapSeq (·.push Value.none)) kS rfl
  have sb2 := Heap.SameBut.update (s.heap.update S (Obj.mapSeq (·.push Value.none))) S (Obj.mapSeq (·.pop))
  refine wpAny_updateSeq (hz := by seq_fits) d1 rfl ?_
  have d2 := Heap.get?_update_self (Obj.mapSeq (·.pop)) d1 rfl
  have kb : ∀ b o, b ≠ S → s.heap.get? b = some o → ((s.heap.update S (Obj.mapSeq (·.push Value.none))).update S (Obj.mapSeq (·.pop))).get? b = some o := fun b o hb e => (sb2.2 b hb).trans ((sb1.2 b hb).trans e)
  refine wpAny_pure ⟨plainId_quiet F.plain_extend_loop _, zs_loop kh Z n1 n2 n3 B O hy hu hn h0 res xs.size 0 _ _ _ rfl (Nat.zero_le _) (st.but O B.S kb (sb2.1.trans sb1.1)) d2 ⟨⟨rfl, fun j k v e => by simp at e⟩, fun j v e => by simp at e⟩ fun h' tk acc' c' hk hS' ht => ?_⟩
  exact hR h' tk acc' c' (fun b o c0 cO c1 c2 c3 cS e => hk b o c0 cO c1 c2 c3 cS (kb b o cS e)) hS' ht
theorem zs_init {Rr : Result → Shared → Prop} (kh : A.handled = none) (Z : Sep z0 TI TO i1 i2 i3 l1 l2 l3) (n1 : l1 ≠ i1) (n2 : l2 ≠ i2) (n3 : l3 ≠ i3) (B : Below z0 TI TO i1 i2 i3 S M) (O : Off z0 TI TO i1 i2 i3 l1 l2 l3 S)
    (hy : ys.size = xs.size) (hu : us.size = xs.size) (hn : xs.size ≤ sizeLine) (h0 : 0 < xs.size) (kz0 : IsZip s.heap z0 TI TO .none) (st : ZS s.heap z0 TI TO i1 i2 i3 l1 l2 l3 M xs ys us 0)
    (kS : s.heap.get? S = some { cls := .type "list", data := .seq #[] })
    (hR : ∀ h' tk acc' c', (∀ b o, b ≠ z0 → b ≠ TO → b ≠ i1 → b ≠ i2 → b ≠ i3 → b ≠ S → s.heap.get? b = some o → h'.get? b = some o) → h'.get? S = some { cls := .type "list", dict := none, data := .seq acc' c', slots := #[] } → Trip h' M xs ys us acc' xs.size → Rr (.ok (.ret .none)) { s with heap := h', toks := tk }) :
    wpAny (model pgm w) A.in1 (Builtin.«list.__init__» ⟨[.ref S, .ref z0], []⟩)
      (fun fi s' => match fi with | .done f => Rr (.ok f) s' | .again c' => c'.quiet = true ∧ codeAny (model pgm w) A c' Rr s') (fun e s' => Rr (.error e) s') s := by
  show wpAny _ A.in1 (do let old ← Builtin.List.listItems (.ref S); Builtin.List.listUpdate (.ref S) (fun _ => #[]); letGo old.toList.reverse; Builtin.List.listExtendWith (.ref S) (.ref z0) .none) _ _ s
  refine wpAny_bind ?_
  unfold Builtin.List.listItems
  refine wpAny_bind (wpAny_seqItems kS rfl (wpAny_pure ?_))
  show wpAny _ A.in1 (updateSeq S (fun _ => #[]) >>= fun a => letGo (#[] : Array Value).toList.reverse >>= fun b => Builtin.List.listExtendWith (.ref S) (.ref z0) .none) _ _ s
  have sb := Heap.SameBut.update s.heap S (Obj.mapSeq fun _ => (#[] : Array Value))
  have kb : ∀ b o, b ≠ S → s.heap.get? b = some o → (s.heap.update S (Obj.mapSeq fun _ => (#[] : Array Value))).get? b = some o := fun b o hb e => (sb.2 b hb).trans e
  refine wpAny_bind (wpAny_updateSeq kS rfl (wpAny_bind (wpAny_letGo ?_)))
  exact zs_extend kh Z n1 n2 n3 B O hy hu hn h0 .none (kb _ _ O.z0 kz0) (st.but O B.S kb sb.1) (Heap.get?_update_self (Obj.mapSeq fun _ => (#[] : Array Value)) kS rfl) fun h' tk acc' c' hk hS' ht => hR h' tk acc' c' (fun b o c0 cO c1 c2 c3 cS e => hk b o c0 cO c1 c2 c3 cS (kb b o cS e)) hS' ht
theorem zs_list {Q : Value → Shared → Prop} (kh : A.handled = none) (Z : Sep z0 TI TO i1 i2 i3 l1 l2 l3) (n1 : l1 ≠ i1) (n2 : l2 ≠ i2) (n3 : l3 ≠ i3) (kz0 : IsZip s.heap z0 TI TO .none) {a b c : Value} (kTO : IsTupOf3 s.heap TO a b c) (it : It3 s.heap TI i1 i2 i3 l1 l2 l3 xs ys us 0)
    (hy : ys.size = xs.size) (hu : us.size = xs.size) (hn : xs.size ≤ sizeLine) (h0 : 0 < xs.size)
    (hQ : ∀ h' tk acc' c', (∀ b o, b ≠ z0 → b ≠ TO → b ≠ i1 → b ≠ i2 → b ≠ i3 → s.heap.get? b = some o → h'.get? b = some o) → h'.get? s.heap.objs.size = some { cls := .type "list", dict := none, data := .seq acc' c', slots := #[] } → Trip h' (s.heap.objs.size + 1) xs ys us acc' xs.size → Q (.ref s.heap.objs.size) { s with heap := h', toks := tk }) :
    wpAny (model pgm w) A (call (.type "list") [.ref z0]) Q E s := by
  have kh1 : A.in1.handled = none := kh
  have kS : (s.heap.push { cls := .type "list", data := .seq #[] }).get? s.heap.objs.size = some { cls := .type "list", data := .seq #[] } := Heap.get?_push_size _ rfl
  have up : ∀ {c o}, s.heap.get? c = some o → (s.heap.push { cls := .type "list", data := .seq #[] }).get? c = some o := fun e => Heap.get?_push_of_some _ e
  have lt : ∀ {c o}, s.heap.get? c = some o → c < s.heap.objs.size := fun e => Heap.lt_size e
  have ne : ∀ {c o}, s.heap.get? c = some o → c ≠ s.heap.objs.size := fun e => Nat.ne_of_lt (Heap.lt_size e)
  obtain ⟨kTI, ⟨p1, q1⟩, ⟨p2, q2⟩, ⟨p3, q3⟩⟩ := it
  obtain ⟨o1, e1, _⟩ := id p1
  obtain ⟨o2, e2, _⟩ := id p2
  obtain ⟨o3, e3, _⟩ := id p3
  obtain ⟨o4, e4, _⟩ := id q1
  obtain ⟨o5, e5, _⟩ := id q2
  obtain ⟨o6, e6, _⟩ := id q3
  have B : Below z0 TI TO i1 i2 i3 s.heap.objs.size (s.heap.objs.size + 1) := ⟨Nat.lt_succ_of_lt (lt kz0), Nat.lt_succ_of_lt (lt kTO), Nat.lt_succ_of_lt (lt e1), Nat.lt_succ_of_lt (lt e2), Nat.lt_succ_of_lt (lt e3), Nat.lt_succ_self _⟩
  have O : Off z0 TI TO i1 i2 i3 l1 l2 l3 s.heap.objs.size := ⟨ne kz0, ne kTI, ne kTO, ne e1, ne e2, ne e3, ne e4, ne e5, ne e6⟩
  refine callType_codes (Q₁ := fun obj s₁ => obj = .ref s.heap.objs.size ∧ s₁ = { s with heap := s.heap.push { cls := .type "list", data := .seq #[] } }) PySem.F.called_list (PySem.F.typeCall_list_1 _) PySem.F.entry_list_init (code_list_new _ ⟨rfl, rfl⟩) fun obj s₁ h₁ => ?_
  obtain ⟨rfl, rfl⟩ := h₁
  have st : ZS (s.heap.push { cls := .type "list", data := .seq #[] }) z0 TI TO i1 i2 i3 l1 l2 l3 (s.heap.objs.size + 1) xs ys us 0 :=
    ⟨⟨up kTI, ⟨p1.at fun o e => up e, q1.at fun o e => up e⟩, ⟨p2.at fun o e => up e, q2.at fun o e => up e⟩, ⟨p3.at fun o e => up e, q3.at fun o e => up e⟩⟩, Nat.le_of_eq (Heap.size_push ..).symm, .inl ⟨rfl, up kz0, a, b, c, up kTO⟩⟩
  refine ⟨⟨_, kS, rfl⟩, PySem.F.args_list_init_2 _ _, ?_⟩
  refine zs_init (A := A.in1) (s := { s with heap := s.heap.push { cls := .type "list", data := .seq #[] } }) kh1 Z n1 n2 n3 B O hy hu hn h0 (up kz0) st kS fun h' tk acc' c' hk hS' ht => ?_
  exact ⟨rfl, hQ h' tk acc' c' (fun b o c0 cO c1 c2 c3 e => hk b o c0 cO c1 c2 c3 (ne e) (up e)) hS' ht⟩
end
def refOf : Value → Addr
  | .ref a => a
  | _ => 0
open Classical in
/-- what is known behind list(zip(..)) -/
noncomputable def zipHp (H : Hp) (S : Addr) (ps : List Addr) (xs ys us : List V) : Hp := fun b => if b = S then some (.lst (ps.map V.ref)) else if h : ∃ j : Nat, ps[j]? = some b then some (.tup [xs.getD h.choose .non, ys.getD h.choose .non, us.getD h.choose .non]) else H b
theorem zipHp_S {H : Hp} {S : Addr} {ps : List Addr} {xs ys us : List V} : zipHp H S ps xs ys us S = some (.lst (ps.map V.ref)) := if_pos rfl
theorem zipHp_T {H : Hp} {S : Addr} {ps : List Addr} {xs ys us : List V} {j : Nat} {q : Addr} (kS : q ≠ S) (hj : ps[j]? = some q) (inj : ∀ k, ps[k]? = some q → k = j) : zipHp H S ps xs ys us q = some (.tup [xs.getD j .non, ys.getD j .non, us.getD j .non]) := by
  have h : ∃ j : Nat, ps[j]? = some q := ⟨j, hj⟩
  unfold zipHp
  rw [if_neg kS, dif_pos h, inj _ h.choose_spec]
theorem zipHp_old {H : Hp} {S : Addr} {ps : List Addr} {xs ys us : List V} {b : Addr} (kS : b ≠ S) (hb : ∀ j : Nat, ps[j]? ≠ some b) : zipHp H S ps xs ys us b = H b := by
  unfold zipHp
  rw [if_neg kS, dif_neg fun ⟨j, e⟩ => hb j e]
theorem getD_of {xs : List V} {j : Nat} {x : V} (h : xs[j]? = some x) : xs.getD j .non = x := by
  rw [List.getD_eq_getElem?_getD, h]
  rfl
section
variable {X : Cx}
def tListZip3 (ta : TA) : TE := fun σ H Q => ta σ H fun vs H1 => match vs with
  | [.ref a, .ref b, .ref c] => ∃ xs ys us : List V, H1 a = some (.lst xs) ∧ H1 b = some (.lst ys) ∧ H1 c = some (.lst us) ∧ ys.length = xs.length ∧ us.length = xs.length ∧ 0 < xs.length ∧
      ∀ (H' : Hp) (p : Addr) (ps : List Addr), Same H1 H' → H1 p = none → H' p = some (.lst (ps.map V.ref)) → ps.length = xs.length → (∀ (j : Nat) (q : Addr), ps[j]? = some q → ∃ x y u, xs[j]? = some x ∧ ys[j]? = some y ∧ us[j]? = some u ∧ H' q = some (.tup [x, y, u])) → Q (.ref p) H'
  | _ => False
theorem boot_list' : bootBuiltins "list" = some (.type "list") := by decide +kernel
theorem boot_zip' : bootBuiltins "zip" = some (.type "zip") := by decide +kernel
theorem u_listZip3 {a b c : Expr} {ta : TA} {p p2 pos pos2 : Pos} (hl : X.mg "list" = none) (kz0 : X.mg "zip" = none) (ha : PA X [a, b, c] ta) (hc : X.calm = true := by rfl) (hg : Gl X "list" := by rfl) (hg2 : Gl X "zip" := by rfl)
    (hs : starEach [a, b, c] X.env = (false, eval a X.env) :: starEach [b, c] X.env := by rfl) (hpl : (backTo pos2 (starEach [b, c] X.env)).any (·.1) = false := by rfl)
    (hs2 : starEach [.Call (.Name "zip" p2) [a, b, c] [] pos2] X.env = (false, eval (.Call (.Name "zip" p2) [a, b, c] [] pos2) X.env) :: starEach [] X.env := by rfl) :
    PE X (.Call (.Name "list" p) [.Call (.Name "zip" p2) [a, b, c] [] pos2] [] pos) (tListZip3 ta) := by
  refine ⟨fun pins s σ H Q I h => ?_⟩
  refine Call_ (ld_blt I hg hl boot_list' (PyProof.Rows.callWith_type1 (args_cons (Call_ (ld_blt I hg2 kz0 boot_zip' (PyProof.Rows.callWith_type1 (thn (ha.run pos2 pins s σ H _ I h) fun us0 s1 ⟨vs, H1, I1, r1, q1⟩ => ?_) hs hpl))) hs2) hs2 rfl))
  dsimp only at q1
  split at q1
  case h_2 => exact q1.elim
  rename_i a b c
  obtain ⟨xs, ys, us, ea, eb, ec, hy, hu, h0, q⟩ := q1
  obtain ⟨va, rfl, ra, ra'⟩ : ∃ va, us0 = Value.ref a :: va ∧ True ∧ Vals [V.ref b, V.ref c] va := by
    cases r1 with
    | cons r t =>
      have r : _ = Value.ref a := r
      subst r
      exact ⟨_, rfl, trivial, t⟩
  obtain ⟨vb, rfl, ra2⟩ : ∃ vb, va = Value.ref b :: vb ∧ Vals [V.ref c] vb := by
    cases ra' with
    | cons r t =>
      have r : _ = Value.ref b := r
      subst r
      exact ⟨_, rfl, t⟩
  obtain rfl := Vals.ref1 ra2
  obtain ⟨A1, rv1, pl1, hz1⟩ := I1.list (SqL.of (K := X.K) ea)
  obtain ⟨A2, rv2, pl2, hz2⟩ := I1.list (SqL.of (K := X.K) eb)
  obtain ⟨A3, rv3, pl3, hz3⟩ := I1.list (SqL.of (K := X.K) ec)
  have L1 := rv1.length
  have L2' := rv2.length
  have L3 := rv3.length
  have lta : a < s1.heap.objs.size := by
    obtain ⟨o, e, _⟩ := pl1.isList
    exact Heap.lt_size e
  have ltb : b < s1.heap.objs.size := by
    obtain ⟨o, e, _⟩ := pl2.isList
    exact Heap.lt_size e
  have ltc : c < s1.heap.objs.size := by
    obtain ⟨o, e, _⟩ := pl3.isList
    exact Heap.lt_size e
  refine PySem.zip_begins3 (begins_list a A1.toArray) (begins_list b A2.toArray) (begins_list c A3.toArray) pl1.isList pl2.isList pl3.isList fun h1 hz' kTI kTO g1 g2 g3 hsz hk => args_nil ?_
  have Z : Sep (s1.heap.objs.size + 5) (s1.heap.objs.size + 3) (s1.heap.objs.size + 4) s1.heap.objs.size (s1.heap.objs.size + 1) (s1.heap.objs.size + 2) a b c :=
    zip_sep3 (fp1 := [a]) (fp2 := [b]) (fp3 := [c]) (fun x hx => by rw [List.mem_singleton.mp hx]; exact lta) (fun x hx => by rw [List.mem_singleton.mp hx]; exact ltb) fun x hx => by rw [List.mem_singleton.mp hx]; exact ltc
  have it : It3 h1 (s1.heap.objs.size + 3) s1.heap.objs.size (s1.heap.objs.size + 1) (s1.heap.objs.size + 2) a b c A1.toArray A2.toArray A3.toArray 0 :=
    ⟨kTI, ⟨⟨_, g1, rfl, rfl⟩, pl1.isList.at fun o e => hk _ _ e⟩, ⟨⟨_, g2, rfl, rfl⟩, pl2.isList.at fun o e => hk _ _ e⟩, ⟨⟨_, g3, rfl, rfl⟩, pl3.isList.at fun o e => hk _ _ e⟩⟩
  refine zs_list (s := { s1 with heap := h1 }) (I1.ok.hd hc) Z (Nat.ne_of_lt lta) (Nat.ne_of_lt (Nat.lt_succ_of_lt ltb)) (Nat.ne_of_lt (Nat.lt_succ_of_lt (Nat.lt_succ_of_lt ltc))) hz' kTO it (by simp only [List.size_toArray]; omega) (by simp only [List.size_toArray]; omega) (by simp only [List.size_toArray]; omega) (by simp only [List.size_toArray]; omega) fun h2 tk acc c2 hk2 kS ht => ?_
  have kS : h2.get? h1.objs.size = some { cls := .type "list", dict := none, data := .seq acc c2, slots := #[] } := kS
  have ht : Trip h2 (h1.objs.size + 1) A1.toArray A2.toArray A3.toArray acc A1.toArray.size := ht
  have kall : ∀ x o, s1.heap.get? x = some o → h2.get? x = some o := fun x o e => by
    have hx := Heap.lt_size e
    have ne : ∀ k : Nat, x ≠ s1.heap.objs.size + k := fun k z0 => by
      rw [z0] at hx
      exact absurd hx (Nat.not_lt.mpr (Nat.le_add_right _ _))
    exact hk2 x o (ne 5) (ne 4) (ne 0) (ne 1) (ne 2) (hk x o e)
  obtain ⟨⟨hasz, hinj⟩, hat⟩ := ht
  have hasz : acc.size = A1.length := by rw [hasz]; exact List.size_toArray ..
  let ps : List Addr := acc.toList.map refOf
  have hps : ∀ (j : Nat) (q : Addr), ps[j]? = some q → ∃ vx vy vu x y u, acc[j]? = some (Value.ref q) ∧ h1.objs.size + 1 ≤ q ∧ IsTupOf3 h2 q vx vy vu ∧ xs[j]? = some x ∧ ys[j]? = some y ∧ us[j]? = some u ∧ RelV x vx ∧ RelV y vy ∧ RelV u vu := fun j q e => by
    have e : (acc.toList.map refOf)[j]? = some q := e
    rw [List.getElem?_map] at e
    cases e2 : acc.toList[j]? with
    | none =>
      rw [e2] at e
      cases e
    | some v =>
      rw [e2] at e
      have e3 : acc[j]? = some v := by rw [← Array.getElem?_toList]; exact e2
      obtain ⟨T, vx, vy, vu, rfl, hM, d, w1, w2, w3⟩ := hat j v e3
      have e : some T = some q := e
      cases e
      obtain ⟨x, k1, r1⟩ := vals_at rv1 (show A1[j]? = some vx by simpa using w1)
      obtain ⟨y, k2, r2⟩ := vals_at rv2 (show A2[j]? = some vy by simpa using w2)
      obtain ⟨u, k3, r3⟩ := vals_at rv3 (show A3[j]? = some vu by simpa using w3)
      exact ⟨vx, vy, vu, x, y, u, e3, hM, d, k1, k2, k3, r1, r2, r3⟩
  have hpl : ps.length = xs.length := by
    show (acc.toList.map refOf).length = _
    rw [List.length_map, Array.length_toList, hasz]
    omega
  have hpinj : ∀ (j k : Nat) (q : Addr), ps[j]? = some q → ps[k]? = some q → k = j := fun j k q e1 e2 => by
    obtain ⟨_, _, _, _, _, _, a1, _⟩ := hps j q e1
    obtain ⟨_, _, _, _, _, _, a2, _⟩ := hps k q e2
    exact hinj k j _ a2 a1
  have old : ∀ x : Addr, x < s1.heap.objs.size → x ≠ h1.objs.size ∧ ∀ j : Nat, ps[j]? ≠ some x := fun x hx => by
    refine ⟨fun z0 => ?_, fun j e => ?_⟩
    · rw [z0, hsz] at hx
      exact absurd hx (Nat.not_lt.mpr (Nat.le_add_right _ _))
    · obtain ⟨_, _, _, _, _, _, _, hM, _⟩ := hps j x e
      rw [hsz] at hM
      exact absurd (Nat.lt_of_lt_of_le hx (Nat.le_add_right _ 7)) (Nat.not_lt.mpr hM)
  have trk : ∀ (x : Addr) (o : HO), H1 x = some o → x < s1.heap.objs.size := fun x o e => by
    by_cases z0 : x < s1.heap.objs.size
    · exact z0
    · have := I1.hok.fresh (Nat.le_of_not_lt z0)
      rw [this] at e
      cases e
  have keepH : ∀ (x : Addr) (o : HO), H1 x = some o → zipHp H1 h1.objs.size ps xs ys us x = some o := fun x o e => by
    have := old x (trk x o e)
    rw [zipHp_old this.1 this.2]
    exact e
  have hnS : H1 h1.objs.size = none := I1.hok.fresh (by rw [hsz]; exact Nat.le_add_right _ _)
  have hqS : ∀ (j : Nat) (q : Addr), ps[j]? = some q → q ≠ h1.objs.size := fun j q e z0 => by
    obtain ⟨_, _, _, _, _, _, _, hM, _⟩ := hps j q e
    rw [z0] at hM
    exact absurd hM (Nat.not_le.mpr (Nat.lt_succ_self _))
  have hzl := sizeLine_eq
  refine ⟨.ref h1.objs.size, zipHp H1 h1.objs.size ps xs ys us, I1.un (t' := tk) ⟨fun x o e _ _ _ => kall x o e, fun x o e _ _ _ => ⟨o.slots, kall x o e⟩, fun x o e n _ => ?_, fun x o e _ => ⟨o, kall x o e⟩, fun x vs e => keepH x _ e, fun x o u e => keepH x _ e, fun x p e => ⟨#[], ?_⟩⟩ ?_, rfl, ?_⟩
  · have := old x (Heap.lt_size e)
    rw [zipHp_old this.1 this.2]
    exact n
  · rw [keepH x _ e]
    simp
  · intro x u e
    by_cases hxS : x = h1.objs.size
    · subst hxS
      rw [zipHp_S] at e
      cases e
      refine ⟨by rw [List.length_map, hpl]; exact hz1, acc.toList, c2, ?_, by rw [Array.toArray_toList]; exact kS⟩
      have ee1 : (ps.map V.ref).length = ps.length := List.length_map _
      have ee2 : acc.toList.length = acc.size := Array.length_toList
      refine vals_of_at (ee1.trans (by rw [ee2, hasz, hpl]; omega)) fun j v w k1 k2 => ?_
      rw [List.getElem?_map] at k1
      cases e2 : ps[j]? with
      | none =>
        rw [e2] at k1
        cases k1
      | some q =>
        rw [e2] at k1
        cases k1
        obtain ⟨_, _, _, _, _, _, a1, _⟩ := hps j q e2
        rw [Array.getElem?_toList, a1] at k2
        cases k2
        rfl
    · by_cases hxp : ∃ j : Nat, ps[j]? = some x
      · obtain ⟨j, hj⟩ := hxp
        obtain ⟨vx, vy, vu, x0, y0, u0, a1, hM, d, k1, k2, k3, r1, r2, r3⟩ := hps j x hj
        rw [zipHp_T hxS hj fun k hk => hpinj j k x hj hk, getD_of k1, getD_of k2, getD_of k3] at e
        cases e
        exact ⟨show 3 ≤ sizeLine by omega, [vx, vy, vu], .cons r1 (.cons r2 (.cons r3 .nil)), ⟨_, d, rfl, 0, rfl⟩⟩
      · rw [zipHp_old hxS fun j hj => hxp ⟨j, hj⟩] at e
        exact (I1.hok x u e).stay (fun c v _ q => kall c v q) (fun c hc => keepH c _ hc) fun c vs hc => keepH c _ hc
  · refine q _ _ ps keepH hnS zipHp_S hpl fun j q0 hj => ?_
    obtain ⟨vx, vy, vu, x0, y0, u0, a1, hM, d, k1, k2, k3, _⟩ := hps j q0 hj
    refine ⟨x0, y0, u0, k1, k2, k3, ?_⟩
    rw [zipHp_T (hqS j q0 hj) hj fun k hk => hpinj j k q0 hj hk, getD_of k1, getD_of k2, getD_of k3]
end
end K90
/-! try with one except clause (BadBytes); a class made where an error may come out; 'a' * n; None in a list of lists. -/
namespace K90
open PySem PySem.Spec PyProof.Rows L2 RT RZ
section
variable {X : Cx} {K : PySem.W.Frag} {mg : Str → Option Value}
/-- try: body except BadBytes: suite -/
theorem us_try {body suite : List Stmt} {b₀ : Stmt} {np pos pos' : Pos} {tb : WX → TS} {ts : Addr → Value → Option Addr → TS} {Wout : WX} (T : Txt X.K X.mg) (tk : Takes X Wout)
    (hb : ∀ (W : WX) (pn : List (Addr × Obj)) (xee : Value → Shared → Prop), Takes (X.tr pn xee) W → PassesOwn (model X.prog X.w) X.A X.env xee → PSs (X.tr pn xee) body (tb W))
    (hsu : ∀ (a : Addr) (oe : Obj) (cls : Value) (d : Option Addr) (pn : List (Addr × Obj)), Zc cls d oe → (∃ vs, oe.data = .fields vs) → PSs (X.suite a ((a, oe) :: pn)) (b₀ :: suite) (ts a cls d))
    (hs : X.stack = X.env :: X.outer := by rfl) (hf : X.env.frame = some X.env.locals := by rfl) (hg : Gl X "BadBytes" := by rfl) :
    PS X (.Try body [.ExceptHandler (some (.Name "BadBytes" np)) none (b₀ :: suite) pos'] [] [] pos) (fun D σ H => tb (wOnly X.K (.ref (CB X.K)) ts Wout D) D σ H) :=
  ps_try_only hs hf ⟨hg, by decide, .inl (gc_BadBytes T)⟩ tk hb hsu
/-- C(..) made; what it lets out goes to W -/
def tMakeW (C : Addr) (sp : Sp) (W : WX) (t : TA) : TE := fun σ H Q => t σ H fun vs H1 => ∀ x dx, H1 x = none → H1 dx = none → dx ≠ x → sp (.ref x :: vs) (upd (upd H1 dx (.own x)) x (.ins C dx [])) (fun v H2 => v = .non ∧ Q (.ref x) H2) (WE W σ)
theorem u_makeX {k j : Nat} {x : Str} {C : Addr} {sp : Sp} {W : WX} {e : Expr} {ers : List Expr} {t : TA} {p pos : Pos} (c : CalC X.prog X.w X.K X.mg X.base k x C sp) (tk : Takes X W) (hr : Room j X.A) (hk : k + 1 ≤ j) (ha : PA X (e :: ers) t) (hg : Gl X x := by rfl)
    (hnd : (x == ("__debug__" : Str)) = false := by decide) (hstar : starEach (e :: ers) X.env = (false, eval e X.env) :: starEach ers X.env := by rfl) (hspl : (backTo pos (starEach ers X.env)).any (·.1) = false := by rfl) :
    PE X (.Call (.Name x p) (e :: ers) [] pos) (tMakeW C sp W t) := by
  obtain ⟨f, fd, ps, F, hm, M, b⟩ := c.ex
  refine ⟨fun pins s σ H Q I h => ?_⟩
  refine wpAny_Call_Name_kw (ld_glob I hg hm ?_ hnd)
  refine PySem.W.callWith_K (h₀ := X.base) I.ok.mod.kin M.kp (thn (ha.run pos pins s σ H _ I h) fun uvs s1 ⟨vs, H1, J1, r, q⟩ => ⟨J1.kIn, ?_⟩) hstar hspl
  have hq := q (s1.heap.objs.size + 1) s1.heap.objs.size (J1.hok.fresh (Nat.le_succ _)) (J1.hok.fresh (Nat.le_refl _)) (Nat.ne_of_lt (Nat.lt_succ_self _))
  have J := Inv.made (C := C) J1
  have r2 : Vals (V.ref (s1.heap.objs.size + 1) :: vs) (Value.ref (s1.heap.objs.size + 1) :: uvs) := .cons rfl r
  have hl : (Value.ref (s1.heap.objs.size + 1) :: uvs ++ []).length = ps.length := by
    rw [List.append_nil, ← r2.length, F.len _ _ _ _ hq]
  have bt := b _ (Value.ref (s1.heap.objs.size + 1) :: uvs) J.kIn hl
  rw [List.append_nil] at bt
  have run := F.run _ X.stack _ _ ⟨Value.ref (s1.heap.objs.size + 1) :: uvs, []⟩ (Value.ref (s1.heap.objs.size + 1) :: uvs) _ _ _ ((hr.mono hk).make C uvs []) (J.env0.make C uvs []) bt r2 hq
  refine wpAny_call (make_map (f := f) J1.kIn M.makes M.init (beq_iff_eq.mp M.fn) (codeAny_mono run fun o s' g => ?_))
  cases o with
  | error u => exact passAt tk σ pins _ _ u s' J g
  | ok fl =>
    cases fl with
    | ret u =>
      obtain ⟨v, H', I3, rv, ev, q3⟩ := J.after g
      subst ev
      exact ⟨rv, ⟨V.ref (s1.heap.objs.size + 1), H', I3, rfl, q3⟩⟩
    | next => exact g.elim
    | brk => exact g.elim
    | cont => exact g.elim
/-- None in a list of Nones and lists of ints -/
def uInN (K : PySem.W.Frag) : R2 := fun x y H Q => match x, y with
  | .non, .ref p => ∃ xs, SqL K H p xs ∧ (∀ v ∈ xs, v = .non ∨ ∃ (q : Addr) (ns : List Int), v = .ref q ∧ H q = some (.lst (ns.map V.int))) ∧ Q (.bl (xs.any fun v => decide (v = .non))) H
  | _, _ => False
def isNoneV : Value → Bool
  | .none => true
  | _ => false
theorem vals_mem : ∀ {xs : List V} {uvs : List Value}, Vals xs uvs → ∀ u ∈ uvs, ∃ x ∈ xs, RelV x u
  | _, _, .nil, u, h => by cases h
  | _, _, .cons r t, u, h => by
    rcases List.mem_cons.mp h with rfl | h
    · exact ⟨_, by simp, r⟩
    · obtain ⟨x, h1, h2⟩ := vals_mem t u h
      exact ⟨x, by simp [h1], h2⟩
theorem isNone_rel {x : V} {u : Value} (r : RelV x u) : isNoneV u = decide (x = .non) := by
  cases x with
  | non =>
    have r : u = Value.none := r
    subst r
    rfl
  | bl b =>
    have r : u = Value.bool b := r
    subst r
    simp [isNoneV]
  | int i =>
    obtain ⟨t, rfl⟩ := r
    simp [isNoneV]
  | str z =>
    obtain ⟨t, rfl⟩ := r
    simp [isNoneV]
  | byt b =>
    obtain ⟨t, rfl⟩ := r
    simp [isNoneV]
  | flt b =>
    obtain ⟨t, rfl⟩ := r
    simp [isNoneV]
  | ref a =>
    have r : u = Value.ref a := r
    subst r
    simp [isNoneV]
  | ty n =>
    have r : u = Value.type n := r
    subst r
    simp [isNoneV]
theorem any_rel : ∀ {xs : List V} {uvs : List Value}, Vals xs uvs → uvs.any isNoneV = xs.any fun v => decide (v = .non)
  | _, _, .nil => rfl
  | _, _, .cons r t => by rw [List.any_cons, List.any_cons, any_rel t, isNone_rel r]
theorem o_inN (hu : X.A.units + 64 < cLine) : OpR X (compareOp .In) (uInN X.K) := fun pins s σ H x y v u Q I rx ry h => by
  unfold uInN at h
  split at h
  · rename_i p
    obtain ⟨xs, hs, hm, q⟩ := h
    have rx : v = Value.none := rx
    have ry : u = Value.ref p := ry
    subst rx ry
    obtain ⟨its, rv, pli, hz⟩ := I.list hs
    refine SeqAt.in_listAt isNoneV pli.isList (fun w hw => ?_) ⟨.bl _, H, I, rfl, ?_⟩
    · obtain ⟨v, hv, rw'⟩ := vals_mem rv w (by simpa using hw)
      rcases hm v hv with rfl | ⟨q, ns, rfl, hq⟩
      · have e : w = Value.none := rw'
        subst e
        exact SeqAt.eqAt_reads .none .none X.A.in1 s _ _ [] [] Reads.none Reads.none rfl rfl (by show X.A.units + 1 + 0 < cLine; omega)
      · obtain ⟨as, r1⟩ := Dp.reads I (.list (ns.map PyData.int)) (.ref q) w (.lst (SqL.of hq) (dp_ints ns)) rw'
        have e : w = Value.ref q := rw'
        subst e
        have := SeqAt.eqAt_reads (.list (ns.map PyData.int)) .none X.A.in1 s _ _ as [] r1 Reads.none (lay_ints ns) rfl (by
          have : min (PyData.depth (.list (ns.map PyData.int))) (PyData.depth .none) = 0 := Nat.min_eq_zero_iff.mpr (.inr rfl)
          rw [this]
          show X.A.units + 1 + 0 < cLine
          omega)
        exact this
    · rw [show its.toArray.any isNoneV = its.any isNoneV by simp, any_rel rv]
      exact q
  · exact h.elim
/-- 'a' * 20 -/
def uMulA : R2 := fun x y H Q => match x, y with
  | .str z, .int n => z = "a" ∧ n = 20 ∧ Q (.str "aaaaaaaaaaaaaaaaaaaa") H
  | _, _ => False
theorem o_mulS : OpR X (binaryOp .Mult) uMulA := fun pins s σ H x y v u Q I rx ry h => by
  unfold uMulA at h
  split at h
  · obtain ⟨rfl, rfl, q⟩ := h
    obtain ⟨t, rfl⟩ := rx
    obtain ⟨t', rfl⟩ := ry
    refine PySem.P.mul_str (by decide) (fun _ _ => by decide +kernel) (fun _ _ => by decide +kernel) ?_
    rw [if_neg (by decide), if_neg (by decide +kernel)]
    exact ⟨by decide +kernel, .str "aaaaaaaaaaaaaaaaaaaa", H, I.tok _, ⟨_, rfl⟩, q⟩
  · exact h.elim
end
end K90
namespace K90
open PySem PySem.Spec PyProof.Rows L2 RT RZ
/-- a row of bytes: a list or a tuple of ints -/
def RowAt (H : Hp) (r : Addr) (bs : List Int) : Prop := H r = some (.lst (bs.map V.int)) ∨ H r = some (.tup (bs.map V.int))
theorem RowAt.same {H H' : Hp} {r : Addr} {bs : List Int} (h : RowAt H r bs) (s : Same H H') : RowAt H' r bs := h.imp (s _ _) (s _ _)
theorem RowAt.sq {K : PySem.W.Frag} {H : Hp} {r : Addr} {bs : List Int} (h : RowAt H r bs) : SqL K H r (bs.map V.int) ∨ SqT K H r (bs.map V.int) := h.imp SqL.of SqT.of
/-- what a refusal is to reach -/
def Refuse (K : PySem.W.Frag) (H : Hp) (E : XK) : Prop := ∀ d H', Same H H' → E (.ref (CB K)) (some d) H'
theorem Refuse.mono {K : PySem.W.Frag} {H H1 : Hp} {E : XK} (h : Refuse K H E) (s : Same H H1) : Refuse K H1 E := fun d H' s' => h d H' (s.trans s')
theorem atN {α : Type} {xs : List α} {n : Nat} {x : α} (h : xs[n]? = some x) : atI xs (n : Int) = some x := by
  have hl : n < xs.length := (List.getElem?_eq_some_iff.mp h).1
  have e : ixN xs.length (n : Int) = some n := by
    unfold ixN
    rw [if_pos (by omega)]
    simp [hl]
  unfold atI
  rw [e]
  exact h
theorem atI_int {bs : List Int} {n : Nat} {b : Int} (h : bs[n]? = some b) : atI (bs.map V.int) (n : Int) = some (.int b) := at_of rfl (by rw [List.getElem?_map, h] <;> rfl)
/-- a reading's outcome -/
def ok {α : Type} (o : Option α) (F : α → Prop) (R : Prop) : Prop := match o with
  | some x => F x
  | none => R
theorem ok_map {α β : Type} {o : Option α} {g : α → β} {F : β → Prop} {R : Prop} : ok (o.map g) F R = ok o (fun x => F (g x)) R := by cases o <;> rfl
theorem ok_bind {α β : Type} {o : Option α} {g : α → Option β} {F : β → Prop} {R : Prop} : ok (o.bind g) F R = ok o (fun x => ok (g x) F R) R := by cases o <;> rfl
theorem ok_imp {α : Type} {o : Option α} {F F' : α → Prop} {R R' : Prop} (h : ok o F R) (f : ∀ x, o = some x → F x → F' x) (r : R → R') : ok o F' R' := by
  cases o with
  | none => exact r h
  | some x => exact f x rfl h
theorem len2 {α : Type} {a b : α} : [a, b].length ≤ sizeLine := by rw [sizeLine_eq]; simp
theorem len3 {α : Type} {a b c : α} : [a, b, c].length ≤ sizeLine := by rw [sizeLine_eq]; simp
theorem len4 {α : Type} {a b c d : α} : [a, b, c, d].length ≤ sizeLine := by rw [sizeLine_eq]; simp
theorem len1 {α : Type} {a : α} : [a].length ≤ sizeLine := by rw [sizeLine_eq]; simp
/-- a cell's value -/
def cv : Cell → V
  | .non => .non
  | .int i => .int i
  | .str l => .str ⟨l.toArray⟩
def Cell.isInt : Cell → Bool
  | .int _ => true
  | _ => false
/-- a thing of the kind -/
def Cell.isOf (text : Bool) : Cell → Bool
  | .non => true
  | .int i => !text && decide ((if i < 0 then -i else i) < 1000000000000000000)
  | .str _ => text
def kindS (text : Bool) : Str := if text then "text" else "number"
theorem cv_inj {a b : Cell} (h : cv a = cv b) : a = b := by
  cases a <;> cases b <;> simp_all [cv]
/-- the signs -/
abbrev SG : Str := " !\"#$&'()*+,-./0123456789:;<=>?@ABCDEFGHIJKLMNOPQRSTUVWXYZ[\\]^_`abcdefghijklmnopqrstuvwxyz{|}~"
theorem sg_list : SG.cps.toList = (List.range 94).map signAt := by decide +kernel
theorem sg_len : SG.length = 94 := by decide +kernel
theorem sg_size : SG.length ≤ sizeLine := by rw [sg_len, sizeLine_eq]; decide
theorem isSign_lt {c : Nat} (h : isSign c = true) : 32 ≤ c ∧ c < 127 ∧ c ≠ 37 := by
  unfold isSign at h
  simp at h
  omega
theorem sg_mem {c : Nat} (h : isSign c = true) : c ∈ SG.cps.toList := by
  have a : ∀ c, c < 127 → isSign c = true → c ∈ SG.cps.toList := by decide +kernel
  exact a c (isSign_lt h).2.1 h
theorem sg_idx {c : Nat} (h : isSign c = true) : Txt.index0 SG ⟨#[c]⟩ = some (placeOf c) := by
  have a : ∀ c, c < 127 → isSign c = true → Txt.index0 SG ⟨#[c]⟩ = some (placeOf c) := by decide +kernel
  exact a c (isSign_lt h).2.1 h
theorem sg_at {b : Int} (h0 : 0 ≤ b) (h1 : b < 94) : atI SG.cps.toList b = some (signAt b.toNat) := by
  obtain ⟨n, rfl⟩ := Int.eq_ofNat_of_zero_le h0
  refine atN ?_
  rw [sg_list, List.getElem?_map, List.getElem?_range (by omega)]
  rfl
theorem sg_is {n : Nat} (h : n < 94) : isSign (signAt n) = true := by
  have a : ∀ n, n < 94 → isSign (signAt n) = true := by decide +kernel
  exact a n h
end K90
namespace K90
open PySem PySem.Spec PyProof.Rows L2 RT RZ
section
variable {P : Program} {w : World} {K : PySem.W.Frag} {mg : Str → Option Value} {base : Heap}
def sp_is_number (K : PySem.W.Frag) : Sp := fun vs H Q E => match vs with
  | [.non] => Q (.bl false) H
  | [.int _] => Q (.bl true) H
  | [.str _] => Q (.bl false) H
  | _ => False
theorem sc_is_number : FnScope ["thing"] ["thing"] (defScope s_is_number) := ⟨rfl, rfl, rfl, by decide +kernel, rfl, by decide +kernel, by decide +kernel⟩
theorem ok_is_number (T : Txt K mg) : Cal P w K mg base 3 "is_number" (sp_is_number K) := by
  obtain ⟨fd, F⟩ := D_is_number T
  refine cal_mk (g_is_number T) F sc_is_number (fun _ _ _ _ _ _ us hl => match us, hl with | [_], _ => rfl) (fun vs H Q E h => ?len) (fun cdv A outer s H vs Q E hr h => ⟨_, (pss_one (ps_ret (ue_and (pe_callB (q_isi (K := K)) rfl (b_isinstance T) (by decide +kernel) (pa_cons (uv 0) (pa_cons (pe_bltn (v := .ty "int") rfl (b_int T) (by decide +kernel) rfl) pa_nil))) (pe_one (ue_not (pe_callB (q_isi (K := K)) rfl (b_isinstance T) (by decide +kernel) (pa_cons (uv 0) (pa_cons (pe_bltn (v := .ty "bool") rfl (b_bool T) (by decide +kernel) rfl) pa_nil)))))))), ?body⟩)
  case len => unfold sp_is_number at h; (split at h) <;> first | rfl | exact h.elim
  case body =>
    unfold sp_is_number at h
    split at h
    · refine ⟨_, _, .base .non, rfl, ⟨fun c => ?_, fun c => ?_⟩⟩
      · cases c
      · exact h
    · refine ⟨_, _, .base (.int _), rfl, ⟨fun c => ?_, fun c => ?_⟩⟩
      · exact ⟨_, _, .base (.int _), rfl, h⟩
      · cases c
    · refine ⟨_, _, .base (.str _), rfl, ⟨fun c => ?_, fun c => ?_⟩⟩
      · cases c
      · exact h
    · exact h.elim
/-- a text of signs, at most twenty -/
def sp_is_text_cell (K : PySem.W.Frag) : Sp := fun vs H Q E => match vs with
  | [.non] => Q (.bl false) H
  | [.int _] => Q (.bl false) H
  | [.str z] => z.cps.toList.length ≤ 20 ∧ z.cps.toList.all isSign = true ∧ ∀ H', Same H H' → Q (.bl true) H'
  | _ => False
theorem sc_is_text_cell : FnScope ["thing", "sign"] ["thing"] (defScope s_is_text_cell) := ⟨rfl, rfl, rfl, by decide +kernel, rfl, by decide +kernel, by decide +kernel⟩
theorem ok_is_text_cell (T : Txt K mg) : Cal P w K mg base 3 "is_text_cell" (sp_is_text_cell K) := by
  obtain ⟨fd, F⟩ := D_is_text_cell T
  refine cal_mk (g_is_text_cell T) F sc_is_text_cell (fun _ _ _ _ _ _ us hl => match us, hl with | [_], _ => rfl) (fun vs H Q E h => ?len) (fun cdv A outer s H vs Q E hr h => ⟨_, (pss_one (ps_ret (ue_and (pe_callB (q_isi (K := K)) rfl (b_isinstance T) (by decide +kernel) (pa_cons (uv 0) (pa_cons (pe_bltn (v := .ty "str") rfl (b_str T) (by decide +kernel) rfl) pa_nil))) (ue_and (pe_cmpR o_le (pe_callB (q_len (K := K)) rfl (b_len T) (by decide +kernel) (pa_cons (uv 0) pa_nil)) (u_int (i_MOST_SIGNS T)) (nomark _)) (pe_one (pe_callB (q_all (K := K)) rfl (b_all T) (by decide +kernel) (pa_cons (ue_lc (own := [("sign", 1)]) rfl sc_is_text_cell.nd (j_str (uv 0)) rfl (fun _ _ _ _ _ => (pg_name (i := 1) sc_is_text_cell.nd rfl (by first | exact Or.inl rfl | exact Or.inr rfl))) (fun _ _ _ _ _ => pts_nil) (fun _ _ _ _ _ => (pe_cmpR o_inS (uv 1) (u_str (t_SIGNS T)) (by rfl)))) pa_nil))))))), ?body⟩)
  case len => unfold sp_is_text_cell at h; (split at h) <;> first | rfl | exact h.elim
  case body =>
    unfold sp_is_text_cell at h
    split at h
    · refine ⟨_, _, .base .non, rfl, ⟨fun c => ?_, fun c => ?_⟩⟩
      · cases c
      · exact h
    · refine ⟨_, _, .base (.int _), rfl, ⟨fun c => ?_, fun c => ?_⟩⟩
      · cases c
      · exact h
    · rename_i z
      obtain ⟨h1, h2, h3⟩ := h
      have hz : z.length ≤ 20 := by
        show z.cps.size ≤ 20
        simpa using h1
      refine ⟨_, _, .base (.str _), rfl, ⟨fun c => ?_, fun c => ?_⟩⟩
      · refine ⟨by rw [sizeLine_eq]; omega, ⟨fun c => ?_, fun c => ?_⟩⟩
        · intro D hD
          refine LcGoes.by .str hD (fun i acc H' => acc = (List.replicate i true).map V.bl) rfl (fun _ _ _ _ _ _ _ => trivial) (fun i acc x H1 H2 hi ha s d r it => ?_) (fun acc H1 ha s d r => ?_)
          · obtain ⟨c, e1, rfl, rfl⟩ := it
            refine ⟨rfl, ⟨fun _ => ?_, fun c => ?_⟩⟩
            · refine ⟨c, rfl, ?_⟩
              have hm : decide (c ∈ SG.cps.toList) = true := by
                rw [decide_eq_true_iff]
                exact sg_mem (List.all_eq_true.mp h2 c (List.mem_of_getElem? e1))
              rw [hm]
              exact LcP.put hD (by rw [sizeLine_eq]; have : i < z.length := hi; omega) ha s d (by rw [r]; simp [List.replicate_succ'])
            · cases c
          · refine ⟨_, SqL.of (by rw [d, r]), ?_⟩
            rw [List.all_eq_true.mpr (fun b hb => by rw [List.eq_of_mem_replicate hb]; rfl)]
            exact h3 _ s
        · exact absurd c (by simp; omega)
      · cases c
    · exact h.elim
def sp_is_cell_of (K : PySem.W.Frag) : Sp := fun vs H Q E => match vs with
  | [.str z, v] => ∃ (t : Bool) (c : Cell), z = kindS t ∧ v = cv c ∧ c.tok ∧ ∀ H', Same H H' → Q (.bl (c.isOf t)) H'
  | _ => False
theorem sc_is_cell_of : FnScope ["kind", "thing"] ["kind", "thing"] (defScope s_is_cell_of) := ⟨rfl, rfl, rfl, by decide +kernel, rfl, by decide +kernel, by decide +kernel⟩
theorem ok_is_cell_of (T : Txt K mg) : Cal P w K mg base 4 "is_cell_of" (sp_is_cell_of K) := by
  obtain ⟨fd, F⟩ := D_is_cell_of T
  refine cal_mk (g_is_cell_of T) F sc_is_cell_of (fun _ _ _ _ _ _ us hl => match us, hl with | [_, _], _ => rfl) (fun vs H Q E h => ?len) (fun cdv A outer s H vs Q E hr h => ⟨_, (pss_cons (us_if (ut_cmp o_is (uv 1) pe_non (nomark _)) (pss_one (ps_ret pe_bl)) pss_nil)
      (pss_cons (us_if (ut_cmp (o_eq hr.units) (uv 0) pe_str (nomark _)) (pss_one (ps_ret (ue_and (u_call (ok_is_number T) hr (by decide) (pa_cons (uv 1) pa_nil)) (pe_one (pe_cmpR o_lt (pe_callB c_abs rfl (b_abs T) (by decide +kernel) (pa_cons (uv 1) pa_nil)) (u_int (i_MOST_NUMBER T)) (nomark _)))))) pss_nil)
      (pss_one (ps_ret (u_call (ok_is_text_cell T) hr (by decide) (pa_cons (uv 1) pa_nil)))))), ?body⟩)
  case len => unfold sp_is_cell_of at h; (split at h) <;> first | rfl | exact h.elim
  case body =>
    unfold sp_is_cell_of at h
    split at h
    · rename_i z v
      obtain ⟨t, c, rfl, rfl, hc, h⟩ := h
      refine ⟨fun e => ?_, fun e => ?_⟩
      · cases c with
        | non => exact h _ (Same.refl _)
        | int i => cases e
        | str l => cases e
      · have hn : cv c ≠ .non := by
          intro e2
          rw [e2] at e
          cases e
        refine ⟨rfl, ⟨fun e => ?_, fun e => ?_⟩⟩
        · cases t with
          | true => exact absurd e (by decide)
          | false =>
            cases c with
            | non => exact absurd rfl hn
            | int i => exact ⟨fun _ => h _ (Same.refl _), (nomatch ·)⟩
            | str l => exact ⟨(nomatch ·), fun _ => h _ (Same.refl _)⟩
        · cases t with
          | false => exact absurd e (by decide)
          | true =>
            cases c with
            | non => exact absurd rfl hn
            | int i => exact h _ (Same.refl _)
            | str l => exact ⟨hc.1, hc.2, fun H' s => h H' s⟩
    · exact h.elim
/-- a cell's key -/
def keyOf : Cell → List V
  | .non => [.int 0, .int 0, .str ""]
  | .int i => [.int 1, .int i, .str ""]
  | .str l => [.int 2, .int 0, .str ⟨l.toArray⟩]
def sp_cell_key (K : PySem.W.Frag) : Sp := fun vs H Q E => match vs with
  | [v] => ∃ c : Cell, v = cv c ∧ ∀ p, H p = none → Q (.ref p) (upd H p (.tup (keyOf c)))
  | _ => False
theorem sc_cell_key : FnScope ["cell"] ["cell"] (defScope s_cell_key) := ⟨rfl, rfl, rfl, by decide +kernel, rfl, by decide +kernel, by decide +kernel⟩
theorem ok_cell_key (T : Txt K mg) : Cal P w K mg base 4 "cell_key" (sp_cell_key K) := by
  obtain ⟨fd, F⟩ := D_cell_key T
  refine cal_mk (g_cell_key T) F sc_cell_key (fun _ _ _ _ _ _ us hl => match us, hl with | [_], _ => rfl) (fun vs H Q E h => ?len) (fun cdv A outer s H vs Q E hr h => ⟨_, (pss_cons (us_if (ut_cmp o_is (uv 0) pe_non (nomark _)) (pss_one (ps_ret (pe_tup (pa_cons pe_int (pa_cons pe_int (pa_cons pe_str pa_nil)))))) pss_nil)
      (pss_cons (us_if (ut_val (u_call (ok_is_number T) hr (by decide) (pa_cons (uv 0) pa_nil))) (pss_one (ps_ret (pe_tup (pa_cons pe_int (pa_cons (uv 0) (pa_cons pe_str pa_nil)))))) pss_nil)
      (pss_one (ps_ret (pe_tup (pa_cons pe_int (pa_cons pe_int (pa_cons (uv 0) pa_nil)))))))), ?body⟩)
  case len => unfold sp_cell_key at h; (split at h) <;> first | rfl | exact h.elim
  case body =>
    unfold sp_cell_key at h
    split at h
    · rename_i v
      obtain ⟨c, rfl, h⟩ := h
      cases c with
      | non => exact ⟨fun _ => ⟨len3, h⟩, (nomatch ·)⟩
      | int i => exact ⟨(nomatch ·), fun _ => ⟨fun _ => ⟨len3, h⟩, (nomatch ·)⟩⟩
      | str l => exact ⟨(nomatch ·), fun _ => ⟨(nomatch ·), fun _ => ⟨len3, h⟩⟩⟩
    · exact h.elim
/-- a new list of ints -/
def NewI (H : Hp) (bs : List Int) (Q : VK) : Prop := ∀ H' p, Same H H' → H p = none → H' p = some (.lst (bs.map V.int)) → Q (.ref p) H'
def sp_number_bytes (K : PySem.W.Frag) : Sp := fun vs H Q E => match vs with
  | [.int n] => (numberBytes n).length ≤ 1000 ∧ NewI H (numberBytes n) Q
  | _ => False
theorem zneg {n : Int} (c : decide (n < 0) = true) : -2 * n - 1 = ((zOf n : Nat) : Int) := by
  have c := of_decide_eq_true c
  unfold zOf
  rw [if_pos c]
  omega
theorem zpos {n : Int} (c : decide (n < 0) = false) : 2 * n = ((zOf n : Nat) : Int) := by
  have c := of_decide_eq_false c
  unfold zOf
  rw [if_neg c]
  omega
theorem digs_ge {z : Nat} (h : ¬ z < 128) : digs z = ((z % 128 + 128 : Nat) : Int) :: digs (z / 128) := by
  rw [digs, if_neg h]
theorem digs_lt {z : Nat} (h : z < 128) : digs z = [(z : Int)] := by
  rw [digs, if_pos h]
theorem map_snoc (acc : List Int) (b : Int) : acc.map V.int ++ [V.int b] = (acc ++ [b]).map V.int := by simp
theorem sc_number_bytes : FnScope ["number", "rest", "made"] ["number"] (defScope s_number_bytes) := ⟨rfl, rfl, rfl, by decide +kernel, rfl, by decide +kernel, by decide +kernel⟩
theorem ok_number_bytes (T : Txt K mg) : Cal P w K mg base 3 "number_bytes" (sp_number_bytes K) := by
  obtain ⟨fd, F⟩ := D_number_bytes T
  refine cal_mk (g_number_bytes T) F sc_number_bytes (fun _ _ _ _ _ _ us hl => match us, hl with | [_], _ => rfl) (fun vs H Q E h => ?len) (fun cdv A outer s H vs Q E hr h => ⟨_, (pss_cons (ps_set (i := 1) sc_number_bytes.nd rfl (by first | exact Or.inl rfl | exact Or.inr rfl) (pe_op o_mul pe_int (uv 0)))
      (pss_cons (us_if (ut_cmp o_lt (uv 0) pe_int (nomark _)) (pss_one (ps_set (i := 1) sc_number_bytes.nd rfl (by first | exact Or.inl rfl | exact Or.inr rfl) (pe_op o_sub (pe_op o_mul (pe_un o_neg pe_int) (uv 0)) pe_int))) pss_nil)
      (pss_cons (ps_set (i := 2) sc_number_bytes.nd rfl (by first | exact Or.inl rfl | exact Or.inr rfl) (pe_lst pa_nil))
      (pss_cons (us_while (passes_of rfl) (ut_cmp o_ge (uv 1) (u_int (i_MORE T)) (nomark _)) (pss_cons (ps_expr (pe_bm PySem.F.plainAttrs_list PySem.F.slot_list_append PySem.F.type_list_append m_append (uv 2) (pa_cons (pe_op o_add (pe_op o_mod (uv 1) (u_int (i_MORE T))) (u_int (i_MORE T))) pa_nil)))
      (pss_one (ps_set (i := 1) sc_number_bytes.nd rfl (by first | exact Or.inl rfl | exact Or.inr rfl) (pe_op o_div (uv 1) (u_int (i_MORE T)))))))
      (pss_one (ps_ret (pe_op o_add (uv 2) (pe_lst (pa_cons (uv 1) pa_nil))))))))), ?body⟩)
  case len => unfold sp_number_bytes at h; (split at h) <;> first | rfl | exact h.elim
  case body =>
    unfold sp_number_bytes at h
    split at h
    · rename_i n
      obtain ⟨hl, h⟩ := h
      refine ⟨.inl ⟨by decide, by decide⟩, ⟨fun c => ⟨.inl ⟨by decide, by decide⟩, ⟨by decide, fun made hm => ?_⟩⟩, fun c => ⟨by decide, fun made hm => ?_⟩⟩⟩
      all_goals
        refine WhGoes.by (fun m σ H' => ∃ acc : List Int, σ = [some (.int n), some (.int (m : Nat)), some (.ref made)] ∧ Same H H' ∧ H' made = some (.lst (acc.map V.int)) ∧ acc ++ digs m = numberBytes n) (zOf n) ⟨[], ?_, same_new hm (Same.refl _), upd_same, rfl⟩ ?_
        · first
          | exact congrArg (fun z => [some (V.int n), some (V.int z), some (V.ref made)]) (zneg c)
          | exact congrArg (fun z => [some (V.int n), some (V.int z), some (V.ref made)]) (zpos c)
        · rintro m _ H1 ⟨acc, rfl, s1, d1, e1⟩
          have hle : acc.length ≤ 1000 := by
            have := congrArg List.length e1
            simp at this
            omega
          refine ⟨fun c => ⟨WhNx _ m, fun _ _ w => w, ?_⟩, fun c => ?_⟩
          · have c2 : ¬ m < 128 := by
              have := of_decide_eq_true c
              omega
            rw [digs_ge c2] at e1
            refine ⟨ty_l d1, ⟨by show (0 : Int) < 128; decide, ⟨_, d1, by rw [sizeLine_eq, List.length_map]; omega, ?_⟩⟩⟩
            refine ⟨⟨by show (0 : Int) < 128; decide, by decide⟩, ?_⟩
            refine ⟨m / 128, by omega, acc ++ [((m % 128 + 128 : Nat) : Int)], rfl, same_new hm s1, ?_, by rw [← e1]; simp⟩
            rw [upd_same, ← map_snoc]
            rfl
          · have c2 : m < 128 := by
              have := of_decide_eq_false c
              omega
            rw [digs_lt c2] at e1
            refine ⟨len1, fun p hp => ⟨_, _, (upd_ne (ne_of_none d1 hp)).trans d1, upd_same, by rw [sizeLine_eq, List.length_map]; simp; omega, fun q hq => ?_⟩⟩
            have hpq : q ≠ p := fun z => by rw [z, upd_same] at hq; cases hq
            rw [upd_ne hpq] at hq
            have hp0 : H p = none := s1.free hp
            have hq0 : H q = none := s1.free hq
            refine h _ q (same_new hq0 (same_new hp0 s1)) hq0 ?_
            rw [upd_same, ← e1]
            simp
    · exact h.elim
def sp_text_bytes (K : PySem.W.Frag) : Sp := fun vs H Q E => match vs with
  | [.str z] => z.cps.toList.length ≤ 20 ∧ z.cps.toList.all isSign = true ∧ NewI H (textBytes z.cps.toList) Q
  | _ => False
theorem nb20 {n : Nat} (h : n ≤ 20) : (numberBytes n).length ≤ 1000 := by
  unfold numberBytes zOf
  rw [if_neg (by omega)]
  rw [digs_lt (by omega)]
  simp
theorem sc_text_bytes : FnScope ["text", "sign"] ["text"] (defScope s_text_bytes) := ⟨rfl, rfl, rfl, by decide +kernel, rfl, by decide +kernel, by decide +kernel⟩
theorem ok_text_bytes (T : Txt K mg) : Cal P w K mg base 4 "text_bytes" (sp_text_bytes K) := by
  obtain ⟨fd, F⟩ := D_text_bytes T
  refine cal_mk (g_text_bytes T) F sc_text_bytes (fun _ _ _ _ _ _ us hl => match us, hl with | [_], _ => rfl) (fun vs H Q E h => ?len) (fun cdv A outer s H vs Q E hr h => ⟨_, (pss_one (ps_ret (pe_op o_add (u_call (ok_number_bytes T) hr (by decide) (pa_cons (pe_callB (q_len (K := K)) rfl (b_len T) (by decide +kernel) (pa_cons (uv 0) pa_nil)) pa_nil)) (ue_lc (own := [("sign", 1)]) rfl sc_text_bytes.nd (j_str (uv 0)) rfl (fun _ _ _ _ _ => (pg_name (i := 1) sc_text_bytes.nd rfl (by first | exact Or.inl rfl | exact Or.inr rfl))) (fun _ _ _ _ _ => pts_nil) (fun _ _ _ _ _ => (q_indexS (u_str (t_SIGNS T)) (pa_cons (uv 1) pa_nil))))))), ?body⟩)
  case len => unfold sp_text_bytes at h; (split at h) <;> first | rfl | exact h.elim
  case body =>
    unfold sp_text_bytes at h
    split at h
    · rename_i z
      obtain ⟨h1, h2, h3⟩ := h
      have hz : z.length ≤ 20 := by
        show z.cps.size ≤ 20
        simpa using h1
      refine ⟨by rw [sizeLine_eq]; omega, ⟨nb20 hz, fun H1 p s1 hp d1 => ?_⟩⟩
      intro D hD
      refine LcGoes.by .str hD (fun i acc H' => acc = ((z.cps.toList.take i).map fun c => ((placeOf c : Nat) : Int)).map V.int) rfl (fun _ _ _ _ _ _ _ => trivial) (fun i acc x H1 H2 hi ha s d r it => ?_) (fun acc H2 ha s d r => ?_)
      · obtain ⟨c, e1, rfl, rfl⟩ := it
        refine ⟨rfl, ⟨fun _ => ?_, fun c => ?_⟩⟩
        · have hc := List.all_eq_true.mp h2 c (List.mem_of_getElem? e1)
          refine ⟨placeOf c, sg_idx hc, ?_⟩
          refine LcP.put hD (by rw [sizeLine_eq]; have : i < z.length := hi; omega) ha s d ?_
          rw [r, List.take_add_one, e1]
          simp
        · cases c
      · have e : z.cps.toList.take z.cps.size = z.cps.toList := List.take_of_length_le (by simp)
        rw [e] at r
        have hDp : H1 D = none := hD
        refine ⟨_, _, s _ _ d1, by rw [d, r], ?_, fun q hq => ?_⟩
        · have := nb20 hz
          rw [sizeLine_eq]
          simp only [List.length_map]
          have : (numberBytes (z.length : Int)).length ≤ 1000 := this
          omega
        · have hq1 : H q = none := s1.free (s.free hq)
          refine h3 _ q (same_new hq1 (s1.trans s)) hq1 ?_
          rw [upd_same]
          unfold textBytes
          rw [List.map_append]
          have e2 : (z.length : Int) = ((z.cps.toList.length : Nat) : Int) := by
            show ((z.cps.size : Nat) : Int) = _
            simp
          rw [e2]
    · exact h.elim
theorem tok_cps {l : List Nat} (h : (Cell.str l).tok) : (⟨l.toArray⟩ : Str).cps.toList.length ≤ 20 ∧ (⟨l.toArray⟩ : Str).cps.toList.all isSign = true := by
  have h : l.length ≤ 20 ∧ l.all isSign = true := h
  simpa using h
def sp_cell_bytes (K : PySem.W.Frag) : Sp := fun vs H Q E => match vs with
  | [v] => ∃ c : Cell, v = cv c ∧ c.tok ∧ (cellBytes c).length ≤ 1000 ∧ NewI H (cellBytes c) Q
  | _ => False
theorem sc_cell_bytes : FnScope ["cell"] ["cell"] (defScope s_cell_bytes) := ⟨rfl, rfl, rfl, by decide +kernel, rfl, by decide +kernel, by decide +kernel⟩
theorem ok_cell_bytes (T : Txt K mg) : Cal P w K mg base 5 "cell_bytes" (sp_cell_bytes K) := by
  obtain ⟨fd, F⟩ := D_cell_bytes T
  refine cal_mk (g_cell_bytes T) F sc_cell_bytes (fun _ _ _ _ _ _ us hl => match us, hl with | [_], _ => rfl) (fun vs H Q E h => ?len) (fun cdv A outer s H vs Q E hr h => ⟨_, (pss_cons (us_if (ut_cmp o_is (uv 0) pe_non (nomark _)) (pss_one (ps_ret (pe_lst (pa_cons pe_int pa_nil)))) pss_nil)
      (pss_cons (us_if (ut_val (pe_callB (q_isi (K := K)) rfl (b_isinstance T) (by decide +kernel) (pa_cons (uv 0) (pa_cons (pe_bltn (v := .ty "str") rfl (b_str T) (by decide +kernel) rfl) pa_nil)))) (pss_one (ps_ret (pe_op o_add (pe_lst (pa_cons pe_int pa_nil)) (u_call (ok_text_bytes T) hr (by decide) (pa_cons (uv 0) pa_nil))))) pss_nil)
      (pss_one (ps_ret (pe_op o_add (pe_lst (pa_cons pe_int pa_nil)) (u_call (ok_number_bytes T) hr (by decide) (pa_cons (uv 0) pa_nil))))))), ?body⟩)
  case len => unfold sp_cell_bytes at h; (split at h) <;> first | rfl | exact h.elim
  case body =>
    unfold sp_cell_bytes at h
    split at h
    · rename_i v
      obtain ⟨c, rfl, h1, h2, h⟩ := h
      have fin : ∀ (k : Int) (bs : List Int) (p1 p2 q : Addr) (H1 H2 : Hp), cellBytes c = k :: bs → Same H H1 → H1 p1 = some (.lst [V.int k]) → Same H1 H2 → H2 p2 = some (.lst (bs.map V.int)) → H2 q = none → Q (.ref q) (upd H2 q (.lst ([V.int k] ++ bs.map V.int))) := fun k bs p1 p2 q H1 H2 e s1 d1 s2 d2 hq => by
        have hq0 : H q = none := s1.free (s2.free hq)
        refine h _ q (same_new hq0 (s1.trans s2)) hq0 ?_
        rw [upd_same, e]
        simp
      cases c with
      | non =>
        refine ⟨fun _ => ⟨len1, fun p hp => h _ p (same_new hp (Same.refl _)) hp upd_same⟩, (nomatch ·)⟩
      | int i =>
        have hl : (numberBytes i).length ≤ 1000 := by
          have : (1 :: numberBytes i).length ≤ 1000 := h2
          simp at this
          omega
        refine ⟨(nomatch ·), fun _ => ⟨_, _, .base (.int _), rfl, ⟨(nomatch ·), fun _ => ⟨len1, fun p hp => ⟨hl, fun H1 p1 s1 hp1 d1 => ?_⟩⟩⟩⟩⟩
        have s0 : Same H (upd H p (.lst [V.int 1])) := same_new hp (Same.refl _)
        refine ⟨_, _, s1 _ _ upd_same, d1, by rw [sizeLine_eq]; simp; omega, fun q hq => fin 1 _ p p1 q _ _ rfl s0 upd_same s1 d1 hq⟩
      | str l =>
        have tk := tok_cps h1
        have hl : (textBytes l).length ≤ 1000 := by
          have : (2 :: textBytes l).length ≤ 1000 := h2
          simp at this
          omega
        refine ⟨(nomatch ·), fun _ => ⟨_, _, .base (.str _), rfl, ⟨fun _ => ⟨len1, fun p hp => ⟨tk.1, tk.2, fun H1 p1 s1 hp1 d1 => ?_⟩⟩, (nomatch ·)⟩⟩⟩
        have s0 : Same H (upd H p (.lst [V.int 2])) := same_new hp (Same.refl _)
        have d1 : H1 p1 = some (.lst ((textBytes l).map V.int)) := d1
        refine ⟨_, _, s1 _ _ upd_same, d1, by rw [sizeLine_eq]; simp; omega, fun q hq => fin 2 _ p p1 q _ _ rfl s0 upd_same s1 d1 hq⟩
    · exact h.elim
end
end K90
namespace K90
open PySem PySem.Spec PyProof.Rows L2 RT RZ
/-- a new tuple -/
def NewT (H : Hp) (xs : List V) (Q : VK) : Prop := ∀ H' p, Same H H' → H p = none → H' p = some (.tup xs) → Q (.ref p) H'
theorem NewT.upd {H H1 : Hp} {xs : List V} {Q : VK} (h : NewT H xs Q) (s : Same H H1) : ∀ p, H1 p = none → Q (.ref p) (upd H1 p (.tup xs)) := fun p hp => h _ p (same_new (s.free hp) s) (s.free hp) upd_same
theorem NewI.upd {H H1 : Hp} {xs : List Int} {Q : VK} (h : NewI H xs Q) (s : Same H H1) : ∀ p, H1 p = none → Q (.ref p) (upd H1 p (.lst (xs.map V.int))) := fun p hp => h _ p (same_new (s.free hp) s) (s.free hp) upd_same
section
variable {P : Program} {w : World} {K : PySem.W.Frag} {mg : Str → Option Value} {base : Heap}
def sp_byte_at (K : PySem.W.Frag) : Sp := fun vs H Q E => match vs with
  | [.ref r, .int a] => ∃ (bs : List Int) (n : Nat), a = n ∧ RowAt H r bs ∧ ok bs[n]? (fun b => Q (.int b) H) (Refuse K H E)
  | _ => False
theorem sc_byte_at : FnScope ["row", "at"] ["row", "at"] (defScope s_byte_at) := ⟨rfl, rfl, rfl, by decide +kernel, rfl, by decide +kernel, by decide +kernel⟩
theorem ok_byte_at (T : Txt K mg) : Cal P w K mg base 3 "byte_at" (sp_byte_at K) := by
  obtain ⟨fd, F⟩ := D_byte_at T
  refine cal_mk (g_byte_at T) F sc_byte_at (fun _ _ _ _ _ _ us hl => match us, hl with | [_, _], _ => rfl) (fun vs H Q E h => ?len) (fun cdv A outer s H vs Q E hr h => ⟨_, (pss_cons (us_if (ut_cmp o_ge (uv 1) (pe_callB (q_len (K := K)) rfl (b_len T) (by decide +kernel) (pa_cons (uv 0) pa_nil)) (nomark _)) (pss_one (us_bad T (ok_BadBytes T) hr (by decide) (takes_of rfl rfl rfl rfl))) pss_nil)
      (pss_one (ps_ret (pe_ix (q_seq (K := K)) (uv 0) (uv 1) (fun _ _ => rfl))))), ?body⟩)
  case len => unfold sp_byte_at at h; (split at h) <;> first | rfl | exact h.elim
  case body =>
    unfold sp_byte_at at h
    split at h
    · rename_i r a
      obtain ⟨bs, n, rfl, hR, h⟩ := h
      refine ⟨_, hR.sq, ⟨fun c => ?_, fun c => ?_⟩⟩
      · have e : bs[n]? = none := by
          rw [List.getElem?_eq_none_iff]
          have := of_decide_eq_true c
          simp at this
          omega
        rw [e] at h
        exact h
      · have c2 := of_decide_eq_false c
        simp at c2
        obtain ⟨b, e⟩ := get_lt (l := bs) (i := n) (by omega)
        rw [e] at h
        exact ⟨_, _, hR.sq, atI_int e, h⟩
    · exact h.elim
def sp_number_of (K : PySem.W.Frag) : Sp := fun vs H Q E => match vs with
  | [.int a] => Q (.int (numberOf a)) H
  | _ => False
theorem sc_number_of : FnScope ["rest"] ["rest"] (defScope s_number_of) := ⟨rfl, rfl, rfl, by decide +kernel, rfl, by decide +kernel, by decide +kernel⟩
theorem ok_number_of (T : Txt K mg) : Cal P w K mg base 3 "number_of" (sp_number_of K) := by
  obtain ⟨fd, F⟩ := D_number_of T
  refine cal_mk (g_number_of T) F sc_number_of (fun _ _ _ _ _ _ us hl => match us, hl with | [_], _ => rfl) (fun vs H Q E h => ?len) (fun cdv A outer s H vs Q E hr h => ⟨_, (pss_cons (us_if (ut_cmp (o_eq hr.units) (pe_op o_mod (uv 0) pe_int) pe_int (nomark _)) (pss_one (ps_ret (pe_op o_div (uv 0) pe_int))) pss_nil)
      (pss_one (ps_ret (pe_op o_sub (pe_un o_neg (pe_op o_div (uv 0) pe_int)) pe_int)))), ?body⟩)
  case len => unfold sp_number_of at h; (split at h) <;> first | rfl | exact h.elim
  case body =>
    unfold sp_number_of at h
    split at h
    · rename_i a
      refine ⟨by show (0 : Int) < 2; decide, ⟨rfl, ⟨fun c => ?_, fun c => ?_⟩⟩⟩
      · have e : a % 2 = 0 := by simpa using c
        unfold numberOf at h
        rw [if_pos e] at h
        exact ⟨⟨by decide, by decide⟩, h⟩
      · have e : ¬ a % 2 = 0 := by simpa using c
        unfold numberOf at h
        rw [if_neg e] at h
        exact ⟨⟨by decide, by decide⟩, h⟩
    · exact h.elim
def sp_take_number (K : PySem.W.Frag) : Sp := fun vs H Q E => match vs with
  | [.ref r, .int a] => ∃ (bs : List Int) (n : Nat), a = n ∧ RowAt H r bs ∧ ok (takeNumber (bs.drop n)) (fun x => NewT H [.int x.1, .int ((n + x.2 : Nat) : Int)] Q) (Refuse K H E)
  | _ => False
theorem drop_get {bs : List Int} {n i : Nat} {b : Int} (h : bs[n + i]? = some b) : (bs.drop n).drop i = b :: (bs.drop n).drop (i + 1) := by
  have hl := (List.getElem?_eq_some_iff.mp h)
  obtain ⟨h1, h2⟩ := hl
  rw [List.drop_drop, List.drop_drop, List.drop_eq_getElem_cons h1, h2]
  rfl
theorem drop_get_none {bs : List Int} {n i : Nat} (h : bs[n + i]? = none) : (bs.drop n).drop i = [] := by
  rw [List.getElem?_eq_none_iff] at h
  rw [List.drop_drop]
  exact List.drop_eq_nil_of_le h
theorem sc_take_number : FnScope ["row", "at", "rest", "weight", "turn", "byte"] ["row", "at"] (defScope s_take_number) := ⟨rfl, rfl, rfl, by decide +kernel, rfl, by decide +kernel, by decide +kernel⟩
theorem ok_take_number (T : Txt K mg) : Cal P w K mg base 4 "take_number" (sp_take_number K) := by
  obtain ⟨fd, F⟩ := D_take_number T
  refine cal_mk (g_take_number T) F sc_take_number (fun _ _ _ _ _ _ us hl => match us, hl with | [_, _], _ => rfl) (fun vs H Q E h => ?len) (fun cdv A outer s H vs Q E hr h => ⟨_, (pss_cons (ps_set (i := 2) sc_take_number.nd rfl (by first | exact Or.inl rfl | exact Or.inr rfl) pe_int)
      (pss_cons (ps_set (i := 3) sc_take_number.nd rfl (by first | exact Or.inl rfl | exact Or.inr rfl) pe_int)
      (pss_cons (us_for (passes_of rfl) rfl (j_rng (b_range T) (pa_cons (u_int (i_MOST_BYTES T)) pa_nil)) (pg_name (i := 4) sc_take_number.nd rfl (by first | exact Or.inl rfl | exact Or.inr rfl)) (pss_cons (ps_set (i := 5) sc_take_number.nd rfl (by first | exact Or.inl rfl | exact Or.inr rfl) (u_callX (ok_byte_at T) (takes_of rfl rfl rfl rfl) hr (by decide) (pa_cons (uv 0) (pa_cons (pe_op o_add (uv 1) (uv 4)) pa_nil))))
      (pss_cons (us_aug (i := 2) sc_take_number.nd rfl (by first | exact Or.inl rfl | exact Or.inr rfl) (pe_op o_mul (pe_op o_mod (uv 5) (u_int (i_MORE T))) (uv 3)) o_iadd)
      (pss_cons (us_aug (i := 3) sc_take_number.nd rfl (by first | exact Or.inl rfl | exact Or.inr rfl) (u_int (i_MORE T)) o_imul)
      (pss_one (us_if (ut_cmp o_lt (uv 5) (u_int (i_MORE T)) (nomark _)) (pss_cons (us_if (PW.pt (uw_and (ut_cmp (o_eq hr.units) (uv 5) pe_int (nomark _)) (pw_and1 (ut_cmp o_gt (uv 4) pe_int (nomark _))))) (pss_one (us_bad T (ok_BadBytes T) hr (by decide) (takes_of rfl rfl rfl rfl))) pss_nil)
      (pss_one (ps_ret (pe_tup (pa_cons (u_call (ok_number_of T) hr (by decide) (pa_cons (uv 2) pa_nil)) (pa_cons (pe_op o_add (pe_op o_add (uv 1) (uv 4)) pe_int) pa_nil)))))) pss_nil))))))
      (pss_one (us_bad T (ok_BadBytes T) hr (by decide) (takes_of rfl rfl rfl rfl)))))), ?body⟩)
  case len => unfold sp_take_number at h; (split at h) <;> first | rfl | exact h.elim
  case body =>
    unfold sp_take_number at h
    split at h
    · rename_i r a
      obtain ⟨bs, n, rfl, hR, h⟩ := h
      unfold takeNumber at h
      rw [ok_map] at h
      refine ⟨by decide, by decide, ?_⟩
      refine ForGoes.by .range (fun i σ H' => ∃ (rest : Int) (t b : Option V), σ = [some (.ref r), some (.int (n : Nat)), some (.int rest), some (.int (128 ^ i)), t, b] ∧ H = H' ∧ ok (tn (9 - i) i rest (128 ^ i) ((bs.drop n).drop i)) (fun x => NewT H [.int (numberOf x.1), .int ((n + x.2 : Nat) : Int)] Q) (Refuse K H E)) ⟨0, none, none, rfl, rfl, h⟩ (fun _ _ _ _ _ => trivial) ?_ ?_
      · rintro i _ _ _ H' hi ⟨rest, t, b, rfl, rfl, h⟩ ⟨rfl, rfl⟩
        have hi : i < 9 := hi
        obtain ⟨m, hm⟩ : ∃ m, 9 - i = m + 1 := ⟨9 - i - 1, by omega⟩
        rw [hm] at h
        refine ⟨bs, n + i, by simp, hR, ?_⟩
        cases e : bs[n + i]? with
        | none =>
          rw [drop_get_none e] at h
          exact h
        | some b =>
          rw [drop_get e] at h
          unfold tn at h
          refine ⟨by show (0 : Int) < 128; decide, ⟨.inl ⟨?_, ?_⟩, ?_⟩⟩
          · have := Int.emod_nonneg b (show (128 : Int) ≠ 0 by decide)
            show -(2 ^ 64) < b % 128
            omega
          · have := Int.emod_lt_of_pos b (show (0 : Int) < 128 by decide)
            show b % 128 < 2 ^ 64
            omega
          · refine ⟨.inr ⟨by decide, by decide⟩, ⟨fun c => ?_, fun c => ?_⟩⟩
            · have c : b < 128 := of_decide_eq_true c
              rw [if_pos c] at h
              have fin : ¬ (b = 0 ∧ 0 < i) → (∀ p, H p = none → Q (.ref p) (upd H p (.tup [.int (numberOf (rest + b % 128 * 128 ^ i)), .int ((n : Int) + (0 + (i : Int)) + 1)]))) := fun c => by
                rw [if_neg c] at h
                have e : ((n : Int) + (0 + (i : Int)) + 1) = ((n + (i + 1) : Nat) : Int) := by omega
                rw [e]
                exact NewT.upd h (Same.refl _)
              refine ⟨rfl, ⟨fun c1 => ⟨fun c2 => ?_, fun c2 => ⟨len2, fin ?_⟩⟩, fun c1 => ⟨(nomatch ·), fun _ => ⟨len2, fin ?_⟩⟩⟩⟩
              · have c1 : b = 0 := by simpa using c1
                have c2 : 0 < i := by
                  have := of_decide_eq_true c2
                  omega
                rw [if_pos ⟨c1, c2⟩] at h
                exact h
              · have c2 := of_decide_eq_false c2
                intro z
                omega
              · have c1 : ¬ b = 0 := by simpa using c1
                exact fun z => c1 z.1
            · have c : ¬ b < 128 := of_decide_eq_false c
              rw [if_neg c] at h
              have em : 9 - (i + 1) = m := by omega
              refine ⟨rest + b % 128 * 128 ^ i, _, _, rfl, rfl, ?_⟩
              rw [em]
              exact h
      · rintro _ _ ⟨rest, t, b, rfl, rfl, h⟩
        exact h
    · exact h.elim
def sp_take_text (K : PySem.W.Frag) : Sp := fun vs H Q E => match vs with
  | [.ref r, .int a] => ∃ (bs : List Int) (n : Nat), a = n ∧ RowAt H r bs ∧ ok (takeText (bs.drop n)) (fun x => NewT H [.str ⟨x.1.toArray⟩, .int ((n + x.2 : Nat) : Int)] Q) (Refuse K H E)
  | _ => False
theorem sg_cut {b : Int} (h0 : 0 ≤ b) (h1 : b < 94) (l : List Nat) : (⟨l.toArray⟩ : Str) ++ ⟨#[signAt b.toNat]⟩ = ⟨(l ++ [signAt b.toNat]).toArray⟩ := by
  show (⟨l.toArray ++ #[signAt b.toNat]⟩ : Str) = _
  simp
theorem sc_take_text : FnScope ["row", "at", "many", "text", "turn", "byte"] ["row", "at"] (defScope s_take_text) := ⟨rfl, rfl, rfl, by decide +kernel, rfl, by decide +kernel, by decide +kernel⟩
theorem ok_take_text (T : Txt K mg) : Cal P w K mg base 5 "take_text" (sp_take_text K) := by
  obtain ⟨fd, F⟩ := D_take_text T
  refine cal_mk (g_take_text T) F sc_take_text (fun _ _ _ _ _ _ us hl => match us, hl with | [_, _], _ => rfl) (fun vs H Q E h => ?len) (fun cdv A outer s H vs Q E hr h => ⟨_, (pss_cons (ps_asg (u_callX (ok_take_number T) (takes_of rfl rfl rfl rfl) hr (by decide) (pa_cons (uv 0) (pa_cons (uv 1) pa_nil))) (q_tup (K := K) (n := 2) rfl (hg_cons (pg_name (i := 2) sc_take_text.nd rfl (by first | exact Or.inl rfl | exact Or.inr rfl)) (hg_cons (pg_name (i := 1) sc_take_text.nd rfl (by first | exact Or.inl rfl | exact Or.inr rfl)) hg_nil))))
      (pss_cons (us_if (pt_not (ut_chain o_le o_le pe_int (uv 2) (u_int (i_MOST_SIGNS T)))) (pss_one (us_bad T (ok_BadBytes T) hr (by decide) (takes_of rfl rfl rfl rfl))) pss_nil)
      (pss_cons (ps_set (i := 3) sc_take_text.nd rfl (by first | exact Or.inl rfl | exact Or.inr rfl) pe_str)
      (pss_cons (us_for (passes_of rfl) rfl (j_rng (b_range T) (pa_cons (uv 2) pa_nil)) (pg_name (i := 4) sc_take_text.nd rfl (by first | exact Or.inl rfl | exact Or.inr rfl)) (pss_cons (ps_set (i := 5) sc_take_text.nd rfl (by first | exact Or.inl rfl | exact Or.inr rfl) (u_callX (ok_byte_at T) (takes_of rfl rfl rfl rfl) hr (by decide) (pa_cons (uv 0) (pa_cons (pe_op o_add (uv 1) (uv 4)) pa_nil))))
      (pss_cons (us_if (pt_not (ut_chain o_le o_lt pe_int (uv 5) (pe_callB (q_len (K := K)) rfl (b_len T) (by decide +kernel) (pa_cons (u_str (t_SIGNS T)) pa_nil)))) (pss_one (us_bad T (ok_BadBytes T) hr (by decide) (takes_of rfl rfl rfl rfl))) pss_nil)
      (pss_one (us_aug (i := 3) sc_take_text.nd rfl (by first | exact Or.inl rfl | exact Or.inr rfl) (pe_ix (q_seq (K := K)) (u_str (t_SIGNS T)) (uv 5) (fun _ _ => rfl)) o_iaddU)))))
      (pss_one (ps_ret (pe_tup (pa_cons (uv 3) (pa_cons (pe_op o_add (uv 1) (uv 2)) pa_nil))))))))), ?body⟩)
  case len => unfold sp_take_text at h; (split at h) <;> first | rfl | exact h.elim
  case body =>
    unfold sp_take_text at h
    split at h
    · rename_i r a
      obtain ⟨bs, n, rfl, hR, h⟩ := h
      refine ⟨bs, n, rfl, hR, ?_⟩
      unfold takeText at h
      cases e : takeNumber (bs.drop n) with
      | none =>
        rw [e] at h
        exact h
      | some x =>
        obtain ⟨m, k⟩ := x
        rw [e] at h
        dsimp only at h
        intro H1 p s1 hp d1
        refine ⟨_, SqT.of d1, rfl, ?_⟩
        have bad : ¬ (0 ≤ m ∧ m ≤ 20) → Refuse K H1 E := fun c => by
          rw [if_neg c] at h
          exact Refuse.mono h s1
        refine ⟨fun c1 => ⟨fun c2 => bad ?_, fun c2 => ?_⟩, fun c1 => ⟨fun _ => bad ?_, (nomatch ·)⟩⟩
        · have c2 : ¬ m ≤ 20 := by simpa using c2
          exact fun z => c2 z.2
        · have c1 : 0 ≤ m := of_decide_eq_true c1
          have c2 : m ≤ 20 := by simpa using c2
          rw [if_pos ⟨c1, c2⟩, ok_map] at h
          obtain ⟨j, rfl⟩ := Int.eq_ofNat_of_zero_le c1
          rw [Int.toNat_natCast] at h
          refine ⟨by show -(2 ^ 62) ≤ (j : Int); omega, by show (j : Int) < 2 ^ 62; omega, ?_⟩
          have hsz : ∀ l : List Nat, l.length ≤ 20 → (⟨l.toArray⟩ : Str).length ≤ 20 := fun l h => by
            show l.toArray.size ≤ 20
            simpa using h
          refine ForGoes.by .range (fun i σ H' => ∃ (acc : List Nat) (t b : Option V), σ = [some (.ref r), some (.int ((n + k : Nat) : Int)), some (.int (j : Nat)), some (.str ⟨acc.toArray⟩), t, b] ∧ H1 = H' ∧ acc.length ≤ i ∧ ok (tsigns (j - i) ((bs.drop (n + k)).drop i)) (fun x => NewT H1 [.str ⟨(acc ++ x).toArray⟩, .int ((n + k + j : Nat) : Int)] Q) (Refuse K H1 E)) ⟨[], none, none, rfl, rfl, Nat.le_refl _, ?_⟩ (fun _ _ _ _ _ => trivial) ?_ ?_
          · rw [List.drop_drop] at h
            refine ok_imp h (fun x _ hx H' q s' hq dq => ?_) (Refuse.mono · s1)
            refine hx H' q (s1.trans s') (s1.free hq) ?_
            rw [← Nat.add_assoc]
            exact dq
          · rintro i _ _ _ H' hi ⟨acc, t, b, rfl, rfl, hac, h⟩ ⟨rfl, rfl⟩
            have hi : i < j := hi
            obtain ⟨f, hf⟩ : ∃ f, j - i = f + 1 := ⟨j - i - 1, by omega⟩
            rw [hf] at h
            refine ⟨bs, n + k + i, by simp, hR.same s1, ?_⟩
            cases e : bs[n + k + i]? with
            | none =>
              rw [drop_get_none e] at h
              exact h
            | some b =>
              rw [drop_get e] at h
              unfold tsigns at h
              have bad : ¬ (0 ≤ b ∧ b < 94) → Refuse K H1 E := fun c => by
                rw [if_neg c] at h
                exact h
              have hlt : ∀ x y : Int, 0 ≤ x → x < y → True := fun _ _ _ _ => trivial
              refine ⟨fun c1 => ⟨sg_size, ⟨fun c2 => bad ?_, fun c2 => ?_⟩⟩, fun c1 => ⟨fun _ => bad ?_, (nomatch ·)⟩⟩
              · have c2 : ¬ b < (SG.length : Int) := of_decide_eq_false (by simpa only [Bool.not_eq_true'] using c2)
                rw [sg_len] at c2
                exact fun z => c2 z.2
              · have c1 : 0 ≤ b := of_decide_eq_true c1
                have c2 : b < (SG.length : Int) := of_decide_eq_true (by simpa only [Bool.not_eq_false'] using c2)
                rw [sg_len] at c2
                have c2 : b < 94 := c2
                rw [if_pos ⟨c1, c2⟩, ok_map] at h
                refine ⟨_, sg_size, sg_at c1 c2, ?_⟩
                refine ⟨by
                  have := hsz acc (by omega)
                  have e1 : (⟨#[signAt b.toNat]⟩ : Str).length = 1 := rfl
                  rw [e1, sizeLine_eq]
                  omega, ?_⟩
                have ef : j - (i + 1) = f := by omega
                refine ⟨acc ++ [signAt b.toNat], some (.int (0 + (i : Int))), some (.int b), ?_, rfl, by simp; omega, ?_⟩
                · rw [← sg_cut c1 c2]
                  rfl
                · rw [ef]
                  simpa using h
              · have c1 : ¬ 0 ≤ b := of_decide_eq_false c1
                exact fun z => c1 z.1
          · rintro _ _ ⟨acc, t, b, rfl, rfl, hac, h⟩
            have h : ok (tsigns (j - j) ((bs.drop (n + k)).drop j)) (fun x => NewT H1 [.str ⟨(acc ++ x).toArray⟩, .int ((n + k + j : Nat) : Int)] Q) (Refuse K H1 E) := h
            rw [Nat.sub_self] at h
            refine ⟨len2, ?_⟩
            have h : NewT H1 [.str ⟨(acc ++ []).toArray⟩, .int ((n + k + j : Nat) : Int)] Q := h
            rw [List.append_nil] at h
            exact NewT.upd h (Same.refl _)
        · have c1 : ¬ 0 ≤ m := of_decide_eq_false c1
          exact fun z => c1 z.1
    · exact h.elim
def sp_take_cell (K : PySem.W.Frag) : Sp := fun vs H Q E => match vs with
  | [.ref r, .int a] => ∃ (bs : List Int) (n : Nat), a = n ∧ RowAt H r bs ∧ ok (takeCell (bs.drop n)) (fun x => NewT H [cv x.1, .int ((n + x.2 : Nat) : Int)] Q) (Refuse K H E)
  | _ => False
theorem drop_get0 {bs : List Int} {n : Nat} {b : Int} (h : bs[n]? = some b) : bs.drop n = b :: bs.drop (n + 1) := by
  have := drop_get (i := 0) h
  rw [List.drop_zero, List.drop_drop, Nat.zero_add] at this
  exact this
theorem drop_get0_none {bs : List Int} {n : Nat} (h : bs[n]? = none) : bs.drop n = [] := drop_get_none (i := 0) h
theorem sc_take_cell : FnScope ["row", "at", "kind"] ["row", "at"] (defScope s_take_cell) := ⟨rfl, rfl, rfl, by decide +kernel, rfl, by decide +kernel, by decide +kernel⟩
theorem ok_take_cell (T : Txt K mg) : Cal P w K mg base 6 "take_cell" (sp_take_cell K) := by
  obtain ⟨fd, F⟩ := D_take_cell T
  refine cal_mk (g_take_cell T) F sc_take_cell (fun _ _ _ _ _ _ us hl => match us, hl with | [_, _], _ => rfl) (fun vs H Q E h => ?len) (fun cdv A outer s H vs Q E hr h => ⟨_, (pss_cons (ps_set (i := 2) sc_take_cell.nd rfl (by first | exact Or.inl rfl | exact Or.inr rfl) (u_callX (ok_byte_at T) (takes_of rfl rfl rfl rfl) hr (by decide) (pa_cons (uv 0) (pa_cons (uv 1) pa_nil))))
      (pss_cons (us_if (ut_cmp (o_eq hr.units) (uv 2) pe_int (nomark _)) (pss_one (ps_ret (pe_tup (pa_cons pe_non (pa_cons (pe_op o_add (uv 1) pe_int) pa_nil))))) pss_nil)
      (pss_cons (us_if (ut_cmp (o_eq hr.units) (uv 2) pe_int (nomark _)) (pss_one (ps_ret (u_callX (ok_take_number T) (takes_of rfl rfl rfl rfl) hr (by decide) (pa_cons (uv 0) (pa_cons (pe_op o_add (uv 1) pe_int) pa_nil))))) pss_nil)
      (pss_cons (us_if (ut_cmp (o_eq hr.units) (uv 2) pe_int (nomark _)) (pss_one (ps_ret (u_callX (ok_take_text T) (takes_of rfl rfl rfl rfl) hr (by decide) (pa_cons (uv 0) (pa_cons (pe_op o_add (uv 1) pe_int) pa_nil))))) pss_nil)
      (pss_one (us_bad T (ok_BadBytes T) hr (by decide) (takes_of rfl rfl rfl rfl))))))), ?body⟩)
  case len => unfold sp_take_cell at h; (split at h) <;> first | rfl | exact h.elim
  case body =>
    unfold sp_take_cell at h
    split at h
    · rename_i r a
      obtain ⟨bs, n, rfl, hR, h⟩ := h
      refine ⟨bs, n, rfl, hR, ?_⟩
      cases e : bs[n]? with
      | none =>
        rw [drop_get0_none e] at h
        exact h
      | some b =>
        rw [drop_get0 e] at h
        unfold takeCell at h
        dsimp only at h
        refine ⟨rfl, ⟨fun c => ?_, fun c => ⟨rfl, ⟨fun c1 => ?_, fun c1 => ⟨rfl, ⟨fun c2 => ?_, fun c2 => ?_⟩⟩⟩⟩⟩⟩
        · have c : b = 0 := by simpa using c
          rw [if_pos c] at h
          exact ⟨len2, NewT.upd h (Same.refl _)⟩
        · have c : ¬ b = 0 := by simpa using c
          have c1 : b = 1 := by simpa using c1
          rw [if_neg c, if_pos c1, ok_map] at h
          refine ⟨bs, n + 1, rfl, hR, ok_imp h (fun x _ hx H' q s' hq dq => hx H' q s' hq ?_) fun h => h⟩
          rw [dq]
          congr 5
          omega
        · have c : ¬ b = 0 := by simpa using c
          have c1 : ¬ b = 1 := by simpa using c1
          have c2 : b = 2 := by simpa using c2
          rw [if_neg c, if_neg c1, if_pos c2, ok_map] at h
          refine ⟨bs, n + 1, rfl, hR, ok_imp h (fun x _ hx H' q s' hq dq => hx H' q s' hq ?_) fun h => h⟩
          rw [dq]
          congr 5
          omega
        · have c : ¬ b = 0 := by simpa using c
          have c1 : ¬ b = 1 := by simpa using c1
          have c2 : ¬ b = 2 := by simpa using c2
          rw [if_neg c, if_neg c1, if_neg c2] at h
          exact h
    · exact h.elim
end
end K90
namespace K90
open PySem PySem.Spec PyProof.Rows L2 RT RZ
theorem lp2 : (0 : Int) < 2 := by decide
theorem lg2 : CDivW 0 2 := ⟨by decide, by decide⟩
section
variable {P : Program} {w : World} {K : PySem.W.Frag} {mg : Str → Option Value} {base : Heap}
def sp_bits_for (K : PySem.W.Frag) : Sp := fun vs H Q E => match vs with
  | [.int a] => Q (.int (bitsFor a.toNat : Nat)) H
  | _ => False
theorem sc_bits_for : FnScope ["number", "wide"] ["number"] (defScope s_bits_for) := ⟨rfl, rfl, rfl, by decide +kernel, rfl, by decide +kernel, by decide +kernel⟩
theorem ok_bits_for (T : Txt K mg) : Cal P w K mg base 3 "bits_for" (sp_bits_for K) := by
  obtain ⟨fd, F⟩ := D_bits_for T
  refine cal_mk (g_bits_for T) F sc_bits_for (fun _ _ _ _ _ _ us hl => match us, hl with | [_], _ => rfl) (fun vs H Q E h => ?len) (fun cdv A outer s H vs Q E hr h => ⟨_, (pss_cons (ps_set (i := 1) sc_bits_for.nd rfl (by first | exact Or.inl rfl | exact Or.inr rfl) pe_int)
      (pss_cons (us_while (passes_of rfl) (ut_cmp o_gt (uv 0) pe_int (nomark _)) (pss_cons (ps_set (i := 0) sc_bits_for.nd rfl (by first | exact Or.inl rfl | exact Or.inr rfl) (pe_op o_div (uv 0) pe_int))
      (pss_one (us_aug (i := 1) sc_bits_for.nd rfl (by first | exact Or.inl rfl | exact Or.inr rfl) pe_int o_iadd))))
      (pss_one (ps_ret (uv 1))))), ?body⟩)
  case len => unfold sp_bits_for at h; (split at h) <;> first | rfl | exact h.elim
  case body =>
    unfold sp_bits_for at h
    split at h
    · rename_i a
      refine WhGoes.by (fun m σ H' => ∃ (x : Int) (n : Nat), σ = [some (.int x), some (.int (n : Nat))] ∧ H = H' ∧ x.toNat = m ∧ n + bitsFor x.toNat = bitsFor a.toNat) a.toNat ⟨a, 0, rfl, rfl, rfl, by simp⟩ ?_
      rintro m _ _ ⟨x, n, rfl, rfl, rfl, e⟩
      refine ⟨fun c => ⟨WhNx _ _, fun _ _ w => w, ?_⟩, fun c => ?_⟩
      · have c : 0 < x := of_decide_eq_true c
        have e2 : (x / 2).toNat = x.toNat / 2 := by omega
        refine ⟨⟨by decide, by decide⟩, ?_⟩
        refine ⟨(x / 2).toNat, by omega, x / 2, n + 1, rfl, rfl, rfl, ?_⟩
        rw [e2, ← e]
        rw [bitsFor.eq_1 x.toNat, if_neg (by omega)]
        omega
      · have c : ¬ 0 < x := of_decide_eq_false c
        rw [bitsFor.eq_1 x.toNat, if_pos (by omega)] at e
        have e : n = bitsFor a.toNat := e
        rw [← e] at h
        exact h
    · exact h.elim
def sp_power_of (K : PySem.W.Frag) : Sp := fun vs H Q E => match vs with
  | [.int a] => ∃ w : Nat, a = w ∧ w ≤ 100 ∧ Q (.int (2 ^ w)) H
  | _ => False
theorem sc_power_of : FnScope ["wide", "power", "turn"] ["wide"] (defScope s_power_of) := ⟨rfl, rfl, rfl, by decide +kernel, rfl, by decide +kernel, by decide +kernel⟩
theorem ok_power_of (T : Txt K mg) : Cal P w K mg base 3 "power_of" (sp_power_of K) := by
  obtain ⟨fd, F⟩ := D_power_of T
  refine cal_mk (g_power_of T) F sc_power_of (fun _ _ _ _ _ _ us hl => match us, hl with | [_], _ => rfl) (fun vs H Q E h => ?len) (fun cdv A outer s H vs Q E hr h => ⟨_, (pss_cons (ps_set (i := 1) sc_power_of.nd rfl (by first | exact Or.inl rfl | exact Or.inr rfl) pe_int)
      (pss_cons (us_for (passes_of rfl) rfl (j_rng (b_range T) (pa_cons (uv 0) pa_nil)) (pg_name (i := 2) sc_power_of.nd rfl (by first | exact Or.inl rfl | exact Or.inr rfl)) (pss_one (us_aug (i := 1) sc_power_of.nd rfl (by first | exact Or.inl rfl | exact Or.inr rfl) pe_int o_imul)))
      (pss_one (ps_ret (uv 1))))), ?body⟩)
  case len => unfold sp_power_of at h; (split at h) <;> first | rfl | exact h.elim
  case body =>
    unfold sp_power_of at h
    split at h
    · rename_i a
      obtain ⟨w, rfl, hw, h⟩ := h
      refine ⟨by show -(2 ^ 62) ≤ (w : Int); omega, by show (w : Int) < 2 ^ 62; omega, ?_⟩
      refine ForGoes.by .range (fun i σ H' => ∃ t : Option V, σ = [some (.int (w : Nat)), some (.int (2 ^ i)), t] ∧ H = H') ⟨none, rfl, rfl⟩ (fun _ _ _ _ _ => trivial) ?_ ?_
      · rintro i _ _ _ _ hi ⟨t, rfl, rfl⟩ ⟨rfl, rfl⟩
        exact ⟨.inr ⟨by decide, by decide⟩, _, rfl, rfl⟩
      · rintro _ _ ⟨t, rfl, rfl⟩
        exact h
    · exact h.elim
def sp_byte_count (K : PySem.W.Frag) : Sp := fun vs H Q E => match vs with
  | [.int a, .int b] => ∃ m w : Nat, a = m ∧ b = w ∧ w ≤ 100 ∧ Q (.int (byteCount m w : Nat)) H
  | _ => False
theorem sc_byte_count : FnScope ["many", "wide"] ["many", "wide"] (defScope s_byte_count) := ⟨rfl, rfl, rfl, by decide +kernel, rfl, by decide +kernel, by decide +kernel⟩
theorem ok_byte_count (T : Txt K mg) : Cal P w K mg base 3 "byte_count" (sp_byte_count K) := by
  obtain ⟨fd, F⟩ := D_byte_count T
  refine cal_mk (g_byte_count T) F sc_byte_count (fun _ _ _ _ _ _ us hl => match us, hl with | [_, _], _ => rfl) (fun vs H Q E h => ?len) (fun cdv A outer s H vs Q E hr h => ⟨_, (pss_one (ps_ret (pe_op o_div (pe_op o_sub (pe_op o_add (pe_op o_mul (uv 0) (uv 1)) (u_int (i_BITS T))) pe_int) (u_int (i_BITS T))))), ?body⟩)
  case len => unfold sp_byte_count at h; (split at h) <;> first | rfl | exact h.elim
  case body =>
    unfold sp_byte_count at h
    split at h
    · rename_i a b
      obtain ⟨m, w, rfl, rfl, hw, h⟩ := h
      refine ⟨.inr ⟨by omega, by omega⟩, ⟨by decide, by decide⟩, ?_⟩
      have e : ((m : Int) * (w : Int) + 8 - 1) / 8 = ((byteCount m w : Nat) : Int) := by
        unfold byteCount
        have : ((m * w : Nat) : Int) = (m : Int) * (w : Int) := by simp
        omega
      show Q (.int (((m : Int) * (w : Int) + 8 - 1) / 8)) H
      rw [e]
      exact h
    · exact h.elim
theorem foldr_snoc {α β : Type} (f : α → β → β) (z : β) (l : List α) (i : Nat) (x : α) (h : l.reverse[i]? = some x) : (l.reverse.take (i + 1)).foldl (fun a b => f b a) z = f x ((l.reverse.take i).foldl (fun a b => f b a) z) := by
  rw [List.take_add_one, h, List.foldl_append]
  rfl
theorem foldr_rev {α β : Type} (f : α → β → β) (z : β) (l : List α) : (l.reverse.take l.length).foldl (fun a b => f b a) z = l.foldr f z := by
  rw [List.take_of_length_le (by simp), List.foldl_reverse]
def sp_packed (K : PySem.W.Frag) : Sp := fun vs H Q E => match vs with
  | [.ref l, .int a] => ∃ (ns : List Int) (w : Nat), a = w ∧ w ≤ 62 ∧ ns.length ≤ 100 ∧ H l = some (.lst (ns.map V.int)) ∧ NewI H (packed ns w) Q
  | _ => False
theorem pow62 {w : Nat} (h : w ≤ 62) : (2 : Int) ^ w < 2 ^ 64 := by
  have a : ∀ w, w < 63 → (2 : Int) ^ w < 2 ^ 64 := by decide +kernel
  exact a w (by omega)
theorem pow_pos' (w : Nat) : (0 : Int) < 2 ^ w := by
  induction w with
  | zero => decide
  | succ n ih =>
    rw [Int.pow_succ]
    omega
theorem bytesOf_succ (n : Nat) (r : Int) : bytesOf (n + 1) r = r % 256 :: bytesOf n (r / 256) := rfl
theorem sc_packed : FnScope ["numbers", "wide", "power", "rest", "number", "made", "turn"] ["numbers", "wide"] (defScope s_packed) := ⟨rfl, rfl, rfl, by decide +kernel, rfl, by decide +kernel, by decide +kernel⟩
theorem ok_packed (T : Txt K mg) : Cal P w K mg base 4 "packed" (sp_packed K) := by
  obtain ⟨fd, F⟩ := D_packed T
  refine cal_mk (g_packed T) F sc_packed (fun _ _ _ _ _ _ us hl => match us, hl with | [_, _], _ => rfl) (fun vs H Q E h => ?len) (fun cdv A outer s H vs Q E hr h => ⟨_, (pss_cons (ps_set (i := 2) sc_packed.nd rfl (by first | exact Or.inl rfl | exact Or.inr rfl) (u_call (ok_power_of T) hr (by decide) (pa_cons (uv 1) pa_nil)))
      (pss_cons (ps_set (i := 3) sc_packed.nd rfl (by first | exact Or.inl rfl | exact Or.inr rfl) pe_int)
      (pss_cons (us_for (passes_of rfl) rfl (j_rev (b_reversed T) (uv 0)) (pg_name (i := 4) sc_packed.nd rfl (by first | exact Or.inl rfl | exact Or.inr rfl)) (pss_one (ps_set (i := 3) sc_packed.nd rfl (by first | exact Or.inl rfl | exact Or.inr rfl) (pe_op o_add (pe_op o_mul (uv 3) (uv 2)) (uv 4)))))
      (pss_cons (ps_set (i := 5) sc_packed.nd rfl (by first | exact Or.inl rfl | exact Or.inr rfl) (pe_lst pa_nil))
      (pss_cons (us_for (passes_of rfl) rfl (j_rng (b_range T) (pa_cons (u_call (ok_byte_count T) hr (by decide) (pa_cons (pe_callB (q_len (K := K)) rfl (b_len T) (by decide +kernel) (pa_cons (uv 0) pa_nil)) (pa_cons (uv 1) pa_nil))) pa_nil)) (pg_name (i := 6) sc_packed.nd rfl (by first | exact Or.inl rfl | exact Or.inr rfl)) (pss_cons (ps_expr (pe_bm PySem.F.plainAttrs_list PySem.F.slot_list_append PySem.F.type_list_append m_append (uv 5) (pa_cons (pe_op o_mod (uv 3) (u_int (i_BYTE T))) pa_nil)))
      (pss_one (ps_set (i := 3) sc_packed.nd rfl (by first | exact Or.inl rfl | exact Or.inr rfl) (pe_op o_div (uv 3) (u_int (i_BYTE T)))))))
      (pss_one (ps_ret (uv 5)))))))), ?body⟩)
  case len => unfold sp_packed at h; (split at h) <;> first | rfl | exact h.elim
  case body =>
    unfold sp_packed at h
    split at h
    · rename_i l a
      obtain ⟨ns, w, rfl, hw, hn, hl, h⟩ := h
      refine ⟨w, rfl, by omega, ?_⟩
      refine ⟨ns.map V.int, .inl ⟨SqL.of hl, ?_⟩⟩
      refine ForGoes.by .rev (fun i σ H' => ∃ (x y z : Option V), σ = [some (.ref l), some (.int w), some (.int (2 ^ w)), some (.int ((ns.reverse.take i).foldl (fun r x => r * 2 ^ w + x) 0)), x, y, z] ∧ H = H') ⟨none, none, none, rfl, rfl⟩ ?_ ?_ ?_
      · rintro _ _ _ _ ⟨_, _, _, _, rfl⟩
        exact SqL.of hl
      · rintro i v _ _ _ hi ⟨x, y, z, rfl, rfl⟩ ⟨hv, rfl⟩
        rw [← List.map_reverse, List.getElem?_map] at hv
        cases e : ns.reverse[i]? with
        | none =>
          rw [e] at hv
          cases hv
        | some b =>
          rw [e] at hv
          cases hv
          refine ⟨.inr ⟨by have := pow_pos' w; omega, pow62 hw⟩, some (.int b), y, z, ?_, rfl⟩
          rw [foldr_snoc (fun x r => r * 2 ^ w + x) 0 ns i b e]
          rfl
      · rintro _ _ ⟨x, y, z, rfl, rfl⟩
        have e : (ns.reverse.take (ns.map V.int).length).foldl (fun r x => r * 2 ^ w + x) 0 = packRest w ns := by
          rw [List.length_map]
          exact foldr_rev (fun x r => r * 2 ^ w + x) 0 ns
        rw [e]
        refine ⟨by decide, fun made hm => ?_⟩
        refine ⟨ns.map V.int, .inl (SqL.of ((upd_ne (ne_of_none hl hm)).trans hl)), ns.length, w, by simp, rfl, by omega, ?_⟩
        have hb : byteCount ns.length w ≤ 1000 := by
          unfold byteCount
          have : ns.length * w ≤ 100 * 62 := Nat.mul_le_mul hn hw
          omega
        refine ⟨by show -(2 ^ 62) ≤ ((byteCount ns.length w : Nat) : Int); omega, by show ((byteCount ns.length w : Nat) : Int) < 2 ^ 62; omega, ?_⟩
        refine ForGoes.by .range (fun i σ H' => ∃ (acc : List Int) (rest : Int) (z : Option V), σ = [some (.ref l), some (.int w), some (.int (2 ^ w)), some (.int rest), x, some (.ref made), z] ∧ Same H H' ∧ H' made = some (.lst (acc.map V.int)) ∧ acc.length = i ∧ acc ++ bytesOf (byteCount ns.length w - i) rest = packed ns w) ⟨[], packRest w ns, z, rfl, same_new hm (Same.refl _), upd_same, rfl, rfl⟩ (fun _ _ _ _ _ => trivial) ?_ ?_
        · rintro i _ _ H1 _ hi ⟨acc, rest, z, rfl, s1, d1, la, e1⟩ ⟨rfl, rfl⟩
          have hi : i < byteCount ns.length w := hi
          refine ⟨ty_l d1, ⟨by show (0 : Int) < 256; decide, ⟨_, d1, by rw [sizeLine_eq, List.length_map]; omega, ?_⟩⟩⟩
          refine ⟨⟨by decide, by decide⟩, ?_⟩
          obtain ⟨f, hf⟩ : ∃ f, byteCount ns.length w - i = f + 1 := ⟨byteCount ns.length w - i - 1, by omega⟩
          have ef : byteCount ns.length w - (i + 1) = f := by omega
          rw [hf, bytesOf_succ] at e1
          refine ⟨acc ++ [rest % 256], rest / 256, some (.int (0 + (i : Int))), rfl, same_new hm s1, ?_, by simp [la], by rw [ef, ← e1]; simp⟩
          rw [upd_same, ← map_snoc]
        · rintro _ H1 ⟨acc, rest, z, rfl, s1, d1, la, e1⟩
          have e1 : acc ++ bytesOf (byteCount ns.length w - byteCount ns.length w) rest = packed ns w := e1
          rw [Nat.sub_self] at e1
          refine h H1 made s1 hm ?_
          rw [d1, ← e1]
          simp [bytesOf]
    · exact h.elim
/-- the row cut -/
theorem cut_row {bs : List Int} {n m : Nat} : cutV (bs.map V.int) (some (n : Int)) (some ((n + m : Nat) : Int)) = ((bs.drop n).take m).map V.int := by
  unfold cutV
  rw [HT.sIx_nat, HT.sIx_nat, List.map_take, List.map_drop, List.length_map]
  by_cases hn : n ≤ bs.length
  · rw [Nat.min_eq_left hn]
    by_cases hm : n + m ≤ bs.length
    · rw [Nat.min_eq_left hm]
      congr 1
      omega
    · rw [Nat.min_eq_right (by omega)]
      rw [List.take_of_length_le (by simp), List.take_of_length_le (by simp; omega)]
  · rw [Nat.min_eq_right (by omega)]
    rw [List.drop_eq_nil_of_le (by rw [List.length_map]; omega), List.drop_eq_nil_of_le (by rw [List.length_map]; omega)]
    simp
theorem rev_row {K : PySem.W.Frag} {H : Hp} {r : Addr} {bs : List Int} {n m : Nat} {te : TE} {g : TG} {tb : TS} {D : Ends} {σ : L2.St} (hR : RowAt H r bs) (hte : ∀ Q, te σ H Q = uSl K (.ref r) (some (n : Int)) (some ((n : Int) + (m : Int))) H Q)
    (h : ∀ (J : It) (H1 : Hp) (S : Hp → Prop), Same H H1 → Iter J (((bs.drop n).take m).map V.int).length S (itemOf (((bs.drop n).take m).map V.int).reverse) → (∀ H2, Same H1 H2 → S H2) → ForGoes J g tb D σ H1) :
    uFor (jRev K te) g tb D σ H := by
  show te σ H _
  rw [hte]
  have e : cutV (bs.map V.int) (some (n : Int)) (some ((n : Int) + (m : Int))) = ((bs.drop n).take m).map V.int := cut_row
  have s1 : ∀ p o, H p = none → Same H (upd H p o) := fun p o hp => same_new hp (Same.refl _)
  rcases hR with hR | hR
  · refine .inl ⟨_, SqL.of hR, fun p hp => ⟨_, .inl ⟨SqL.of upd_same, ?_⟩⟩⟩
    rw [e]
    exact h _ _ _ (s1 _ _ hp) .rev fun H2 s2 => SqL.of (s2 _ _ upd_same)
  · refine .inr ⟨_, SqT.of hR, fun z => ⟨_, .inr ⟨SqT.of hR, ?_⟩⟩, fun p hp => ⟨_, .inr ⟨SqT.of upd_same, ?_⟩⟩⟩
    · rw [← z, e]
      rw [e] at z
      exact h _ _ _ (Same.refl _) .revT fun H2 s2 => by rw [z]; exact SqT.of (s2 _ _ hR)
    · rw [e]
      exact h _ _ _ (s1 _ _ hp) .revT fun H2 s2 => SqT.of (s2 _ _ upd_same)
/-- two new things: a list of ints and behind it a tuple that holds it -/
def NewL1 (H : Hp) (xs : List V) (n : Nat) (Q : VK) : Prop := ∀ H' p l, Same H H' → H p = none → H l = none → H' l = some (.lst xs) → H' p = some (.tup [.ref l, .int (n : Nat)]) → Q (.ref p) H'
def sp_take_packed (K : PySem.W.Frag) : Sp := fun vs H Q E => match vs with
  | [.ref r, .int a, .int b, .int c] => ∃ (bs : List Int) (n m w : Nat), a = n ∧ b = m ∧ c = w ∧ w ≤ 62 ∧ m ≤ 100 ∧ n ≤ bs.length ∧ RowAt H r bs ∧ ok (takePacked m w (bs.drop n)) (fun x => NewL1 H (x.1.map V.int) (n + x.2) Q) (Refuse K H E)
  | _ => False
theorem numsOf_succ (n : Nat) (p r : Int) : numsOf (n + 1) p r = (r % p :: (numsOf n p (r / p)).1, (numsOf n p (r / p)).2) := rfl
theorem lg62 {w : Nat} (h : w ≤ 62) : ((2 : Int) ^ w).natAbs.log2 < 9000 := by
  have a : ∀ w, w < 63 → ((2 : Int) ^ w).natAbs.log2 < 9000 := by decide +kernel
  exact a w (by omega)
theorem sc_take_packed : FnScope ["row", "at", "many", "wide", "behind", "rest", "byte", "power", "numbers", "turn"] ["row", "at", "many", "wide"] (defScope s_take_packed) := ⟨rfl, rfl, rfl, by decide +kernel, rfl, by decide +kernel, by decide +kernel⟩
theorem ok_take_packed (T : Txt K mg) : Cal P w K mg base 5 "take_packed" (sp_take_packed K) := by
  obtain ⟨fd, F⟩ := D_take_packed T
  refine cal_mk (g_take_packed T) F sc_take_packed (fun _ _ _ _ _ _ us hl => match us, hl with | [_, _, _, _], _ => rfl) (fun vs H Q E h => ?len) (fun cdv A outer s H vs Q E hr h => ⟨_, (pss_cons (ps_set (i := 4) sc_take_packed.nd rfl (by first | exact Or.inl rfl | exact Or.inr rfl) (pe_op o_add (uv 1) (u_call (ok_byte_count T) hr (by decide) (pa_cons (uv 2) (pa_cons (uv 3) pa_nil)))))
      (pss_cons (us_if (ut_cmp o_gt (uv 4) (pe_callB (q_len (K := K)) rfl (b_len T) (by decide +kernel) (pa_cons (uv 0) pa_nil)) (nomark _)) (pss_one (us_bad T (ok_BadBytes T) hr (by decide) (takes_of rfl rfl rfl rfl))) pss_nil)
      (pss_cons (ps_set (i := 5) sc_take_packed.nd rfl (by first | exact Or.inl rfl | exact Or.inr rfl) pe_int)
      (pss_cons (us_for (passes_of rfl) rfl (j_rev (b_reversed T) (pe_slice (q_sl (K := K)) (uv 0) (u_some (uv 1)) (u_some (uv 4)))) (pg_name (i := 6) sc_take_packed.nd rfl (by first | exact Or.inl rfl | exact Or.inr rfl)) (pss_one (ps_set (i := 5) sc_take_packed.nd rfl (by first | exact Or.inl rfl | exact Or.inr rfl) (pe_op o_add (pe_op o_mul (uv 5) (u_int (i_BYTE T))) (uv 6)))))
      (pss_cons (ps_set (i := 7) sc_take_packed.nd rfl (by first | exact Or.inl rfl | exact Or.inr rfl) (u_call (ok_power_of T) hr (by decide) (pa_cons (uv 3) pa_nil)))
      (pss_cons (ps_set (i := 8) sc_take_packed.nd rfl (by first | exact Or.inl rfl | exact Or.inr rfl) (pe_lst pa_nil))
      (pss_cons (us_for (passes_of rfl) rfl (j_rng (b_range T) (pa_cons (uv 2) pa_nil)) (pg_name (i := 9) sc_take_packed.nd rfl (by first | exact Or.inl rfl | exact Or.inr rfl)) (pss_cons (ps_expr (pe_bm PySem.F.plainAttrs_list PySem.F.slot_list_append PySem.F.type_list_append m_append (uv 8) (pa_cons (pe_op o_mod (uv 5) (uv 7)) pa_nil)))
      (pss_one (ps_set (i := 5) sc_take_packed.nd rfl (by first | exact Or.inl rfl | exact Or.inr rfl) (pe_op o_div (uv 5) (uv 7))))))
      (pss_cons (us_if (ut_cmp (o_ne hr.units) (uv 5) pe_int (nomark _)) (pss_one (us_bad T (ok_BadBytes T) hr (by decide) (takes_of rfl rfl rfl rfl))) pss_nil)
      (pss_one (ps_ret (pe_tup (pa_cons (uv 8) (pa_cons (uv 4) pa_nil))))))))))))), ?body⟩)
  case len => unfold sp_take_packed at h; (split at h) <;> first | rfl | exact h.elim
  case body =>
    unfold sp_take_packed at h
    split at h
    · rename_i r a b c
      obtain ⟨bs, n, m, w, rfl, rfl, rfl, hw, hm, hnl, hR, h⟩ := h
      unfold takePacked at h
      refine ⟨m, w, rfl, rfl, by omega, ?_⟩
      refine ⟨_, hR.sq, ⟨fun c => ?_, fun c => ?_⟩⟩
      · have c := of_decide_eq_true c
        simp only [List.length_map] at c
        have c2 : (bs.drop n).length < byteCount m w := by
          rw [List.length_drop]
          omega
        rw [if_pos c2] at h
        exact h
      · have c := of_decide_eq_false c
        simp only [List.length_map] at c
        have c2 : ¬ (bs.drop n).length < byteCount m w := by
          rw [List.length_drop]
          omega
        rw [if_neg c2] at h
        dsimp only [tNext, tSeq, tAsg, tC, gName]
        refine rev_row hR (fun _ => rfl) fun J H1 S s1 I hS => ?_
        generalize hseg : (bs.drop n).take (byteCount m w) = seg at *
        refine ForGoes.by I (fun i σ H' => ∃ (x y z u : Option V), σ = [some (.ref r), some (.int n), some (.int m), some (.int w), some (.int ((n : Int) + (byteCount m w : Nat))), some (.int ((seg.reverse.take i).foldl (fun r x => r * 256 + x) 0)), x, y, z, u] ∧ H1 = H') ⟨none, none, none, none, rfl, rfl⟩ ?_ ?_ ?_
        · rintro _ _ _ _ ⟨_, _, _, _, _, rfl⟩
          exact hS _ (Same.refl _)
        · rintro i v _ _ _ hi ⟨x, y, z, u, rfl, rfl⟩ ⟨hv, rfl⟩
          rw [← List.map_reverse, List.getElem?_map] at hv
          cases e : seg.reverse[i]? with
          | none =>
            rw [e] at hv
            cases hv
          | some b =>
            rw [e] at hv
            cases hv
            refine ⟨.inr ⟨by decide, by decide⟩, some (.int b), y, z, u, ?_, rfl⟩
            rw [foldr_snoc (fun x r => r * 256 + x) 0 seg i b e]
            rfl
        · rintro _ _ ⟨x, y, z, u, rfl, rfl⟩
          have e : (seg.reverse.take (seg.map V.int).length).foldl (fun r x => r * 256 + x) 0 = byteRest seg := by
            rw [List.length_map]
            exact foldr_rev (fun x r => r * 256 + x) 0 seg
          rw [e]
          refine ⟨w, rfl, by omega, ⟨by decide, fun nums hn => ?_⟩⟩
          refine ⟨by show -(2 ^ 62) ≤ (m : Int); omega, by show (m : Int) < 2 ^ 62; omega, ?_⟩
          refine ForGoes.by .range (fun i σ H' => ∃ (acc : List Int) (rest : Int) (u : Option V), σ = [some (.ref r), some (.int n), some (.int m), some (.int w), some (.int ((n : Int) + (byteCount m w : Nat))), some (.int rest), x, some (.int (2 ^ w)), some (.ref nums), u] ∧ Same H1 H' ∧ H' nums = some (.lst (acc.map V.int)) ∧ acc.length = i ∧ (acc ++ (numsOf (m - i) (2 ^ w) rest).1, (numsOf (m - i) (2 ^ w) rest).2) = numsOf m (2 ^ w) (byteRest seg)) ⟨[], _, u, rfl, same_new hn (Same.refl _), upd_same, rfl, rfl⟩ (fun _ _ _ _ _ => trivial) ?_ ?_
          · rintro i _ _ H2 _ hi ⟨acc, rest, u, rfl, s2, d1, la, e1⟩ ⟨rfl, rfl⟩
            have hi : i < m := hi
            refine ⟨ty_l d1, ⟨pow_pos' w, ⟨_, d1, by rw [sizeLine_eq, List.length_map]; omega, ?_⟩⟩⟩
            refine ⟨⟨pow_pos' w, lg62 hw⟩, ?_⟩
            obtain ⟨f, hf⟩ : ∃ f, m - i = f + 1 := ⟨m - i - 1, by omega⟩
            have ef : m - (i + 1) = f := by omega
            rw [hf, numsOf_succ] at e1
            refine ⟨acc ++ [rest % 2 ^ w], rest / 2 ^ w, some (.int (0 + (i : Int))), rfl, same_new hn s2, ?_, by simp [la], by rw [ef, ← e1]; simp⟩
            rw [upd_same, ← map_snoc]
          · rintro _ H2 ⟨acc, rest, u, rfl, s2, d1, la, e1⟩
            have e1 : (acc ++ (numsOf (m - m) (2 ^ w) rest).1, (numsOf (m - m) (2 ^ w) rest).2) = numsOf m (2 ^ w) (byteRest seg) := e1
            rw [Nat.sub_self] at e1
            simp only [numsOf, List.append_nil] at e1
            rw [← e1] at h
            refine ⟨rfl, ⟨fun c3 => ?_, fun c3 => ?_⟩⟩
            · have c3 : rest ≠ 0 := by simpa using c3
              rw [if_pos c3] at h
              exact Refuse.mono h (s1.trans s2)
            · have c3 : ¬ rest ≠ 0 := by simpa using c3
              rw [if_neg c3] at h
              refine ⟨len2, fun p hp => ?_⟩
              have sA := s1.trans s2
              have hn1 : H nums = none := s1.free hn
              refine h _ p nums (same_new (sA.free hp) sA) (sA.free hp) hn1 ?_ upd_same
              exact (upd_ne (ne_of_none d1 hp)).trans d1
    · exact h.elim
end
end K90
namespace K90
open PySem PySem.Spec PyProof.Rows L2 RT RZ
/-- bytes: none below 0 -/
def NN (bs : List Int) : Prop := ∀ b ∈ bs, 0 ≤ b
theorem take_cells_succ (n : Nat) (l : List Int) : takeCells (n + 1) l = (takeCell l).bind fun x => (takeCells n (l.drop x.2)).map fun y => (x.1 :: y.1, x.2 + y.2) := rfl
theorem cmap_snoc (acc : List Cell) (c : Cell) : acc.map cv ++ [cv c] = (acc ++ [c]).map cv := by simp
section
variable {P : Program} {w : World} {K : PySem.W.Frag} {mg : Str → Option Value} {base : Heap}
def sp_take_byte (K : PySem.W.Frag) : Sp := fun vs H Q E => match vs with
  | [.ref r, .int a] => ∃ (bs : List Int) (n : Nat), a = n ∧ RowAt H r bs ∧ ok (takeByte (bs.drop n)) (fun x => NewT H [.int x.1, .int ((n + x.2 : Nat) : Int)] Q) (Refuse K H E)
  | _ => False
theorem sc_take_byte : FnScope ["row", "at"] ["row", "at"] (defScope s_take_byte) := ⟨rfl, rfl, rfl, by decide +kernel, rfl, by decide +kernel, by decide +kernel⟩
theorem ok_take_byte (T : Txt K mg) : Cal P w K mg base 3 "take_byte" (sp_take_byte K) := by
  obtain ⟨fd, F⟩ := D_take_byte T
  refine cal_mk (g_take_byte T) F sc_take_byte (fun _ _ _ _ _ _ us hl => match us, hl with | [_, _], _ => rfl) (fun vs H Q E h => ?len) (fun cdv A outer s H vs Q E hr h => ⟨_, (pss_cons (us_if (ut_cmp o_ge (uv 1) (pe_callB (q_len (K := K)) rfl (b_len T) (by decide +kernel) (pa_cons (uv 0) pa_nil)) (nomark _)) (pss_one (us_bad T (ok_BadBytes T) hr (by decide) (takes_of rfl rfl rfl rfl))) pss_nil)
      (pss_one (ps_ret (pe_tup (pa_cons (pe_ix (q_seq (K := K)) (uv 0) (uv 1) (fun _ _ => rfl)) (pa_cons (pe_op o_add (uv 1) pe_int) pa_nil)))))), ?body⟩)
  case len => unfold sp_take_byte at h; (split at h) <;> first | rfl | exact h.elim
  case body =>
    unfold sp_take_byte at h
    split at h
    · rename_i r a
      obtain ⟨bs, n, rfl, hR, h⟩ := h
      refine ⟨_, hR.sq, ⟨fun c => ?_, fun c => ?_⟩⟩
      · have e : bs[n]? = none := by
          rw [List.getElem?_eq_none_iff]
          have := of_decide_eq_true c
          simp at this
          omega
        rw [drop_get0_none e] at h
        exact h
      · have c2 := of_decide_eq_false c
        simp at c2
        obtain ⟨b, e⟩ := get_lt (l := bs) (i := n) (by omega)
        rw [drop_get0 e] at h
        exact ⟨_, _, hR.sq, atI_int e, len2, NewT.upd h (Same.refl _)⟩
    · exact h.elim
def sp_take_count (K : PySem.W.Frag) : Sp := fun vs H Q E => match vs with
  | [.ref r, .int a, .int m] => ∃ (bs : List Int) (n most : Nat), a = n ∧ m = most ∧ RowAt H r bs ∧ ok (takeCount most (bs.drop n)) (fun x => NewT H [.int (x.1 : Nat), .int ((n + x.2 : Nat) : Int)] Q) (Refuse K H E)
  | _ => False
theorem sc_take_count : FnScope ["row", "at", "most", "count"] ["row", "at", "most"] (defScope s_take_count) := ⟨rfl, rfl, rfl, by decide +kernel, rfl, by decide +kernel, by decide +kernel⟩
theorem ok_take_count (T : Txt K mg) : Cal P w K mg base 5 "take_count" (sp_take_count K) := by
  obtain ⟨fd, F⟩ := D_take_count T
  refine cal_mk (g_take_count T) F sc_take_count (fun _ _ _ _ _ _ us hl => match us, hl with | [_, _, _], _ => rfl) (fun vs H Q E h => ?len) (fun cdv A outer s H vs Q E hr h => ⟨_, (pss_cons (ps_asg (u_callX (ok_take_number T) (takes_of rfl rfl rfl rfl) hr (by decide) (pa_cons (uv 0) (pa_cons (uv 1) pa_nil))) (q_tup (K := K) (n := 2) rfl (hg_cons (pg_name (i := 3) sc_take_count.nd rfl (by first | exact Or.inl rfl | exact Or.inr rfl)) (hg_cons (pg_name (i := 1) sc_take_count.nd rfl (by first | exact Or.inl rfl | exact Or.inr rfl)) hg_nil))))
      (pss_cons (us_if (pt_not (ut_chain o_le o_le pe_int (uv 3) (uv 2))) (pss_one (us_bad T (ok_BadBytes T) hr (by decide) (takes_of rfl rfl rfl rfl))) pss_nil)
      (pss_one (ps_ret (pe_tup (pa_cons (uv 3) (pa_cons (uv 1) pa_nil))))))), ?body⟩)
  case len => unfold sp_take_count at h; (split at h) <;> first | rfl | exact h.elim
  case body =>
    unfold sp_take_count at h
    split at h
    · rename_i r a m
      obtain ⟨bs, n, most, rfl, rfl, hR, h⟩ := h
      refine ⟨bs, n, rfl, hR, ?_⟩
      unfold takeCount at h
      cases e : takeNumber (bs.drop n) with
      | none =>
        rw [e] at h
        exact h
      | some x =>
        obtain ⟨c, k⟩ := x
        rw [e] at h
        dsimp only at h
        intro H1 p s1 hp d1
        refine ⟨_, SqT.of d1, rfl, ?_⟩
        have bad : ¬ (1 ≤ c ∧ c ≤ most) → Refuse K H1 E := fun c => by
          rw [if_neg c] at h
          exact Refuse.mono h s1
        refine ⟨fun c1 => ⟨fun c2 => bad ?_, fun c2 => ?_⟩, fun c1 => ⟨fun _ => bad ?_, (nomatch ·)⟩⟩
        · have c2 : ¬ c ≤ most := by simpa using c2
          exact fun z => c2 z.2
        · have c1 : 1 ≤ c := of_decide_eq_true c1
          have c2 : c ≤ most := by simpa using c2
          rw [if_pos ⟨c1, c2⟩] at h
          obtain ⟨j, rfl⟩ := Int.eq_ofNat_of_zero_le (show 0 ≤ c by omega)
          exact ⟨len2, NewT.upd h s1⟩
        · have c1 : ¬ 1 ≤ c := of_decide_eq_false c1
          exact fun z => c1 z.1
    · exact h.elim
def sp_take_cells (K : PySem.W.Frag) : Sp := fun vs H Q E => match vs with
  | [.ref r, .int a, .int m] => ∃ (bs : List Int) (n many : Nat), a = n ∧ m = many ∧ many ≤ 100 ∧ RowAt H r bs ∧ ok (takeCells many (bs.drop n)) (fun x => NewL1 H (x.1.map cv) (n + x.2) Q) (Refuse K H E)
  | _ => False
theorem sc_take_cells : FnScope ["row", "at", "many", "cells", "turn", "cell"] ["row", "at", "many"] (defScope s_take_cells) := ⟨rfl, rfl, rfl, by decide +kernel, rfl, by decide +kernel, by decide +kernel⟩
theorem ok_take_cells (T : Txt K mg) : Cal P w K mg base 7 "take_cells" (sp_take_cells K) := by
  obtain ⟨fd, F⟩ := D_take_cells T
  refine cal_mk (g_take_cells T) F sc_take_cells (fun _ _ _ _ _ _ us hl => match us, hl with | [_, _, _], _ => rfl) (fun vs H Q E h => ?len) (fun cdv A outer s H vs Q E hr h => ⟨_, (pss_cons (ps_set (i := 3) sc_take_cells.nd rfl (by first | exact Or.inl rfl | exact Or.inr rfl) (pe_lst pa_nil))
      (pss_cons (us_for (passes_of rfl) rfl (j_rng (b_range T) (pa_cons (uv 2) pa_nil)) (pg_name (i := 4) sc_take_cells.nd rfl (by first | exact Or.inl rfl | exact Or.inr rfl)) (pss_cons (ps_asg (u_callX (ok_take_cell T) (takes_of rfl rfl rfl rfl) hr (by decide) (pa_cons (uv 0) (pa_cons (uv 1) pa_nil))) (q_tup (K := K) (n := 2) rfl (hg_cons (pg_name (i := 5) sc_take_cells.nd rfl (by first | exact Or.inl rfl | exact Or.inr rfl)) (hg_cons (pg_name (i := 1) sc_take_cells.nd rfl (by first | exact Or.inl rfl | exact Or.inr rfl)) hg_nil))))
      (pss_one (ps_expr (pe_bm PySem.F.plainAttrs_list PySem.F.slot_list_append PySem.F.type_list_append m_append (uv 3) (pa_cons (uv 5) pa_nil))))))
      (pss_one (ps_ret (pe_tup (pa_cons (uv 3) (pa_cons (uv 1) pa_nil))))))), ?body⟩)
  case len => unfold sp_take_cells at h; (split at h) <;> first | rfl | exact h.elim
  case body =>
    unfold sp_take_cells at h
    split at h
    · rename_i r a m
      obtain ⟨bs, n, many, rfl, rfl, hm, hR, h⟩ := h
      refine ⟨by decide, fun cells hc => ?_⟩
      refine ⟨by show -(2 ^ 62) ≤ (many : Int); omega, by show (many : Int) < 2 ^ 62; omega, ?_⟩
      refine ForGoes.by .range (fun i σ H' => ∃ (acc : List Cell) (k : Nat) (t c : Option V), σ = [some (.ref r), some (.int ((n + k : Nat) : Int)), some (.int many), some (.ref cells), t, c] ∧ Same H H' ∧ H' cells = some (.lst (acc.map cv)) ∧ acc.length = i ∧ ok (takeCells (many - i) (bs.drop (n + k))) (fun x => NewL1 H ((acc ++ x.1).map cv) (n + k + x.2) Q) (Refuse K H E)) ⟨[], 0, none, none, rfl, same_new hc (Same.refl _), upd_same, rfl, h⟩ (fun _ _ _ _ _ => trivial) ?_ ?_
      · rintro i _ _ H1 _ hi ⟨acc, k, t, c, rfl, s1, d1, la, h⟩ ⟨rfl, rfl⟩
        have hi : i < many := hi
        obtain ⟨f, hf⟩ : ∃ f, many - i = f + 1 := ⟨many - i - 1, by omega⟩
        have ef : many - (i + 1) = f := by omega
        rw [hf, take_cells_succ, ok_bind] at h
        refine ⟨bs, n + k, rfl, hR.same s1, ok_imp h (fun x _ hx H2 p s2 hp d2 => ?_) fun h => Refuse.mono h s1⟩
        rw [ok_map, List.drop_drop] at hx
        refine ⟨_, SqT.of d2, rfl, ?_⟩
        refine ⟨ty_l (s2 _ _ d1), ⟨_, s2 _ _ d1, by rw [sizeLine_eq, List.length_map]; omega, ?_⟩⟩
        refine ⟨acc ++ [x.1], k + x.2, some (.int (0 + (i : Int))), some (cv x.1), ?_, same_new hc (s1.trans s2), ?_, by simp [la], ?_⟩
        · rw [← Nat.add_assoc]
          rfl
        · rw [upd_same, ← cmap_snoc]
        · rw [ef, ← Nat.add_assoc]
          refine ok_imp hx (fun y _ hy => ?_) id
          simpa [Nat.add_assoc] using hy
      · rintro _ H1 ⟨acc, k, t, c, rfl, s1, d1, la, h⟩
        have h : ok (takeCells (many - many) (bs.drop (n + k))) (fun x => NewL1 H ((acc ++ x.1).map cv) (n + k + x.2) Q) (Refuse K H E) := h
        rw [Nat.sub_self] at h
        have h : NewL1 H ((acc ++ []).map cv) (n + k + 0) Q := h
        rw [List.append_nil] at h
        refine ⟨len2, fun p hp => ?_⟩
        exact h _ p cells (same_new (s1.free hp) s1) (s1.free hp) hc ((upd_ne (ne_of_none d1 hp)).trans d1) upd_same
    · exact h.elim
/-- the pairs of a list of runs -/
def RunsAt (H : Hp) : List V → List (Cell × Nat) → Prop
  | [], [] => True
  | v :: r, p :: q => (∃ a, v = .ref a ∧ H a = some (.tup [cv p.1, .int (p.2 : Nat)])) ∧ RunsAt H r q
  | _, _ => False
theorem RunsAt.same {H H' : Hp} (s : Same H H') : ∀ {ps : List V} {rs : List (Cell × Nat)}, RunsAt H ps rs → RunsAt H' ps rs
  | [], [], _ => trivial
  | v :: r, p :: q, ⟨⟨a, e, d⟩, h⟩ => ⟨⟨a, e, s _ _ d⟩, RunsAt.same s h⟩
  | [], _ :: _, h => h.elim
  | _ :: _, [], h => h.elim
theorem RunsAt.put {H : Hp} {b : Addr} {xs ys : List V} (hb : H b = some (.lst xs)) : ∀ {ps : List V} {rs : List (Cell × Nat)}, RunsAt H ps rs → RunsAt (upd H b (.lst ys)) ps rs
  | [], [], _ => trivial
  | v :: r, p :: q, ⟨⟨a, e, d⟩, h⟩ => ⟨⟨a, e, (upd_ne (fun z => by rw [z, hb] at d; cases d)).trans d⟩, RunsAt.put hb h⟩
  | [], _ :: _, h => h.elim
  | _ :: _, [], h => h.elim
theorem RunsAt.snoc {H : Hp} {a : Addr} {p : Cell × Nat} (d : H a = some (.tup [cv p.1, .int (p.2 : Nat)])) : ∀ {ps : List V} {rs : List (Cell × Nat)}, RunsAt H ps rs → RunsAt H (ps ++ [.ref a]) (rs ++ [p])
  | [], [], _ => ⟨⟨a, rfl, d⟩, trivial⟩
  | v :: r, p' :: q, ⟨x, h⟩ => ⟨x, RunsAt.snoc d h⟩
  | [], _ :: _, h => h.elim
  | _ :: _, [], h => h.elim
theorem RunsAt.len {H : Hp} : ∀ {ps : List V} {rs : List (Cell × Nat)}, RunsAt H ps rs → ps.length = rs.length
  | [], [], _ => rfl
  | v :: r, p' :: q, ⟨x, h⟩ => by simp [RunsAt.len h]
  | [], _ :: _, h => h.elim
  | _ :: _, [], h => h.elim
theorem RunsAt.get {H : Hp} : ∀ {ps : List V} {rs : List (Cell × Nat)} {i : Nat} {v : V}, RunsAt H ps rs → ps[i]? = some v → ∃ a p, v = .ref a ∧ H a = some (.tup [cv p.1, .int (p.2 : Nat)]) ∧ rs[i]? = some p
  | v :: r, p :: q, 0, v', ⟨⟨a, e, d⟩, h⟩, g => by
    have g : v = v' := by simpa using g
    subst g
    exact ⟨a, p, e, d, rfl⟩
  | v :: r, p :: q, i + 1, v', ⟨x, h⟩, g => by
    obtain ⟨a, p', h1, h2, h3⟩ := RunsAt.get (i := i) h (by simpa using g)
    exact ⟨a, p', h1, h2, by simpa using h3⟩
  | [], [], _, _, _, g => by simp at g
  | [], _ :: _, _, _, h, _ => h.elim
  | _ :: _, [], _, _, h, _ => h.elim
def NewRuns (H : Hp) (rs : List (Cell × Nat)) (n : Nat) (Q : VK) : Prop := ∀ H' p l ps, Same H H' → H p = none → H l = none → H' l = some (.lst ps) → RunsAt H' ps rs → H' p = some (.tup [.ref l, .int (n : Nat)]) → Q (.ref p) H'
def sp_take_runs (K : PySem.W.Frag) : Sp := fun vs H Q E => match vs with
  | [.ref r, .int a, .int m] => ∃ (bs : List Int) (n many : Nat), a = n ∧ m = many ∧ many ≤ 100 ∧ RowAt H r bs ∧ ok (takeRuns many (bs.drop n)) (fun x => NewRuns H x.1 (n + x.2) Q) (Refuse K H E)
  | _ => False
theorem take_runs_succ (m n : Nat) (l : List Int) : takeRunsN m (n + 1) l = (takeCell l).bind fun x => (takeCount m (l.drop x.2)).bind fun z => (takeRunsN m n (l.drop (x.2 + z.2))).map fun y => ((x.1, z.1) :: y.1, x.2 + z.2 + y.2) := rfl
theorem sc_take_runs : FnScope ["row", "at", "many", "count", "runs", "turn", "cell", "length"] ["row", "at", "many"] (defScope s_take_runs) := ⟨rfl, rfl, rfl, by decide +kernel, rfl, by decide +kernel, by decide +kernel⟩
theorem ok_take_runs (T : Txt K mg) : Cal P w K mg base 7 "take_runs" (sp_take_runs K) := by
  obtain ⟨fd, F⟩ := D_take_runs T
  refine cal_mk (g_take_runs T) F sc_take_runs (fun _ _ _ _ _ _ us hl => match us, hl with | [_, _, _], _ => rfl) (fun vs H Q E h => ?len) (fun cdv A outer s H vs Q E hr h => ⟨_, (pss_cons (ps_asg (u_callX (ok_take_count T) (takes_of rfl rfl rfl rfl) hr (by decide) (pa_cons (uv 0) (pa_cons (uv 1) (pa_cons (uv 2) pa_nil)))) (q_tup (K := K) (n := 2) rfl (hg_cons (pg_name (i := 3) sc_take_runs.nd rfl (by first | exact Or.inl rfl | exact Or.inr rfl)) (hg_cons (pg_name (i := 1) sc_take_runs.nd rfl (by first | exact Or.inl rfl | exact Or.inr rfl)) hg_nil))))
      (pss_cons (ps_set (i := 4) sc_take_runs.nd rfl (by first | exact Or.inl rfl | exact Or.inr rfl) (pe_lst pa_nil))
      (pss_cons (us_for (passes_of rfl) rfl (j_rng (b_range T) (pa_cons (uv 3) pa_nil)) (pg_name (i := 5) sc_take_runs.nd rfl (by first | exact Or.inl rfl | exact Or.inr rfl)) (pss_cons (ps_asg (u_callX (ok_take_cell T) (takes_of rfl rfl rfl rfl) hr (by decide) (pa_cons (uv 0) (pa_cons (uv 1) pa_nil))) (q_tup (K := K) (n := 2) rfl (hg_cons (pg_name (i := 6) sc_take_runs.nd rfl (by first | exact Or.inl rfl | exact Or.inr rfl)) (hg_cons (pg_name (i := 1) sc_take_runs.nd rfl (by first | exact Or.inl rfl | exact Or.inr rfl)) hg_nil))))
      (pss_cons (ps_asg (u_callX (ok_take_count T) (takes_of rfl rfl rfl rfl) hr (by decide) (pa_cons (uv 0) (pa_cons (uv 1) (pa_cons (uv 2) pa_nil)))) (q_tup (K := K) (n := 2) rfl (hg_cons (pg_name (i := 7) sc_take_runs.nd rfl (by first | exact Or.inl rfl | exact Or.inr rfl)) (hg_cons (pg_name (i := 1) sc_take_runs.nd rfl (by first | exact Or.inl rfl | exact Or.inr rfl)) hg_nil))))
      (pss_one (ps_expr (pe_bm PySem.F.plainAttrs_list PySem.F.slot_list_append PySem.F.type_list_append m_append (uv 4) (pa_cons (pe_tup (pa_cons (uv 6) (pa_cons (uv 7) pa_nil))) pa_nil)))))))
      (pss_one (ps_ret (pe_tup (pa_cons (uv 4) (pa_cons (uv 1) pa_nil)))))))), ?body⟩)
  case len => unfold sp_take_runs at h; (split at h) <;> first | rfl | exact h.elim
  case body =>
    unfold sp_take_runs at h
    split at h
    · rename_i r a m
      obtain ⟨bs, n, many, rfl, rfl, hm, hR, h⟩ := h
      unfold takeRuns at h
      rw [ok_bind] at h
      refine ⟨bs, n, many, rfl, rfl, hR, ok_imp h (fun x ex hx H1 p s1 hp d1 => ?_) id⟩
      rw [ok_map, List.drop_drop] at hx
      have hc := takeCount_le ex
      obtain ⟨cnt, k0⟩ := x
      dsimp only at hx hc
      refine ⟨_, SqT.of d1, rfl, ?_⟩
      refine ⟨by decide, fun runs hr => ?_⟩
      refine ⟨by show -(2 ^ 62) ≤ (cnt : Int); omega, by show (cnt : Int) < 2 ^ 62; omega, ?_⟩
      refine ForGoes.by .range (fun i σ H' => ∃ (acc : List V) (rs : List (Cell × Nat)) (k : Nat) (t c l : Option V), σ = [some (.ref r), some (.int ((n + k : Nat) : Int)), some (.int many), some (.int cnt), some (.ref runs), t, c, l] ∧ Same H1 H' ∧ H' runs = some (.lst acc) ∧ RunsAt H' acc rs ∧ rs.length = i ∧ ok (takeRunsN many (cnt - i) (bs.drop (n + k))) (fun x => NewRuns H (rs ++ x.1) (n + k + x.2) Q) (Refuse K H E)) ⟨[], [], k0, none, none, none, rfl, same_new hr (Same.refl _), upd_same, trivial, rfl, ?_⟩ (fun _ _ _ _ _ => trivial) ?_ ?_
      · simpa [Nat.add_assoc] using hx
      · rintro i _ _ H2 _ hi ⟨acc, rs, k, t, c, l, rfl, s2, d2, ra, la, h⟩ ⟨rfl, rfl⟩
        have hi : i < cnt := hi
        obtain ⟨f, hf⟩ : ∃ f, cnt - i = f + 1 := ⟨cnt - i - 1, by omega⟩
        have ef : cnt - (i + 1) = f := by omega
        rw [hf, take_runs_succ, ok_bind] at h
        have s02 := s1.trans s2
        refine ⟨bs, n + k, rfl, hR.same s02, ok_imp h (fun x _ hx H3 p3 s3 hp3 d3 => ?_) fun h => Refuse.mono h s02⟩
        rw [ok_bind, List.drop_drop] at hx
        refine ⟨_, SqT.of d3, rfl, ?_⟩
        have s03 := s02.trans s3
        refine ⟨bs, n + k + x.2, many, ?_, rfl, hR.same s03, ok_imp hx (fun z _ hz H4 p4 s4 hp4 d4 => ?_) fun h => Refuse.mono h s03⟩
        · rfl
        rw [ok_map, List.drop_drop] at hz
        refine ⟨_, SqT.of d4, rfl, ?_⟩
        have d4r := s4 _ _ (s3 _ _ d2)
        refine ⟨ty_l d4r, ⟨len2, fun q hq => ?_⟩⟩
        have hqr : q ≠ runs := fun z => by rw [z, d4r] at hq; cases hq
        refine ⟨acc, (upd_ne (Ne.symm hqr)).trans d4r, by rw [sizeLine_eq, RunsAt.len ra]; omega, ?_⟩
        have s24 : Same H1 H4 := s2.trans (s3.trans s4)
        have hq1 : H1 q = none := s24.free hq
        have hr1 : H1 runs = none := hr
        refine ⟨acc ++ [.ref q], rs ++ [(x.1, z.1)], k + x.2 + z.2, some (.int (0 + (i : Int))), some (cv x.1), some (.int (z.1 : Nat)), ?_, same_new hr1 (same_new hq1 s24), upd_same, ?_, by simp [la], ?_⟩
        · rw [← Nat.add_assoc, ← Nat.add_assoc]
          rfl
        · have sq : Same H2 (upd H4 q (.tup [cv x.1, .int (z.1 : Nat)])) := same_new (s3.free (s4.free hq)) (s3.trans s4)
          have ra2 := RunsAt.snoc (p := (x.1, z.1)) (a := q) (H := upd H4 q (.tup [cv x.1, .int (z.1 : Nat)])) upd_same (RunsAt.same sq ra)
          exact RunsAt.put ((upd_ne (Ne.symm hqr)).trans d4r) ra2
        · rw [ef]
          refine ok_imp (show ok (takeRunsN many f (bs.drop (n + (k + x.2 + z.2)))) _ _ by simpa [Nat.add_assoc] using hz) (fun y _ hy => ?_) id
          simpa [Nat.add_assoc] using hy
      · rintro _ H2 ⟨acc, rs, k, t, c, l, rfl, s2, d2, ra, la, h⟩
        have h : ok (takeRunsN many (cnt - cnt) (bs.drop (n + k))) (fun x => NewRuns H (rs ++ x.1) (n + k + x.2) Q) (Refuse K H E) := h
        rw [Nat.sub_self] at h
        have h : NewRuns H (rs ++ []) (n + k + 0) Q := h
        rw [List.append_nil] at h
        have s02 := s1.trans s2
        refine ⟨len2, fun p hp => ?_⟩
        have sp : Same H2 (upd H2 p (.tup [.ref runs, .int ((n + k : Nat) : Int)])) := same_new hp (Same.refl _)
        exact h _ p runs acc (same_new (s02.free hp) s02) (s02.free hp) (s1.free hr) ((upd_ne (ne_of_none d2 hp)).trans d2) (RunsAt.same sp ra) upd_same
    · exact h.elim
end
end K90
namespace K90
open PySem PySem.Spec PyProof.Rows L2 RT RZ
theorem lt_size {α β : Type} {f : α → β} {l : List α} {i : Nat} (hi : i < (l.map f).length) (h : l.length ≤ 100000) : i < sizeLine := by
  rw [sizeLine_eq]
  rw [List.length_map] at hi
  omega
theorem rep_flat (v : V) : ∀ n : Nat, (List.replicate n [v]).flatten = List.replicate n v
  | 0 => rfl
  | n + 1 => by rw [List.replicate_succ, List.flatten_cons, rep_flat v n]; rfl
theorem unruns_snoc (l : List (Cell × Nat)) (p : Cell × Nat) : unruns (l ++ [p]) = unruns l ++ List.replicate p.2 p.1 := by simp [unruns]
theorem take_snoc {α : Type} {l : List α} {i : Nat} {x : α} (h : l[i]? = some x) : l.take (i + 1) = l.take i ++ [x] := by
  rw [List.take_add_one, h]
  rfl
section
variable {P : Program} {w : World} {K : PySem.W.Frag} {mg : Str → Option Value} {base : Heap}
def NewBook (H : Hp) (book : List Cell) (places : List Int) (n : Nat) (Q : VK) : Prop := ∀ H' p l q, Same H H' → H p = none → H l = none → H q = none → H' l = some (.lst (book.map cv)) → H' q = some (.lst (places.map V.int)) → H' p = some (.tup [.ref l, .ref q, .int (n : Nat)]) → Q (.ref p) H'
def sp_take_book (K : PySem.W.Frag) : Sp := fun vs H Q E => match vs with
  | [.ref r, .int a, .int m] => ∃ (bs : List Int) (n many : Nat), a = n ∧ m = many ∧ many ≤ 100 ∧ n ≤ bs.length ∧ RowAt H r bs ∧ ok (takeBook many (bs.drop n)) (fun x => NewBook H x.1 x.2.1 (n + x.2.2) Q) (Refuse K H E)
  | _ => False
theorem sc_take_book : FnScope ["row", "at", "many", "count", "book", "places"] ["row", "at", "many"] (defScope s_take_book) := ⟨rfl, rfl, rfl, by decide +kernel, rfl, by decide +kernel, by decide +kernel⟩
theorem ok_take_book (T : Txt K mg) : Cal P w K mg base 8 "take_book" (sp_take_book K) := by
  obtain ⟨fd, F⟩ := D_take_book T
  refine cal_mk (g_take_book T) F sc_take_book (fun _ _ _ _ _ _ us hl => match us, hl with | [_, _, _], _ => rfl) (fun vs H Q E h => ?len) (fun cdv A outer s H vs Q E hr h => ⟨_, (pss_cons (ps_asg (u_callX (ok_take_count T) (takes_of rfl rfl rfl rfl) hr (by decide) (pa_cons (uv 0) (pa_cons (uv 1) (pa_cons (uv 2) pa_nil)))) (q_tup (K := K) (n := 2) rfl (hg_cons (pg_name (i := 3) sc_take_book.nd rfl (by first | exact Or.inl rfl | exact Or.inr rfl)) (hg_cons (pg_name (i := 1) sc_take_book.nd rfl (by first | exact Or.inl rfl | exact Or.inr rfl)) hg_nil))))
      (pss_cons (ps_asg (u_callX (ok_take_cells T) (takes_of rfl rfl rfl rfl) hr (by decide) (pa_cons (uv 0) (pa_cons (uv 1) (pa_cons (uv 3) pa_nil)))) (q_tup (K := K) (n := 2) rfl (hg_cons (pg_name (i := 4) sc_take_book.nd rfl (by first | exact Or.inl rfl | exact Or.inr rfl)) (hg_cons (pg_name (i := 1) sc_take_book.nd rfl (by first | exact Or.inl rfl | exact Or.inr rfl)) hg_nil))))
      (pss_cons (ps_asg (u_callX (ok_take_packed T) (takes_of rfl rfl rfl rfl) hr (by decide) (pa_cons (uv 0) (pa_cons (uv 1) (pa_cons (uv 2) (pa_cons (u_call (ok_bits_for T) hr (by decide) (pa_cons (pe_op o_sub (uv 3) pe_int) pa_nil)) pa_nil))))) (q_tup (K := K) (n := 2) rfl (hg_cons (pg_name (i := 5) sc_take_book.nd rfl (by first | exact Or.inl rfl | exact Or.inr rfl)) (hg_cons (pg_name (i := 1) sc_take_book.nd rfl (by first | exact Or.inl rfl | exact Or.inr rfl)) hg_nil))))
      (pss_one (ps_ret (pe_tup (pa_cons (uv 4) (pa_cons (uv 5) (pa_cons (uv 1) pa_nil))))))))), ?body⟩)
  case len => unfold sp_take_book at h; (split at h) <;> first | rfl | exact h.elim
  case body =>
    unfold sp_take_book at h
    split at h
    · rename_i r a m
      obtain ⟨bs, n, many, rfl, rfl, hm, hn, hR, h⟩ := h
      unfold takeBook at h
      rw [ok_bind] at h
      refine ⟨bs, n, many, rfl, rfl, hR, ok_imp h (fun x ex hx H1 p s1 hp d1 => ?_) id⟩
      rw [ok_bind, List.drop_drop] at hx
      have hc := takeCount_le ex
      obtain ⟨cnt, k0⟩ := x
      rw [List.length_drop] at hc
      dsimp only at hx hc
      refine ⟨_, SqT.of d1, rfl, ?_⟩
      refine ⟨bs, n + k0, cnt, rfl, rfl, by omega, hR.same s1, ok_imp hx (fun y ey hy H2 p2 l2 s2 hp2 hl2 dl2 d2 => ?_) fun h => Refuse.mono h s1⟩
      have hy1 := takeCells_le _ _ _ ey
      rw [List.length_drop] at hy1
      rw [ok_map, List.drop_drop] at hy
      refine ⟨_, SqT.of d2, rfl, ?_⟩
      have e1 : ((cnt : Int) - 1).toNat = cnt - 1 := by omega
      have s12 := s1.trans s2
      have hy' : ok (takePacked many (bitsFor (cnt - 1)) (bs.drop (n + k0 + y.2))) (fun x => NewBook H y.1 x.1 (n + (k0 + y.2 + x.2)) Q) (Refuse K H E) := by
        rw [Nat.add_assoc]
        exact hy
      refine ⟨bs, n + k0 + y.2, many, bitsFor (cnt - 1), rfl, rfl, ?_, bitsFor_100 (by omega), hm, by omega, hR.same s12, ok_imp hy' (fun z ez hz H3 p3 l3 s3 hp3 hl3 dl3 d3 => ?_) fun h => Refuse.mono h s12⟩
      · show ((bitsFor ((cnt : Int) - 1).toNat : Nat) : Int) = _
        rw [e1]
      refine ⟨_, SqT.of d3, rfl, ?_⟩
      have s13 := s12.trans s3
      refine ⟨len3, fun q hq => ?_⟩
      refine hz _ q l2 l3 (same_new (s13.free hq) s13) (s13.free hq) (s1.free hl2) (s12.free hl3) ?_ ?_ ?_
      · have := s3 _ _ dl2
        exact (upd_ne (ne_of_none this hq)).trans this
      · exact (upd_ne (ne_of_none dl3 hq)).trans dl3
      · rw [upd_same]
        congr 5
        simp [Nat.add_assoc]
    · exact h.elim
def sp_take_small (K : PySem.W.Frag) : Sp := fun vs H Q E => match vs with
  | [.ref r, .int a, .int b] => ∃ (bs : List Int) (n m : Nat), a = n ∧ b = m ∧ m ≤ 100 ∧ NN bs ∧ RowAt H r bs ∧ ok (takeSmall m (bs.drop n)) (fun x => NewL1 H (x.1.map V.int) (n + x.2) Q) (Refuse K H E)
  | _ => False
theorem NewL1.mono {H H1 : Hp} {xs : List V} {n : Nat} {Q : VK} (h : NewL1 H xs n Q) (s : Same H H1) : NewL1 H1 xs n Q := fun H' p l s' hp hl dl dp => h H' p l (s.trans s') (s.free hp) (s.free hl) dl dp
theorem sc_take_small : FnScope ["row", "at", "many", "wide"] ["row", "at", "many"] (defScope s_take_small) := ⟨rfl, rfl, rfl, by decide +kernel, rfl, by decide +kernel, by decide +kernel⟩
theorem ok_take_small (T : Txt K mg) : Cal P w K mg base 6 "take_small" (sp_take_small K) := by
  obtain ⟨fd, F⟩ := D_take_small T
  refine cal_mk (g_take_small T) F sc_take_small (fun _ _ _ _ _ _ us hl => match us, hl with | [_, _, _], _ => rfl) (fun vs H Q E h => ?len) (fun cdv A outer s H vs Q E hr h => ⟨_, (pss_cons (ps_asg (u_callX (ok_take_byte T) (takes_of rfl rfl rfl rfl) hr (by decide) (pa_cons (uv 0) (pa_cons (uv 1) pa_nil))) (q_tup (K := K) (n := 2) rfl (hg_cons (pg_name (i := 3) sc_take_small.nd rfl (by first | exact Or.inl rfl | exact Or.inr rfl)) (hg_cons (pg_name (i := 1) sc_take_small.nd rfl (by first | exact Or.inl rfl | exact Or.inr rfl)) hg_nil))))
      (pss_cons (us_if (ut_cmp o_gt (uv 3) (u_int (i_MOST_WIDE T)) (nomark _)) (pss_one (us_bad T (ok_BadBytes T) hr (by decide) (takes_of rfl rfl rfl rfl))) pss_nil)
      (pss_one (ps_ret (u_callX (ok_take_packed T) (takes_of rfl rfl rfl rfl) hr (by decide) (pa_cons (uv 0) (pa_cons (uv 1) (pa_cons (uv 2) (pa_cons (uv 3) pa_nil))))))))), ?body⟩)
  case len => unfold sp_take_small at h; (split at h) <;> first | rfl | exact h.elim
  case body =>
    unfold sp_take_small at h
    split at h
    · rename_i r a b
      obtain ⟨bs, n, m, rfl, rfl, hm, hnn, hR, h⟩ := h
      refine ⟨bs, n, rfl, hR, ?_⟩
      cases e : bs[n]? with
      | none =>
        rw [drop_get0_none e] at h ⊢
        exact h
      | some b =>
        have hb := hnn b (List.mem_of_getElem? e)
        have hl := (List.getElem?_eq_some_iff.mp e).1
        rw [drop_get0 e] at h ⊢
        unfold takeSmall at h
        dsimp only at h
        intro H1 p s1 hp d1
        refine ⟨_, SqT.of d1, rfl, ⟨fun c => ?_, fun c => ?_⟩⟩
        · have c : 62 < b := of_decide_eq_true c
          rw [if_pos c] at h
          exact Refuse.mono h s1
        · have c : ¬ 62 < b := of_decide_eq_false c
          rw [if_neg c, ok_map] at h
          obtain ⟨wd, rfl⟩ := Int.eq_ofNat_of_zero_le hb
          refine ⟨bs, n + 1, m, wd, rfl, rfl, rfl, by omega, hm, by omega, hR.same s1, ok_imp h (fun x _ hx => ?_) fun h => Refuse.mono h s1⟩
          have : n + 1 + x.2 = n + (1 + x.2) := by omega
          rw [this]
          exact NewL1.mono hx s1
    · exact h.elim
def sp_run_cells (K : PySem.W.Frag) : Sp := fun vs H Q E => match vs with
  | [.ref r, .int a, .int m] => ∃ (bs : List Int) (n many : Nat), a = n ∧ m = many ∧ many ≤ 100 ∧ RowAt H r bs ∧ ok (runCells many (bs.drop n)) (fun x => NewL1 H (x.1.map cv) (n + x.2) Q) (Refuse K H E)
  | _ => False
theorem sc_run_cells : FnScope ["row", "at", "many", "runs", "cells", "cell", "length"] ["row", "at", "many"] (defScope s_run_cells) := ⟨rfl, rfl, rfl, by decide +kernel, rfl, by decide +kernel, by decide +kernel⟩
theorem ok_run_cells (T : Txt K mg) : Cal P w K mg base 8 "run_cells" (sp_run_cells K) := by
  obtain ⟨fd, F⟩ := D_run_cells T
  refine cal_mk (g_run_cells T) F sc_run_cells (fun _ _ _ _ _ _ us hl => match us, hl with | [_, _, _], _ => rfl) (fun vs H Q E h => ?len) (fun cdv A outer s H vs Q E hr h => ⟨_, (pss_cons (ps_asg (u_callX (ok_take_runs T) (takes_of rfl rfl rfl rfl) hr (by decide) (pa_cons (uv 0) (pa_cons (uv 1) (pa_cons (uv 2) pa_nil)))) (q_tup (K := K) (n := 2) rfl (hg_cons (pg_name (i := 3) sc_run_cells.nd rfl (by first | exact Or.inl rfl | exact Or.inr rfl)) (hg_cons (pg_name (i := 1) sc_run_cells.nd rfl (by first | exact Or.inl rfl | exact Or.inr rfl)) hg_nil))))
      (pss_cons (ps_set (i := 4) sc_run_cells.nd rfl (by first | exact Or.inl rfl | exact Or.inr rfl) (pe_lst pa_nil))
      (pss_cons (us_for (passes_of rfl) rfl (j_list (uv 3)) (q_tup (K := K) (n := 2) rfl (hg_cons (pg_name (i := 5) sc_run_cells.nd rfl (by first | exact Or.inl rfl | exact Or.inr rfl)) (hg_cons (pg_name (i := 6) sc_run_cells.nd rfl (by first | exact Or.inl rfl | exact Or.inr rfl)) hg_nil))) (pss_one (ps_expr (pe_bm PySem.F.plainAttrs_list PySem.F.slot_list_extend PySem.F.type_list_extend m_extend (uv 4) (pa_cons (pe_op o_mul (pe_lst (pa_cons (uv 5) pa_nil)) (uv 6)) pa_nil)))))
      (pss_one (ps_ret (pe_tup (pa_cons (uv 4) (pa_cons (uv 1) pa_nil)))))))), ?body⟩)
  case len => unfold sp_run_cells at h; (split at h) <;> first | rfl | exact h.elim
  case body =>
    unfold sp_run_cells at h
    split at h
    · rename_i r a m
      obtain ⟨bs, n, many, rfl, rfl, hm, hR, h⟩ := h
      unfold runCells at h
      rw [ok_map] at h
      refine ⟨bs, n, many, rfl, rfl, hm, hR, ok_imp h (fun x ex hx H1 p l ps s1 hp hl dl ra d1 => ?_) id⟩
      have hle := takeRuns_le ex
      obtain ⟨rs, k⟩ := x
      dsimp only at hx hle ra d1
      refine ⟨_, SqT.of d1, rfl, ?_⟩
      refine ⟨by decide, fun cells hc => ?_⟩
      have dl2 : upd H1 cells (.lst []) l = some (.lst ps) := (upd_ne (ne_of_none dl hc)).trans dl
      refine ⟨⟨_, SqL.of dl2⟩, ?_⟩
      refine ForGoes.by (.list (xs := ps)) (fun i σ H' => ∃ (c t : Option V), σ = [some (.ref r), some (.int ((n + k : Nat) : Int)), some (.int many), some (.ref l), some (.ref cells), c, t] ∧ Same H1 H' ∧ H' cells = some (.lst ((unruns (rs.take i)).map cv)) ∧ (unruns (rs.take i)).length ≤ i * 100) ⟨none, none, rfl, same_new hc (Same.refl _), upd_same, Nat.zero_le _⟩ ?_ ?_ ?_
      · rintro i _ H2 _ ⟨c, t, rfl, s2, d2, l2⟩
        exact SqL.of (s2 _ _ dl)
      · rintro i v _ H2 _ hi ⟨c, t, rfl, s2, d2, l2⟩ ⟨hv, rfl⟩
        obtain ⟨ta, pr, rfl, dt, hpr⟩ := RunsAt.get ra hv
        have hmem := hle.2.2.2 pr (List.mem_of_getElem? hpr)
        have hil := RunsAt.len ra
        refine ⟨_, SqT.of (s2 _ _ dt), rfl, ?_⟩
        refine ⟨ty_l d2, ⟨len1, fun q hq => ⟨_, upd_same, by show -(2 ^ 63) ≤ (pr.2 : Int); omega, by show (pr.2 : Int) < 2 ^ 63; omega, ?_, fun q2 hq2 => ?_⟩⟩⟩
        · rw [sizeLine_eq, Int.toNat_natCast]
          simp
          omega
        · have hcq : cells ≠ q := ne_of_none d2 hq
          have dq := (upd_ne (o := .lst [cv pr.1]) hcq).trans d2
          have hcq2 : cells ≠ q2 := ne_of_none dq hq2
          rw [Int.toNat_natCast, rep_flat] at *
          refine ⟨_, _, (upd_ne hcq2).trans dq, upd_same, ?_, ?_⟩
          · rw [sizeLine_eq]
            simp
            have : i * 100 ≤ 100 * 100 := Nat.mul_le_mul (by omega) (Nat.le_refl _)
            omega
          · have hq1 : H1 q = none := s2.free hq
            have hq20 : H2 q2 = none := (same_new hq (Same.refl _)).free hq2
            have hq21 : H1 q2 = none := s2.free hq20
            refine ⟨some (cv pr.1), some (.int (pr.2 : Nat)), rfl, same_new hc (same_new hq21 (same_new hq1 s2)), ?_, ?_⟩
            · rw [upd_same, take_snoc hpr, unruns_snoc]
              simp
            · rw [take_snoc hpr, unruns_snoc, List.length_append, List.length_replicate]
              omega
      · rintro _ H2 ⟨c, t, rfl, s2, d2, l2⟩
        have e : rs.take ps.length = rs := List.take_of_length_le (by rw [RunsAt.len ra]; exact Nat.le_refl _)
        rw [e] at d2
        have s12 := s1.trans s2
        refine ⟨len2, fun q hq => ?_⟩
        exact hx _ q cells (same_new (s12.free hq) s12) (s12.free hq) (s1.free hc) ((upd_ne (ne_of_none d2 hq)).trans d2) upd_same
    · exact h.elim
def sp_book_cells (K : PySem.W.Frag) : Sp := fun vs H Q E => match vs with
  | [.ref r, .int a, .int m] => ∃ (bs : List Int) (n many : Nat), a = n ∧ m = many ∧ many ≤ 100 ∧ n ≤ bs.length ∧ RowAt H r bs ∧ ok (bookCells many (bs.drop n)) (fun x => NewL1 H (x.1.map cv) (n + x.2) Q) (Refuse K H E)
  | _ => False
theorem sc_book_cells : FnScope ["row", "at", "many", "book", "places", "place"] ["row", "at", "many"] (defScope s_book_cells) := ⟨rfl, rfl, rfl, by decide +kernel, rfl, by decide +kernel, by decide +kernel⟩
theorem ok_book_cells (T : Txt K mg) : Cal P w K mg base 9 "book_cells" (sp_book_cells K) := by
  obtain ⟨fd, F⟩ := D_book_cells T
  refine cal_mk (g_book_cells T) F sc_book_cells (fun _ _ _ _ _ _ us hl => match us, hl with | [_, _, _], _ => rfl) (fun vs H Q E h => ?len) (fun cdv A outer s H vs Q E hr h => ⟨_, (pss_cons (ps_asg (u_callX (ok_take_book T) (takes_of rfl rfl rfl rfl) hr (by decide) (pa_cons (uv 0) (pa_cons (uv 1) (pa_cons (uv 2) pa_nil)))) (q_tup (K := K) (n := 3) rfl (hg_cons (pg_name (i := 3) sc_book_cells.nd rfl (by first | exact Or.inl rfl | exact Or.inr rfl)) (hg_cons (pg_name (i := 4) sc_book_cells.nd rfl (by first | exact Or.inl rfl | exact Or.inr rfl)) (hg_cons (pg_name (i := 1) sc_book_cells.nd rfl (by first | exact Or.inl rfl | exact Or.inr rfl)) hg_nil)))))
      (pss_cons (us_if (pt_not (ut_val (pe_callB (q_all (K := K)) rfl (b_all T) (by decide +kernel) (pa_cons (ue_lc (own := [("place", 5)]) rfl sc_book_cells.nd (j_list (uv 4)) rfl (fun _ _ _ _ _ => (pg_name (i := 5) sc_book_cells.nd rfl (by first | exact Or.inl rfl | exact Or.inr rfl))) (fun _ _ _ _ _ => pts_nil) (fun _ _ _ _ _ => (pe_cmpR o_lt (uv 5) (pe_callB (q_len (K := K)) rfl (b_len T) (by decide +kernel) (pa_cons (uv 3) pa_nil)) (nomark _)))) pa_nil)))) (pss_one (ps_ret (pe_tup (pa_cons (pe_lst pa_nil) (pa_cons (uv 1) pa_nil))))) pss_nil)
      (pss_one (ps_ret (pe_tup (pa_cons (ue_lc (own := [("place", 5)]) rfl sc_book_cells.nd (j_list (uv 4)) rfl (fun _ _ _ _ _ => (pg_name (i := 5) sc_book_cells.nd rfl (by first | exact Or.inl rfl | exact Or.inr rfl))) (fun _ _ _ _ _ => pts_nil) (fun _ _ _ _ _ => (pe_ix (q_seq (K := K)) (uv 3) (uv 5) (fun _ _ => rfl)))) (pa_cons (uv 1) pa_nil))))))), ?body⟩)
  case len => unfold sp_book_cells at h; (split at h) <;> first | rfl | exact h.elim
  case body =>
    unfold sp_book_cells at h
    split at h
    · rename_i r a m
      obtain ⟨bs, n, many, rfl, rfl, hm, hn, hR, h⟩ := h
      unfold bookCells at h
      rw [ok_map] at h
      refine ⟨bs, n, many, rfl, rfl, hm, hn, hR, ok_imp h (fun x ex hx H1 p l q s1 hp hl hq dl dq d1 => ?_) id⟩
      obtain ⟨book, places, k⟩ := x
      dsimp only at hx dl dq d1
      have hle : places.length ≤ 100 ∧ book.length ≤ 100 ∧ ∀ y ∈ places, 0 ≤ y := by
        unfold takeBook at ex
        rw [Option.bind_eq_some_iff] at ex
        obtain ⟨u, e1, ex⟩ := ex
        rw [Option.bind_eq_some_iff] at ex
        obtain ⟨v, e2, ex⟩ := ex
        rw [Option.map_eq_some_iff] at ex
        obtain ⟨t, e3, ex⟩ := ex
        cases ex
        have a1 := takeCount_le e1
        have a2 := takeCells_le _ _ _ e2
        have a3 := takePacked_mem e3
        exact ⟨by omega, by omega, fun y hy => (a3.2 y hy).1⟩
      refine ⟨_, SqT.of d1, rfl, ⟨⟨_, SqL.of dq⟩, fun D hD => ?_⟩⟩
      refine LcGoes.by (.list (xs := places.map V.int)) hD (fun i acc H' => acc = ((places.take i).map fun p => decide (p < (book.length : Int))).map V.bl) rfl (fun i acc H' _ s' _ _ => SqL.of (s' _ _ dq)) (fun i acc v H2 _ hi ha s2 d2 e2 it => ?_) (fun acc H2 ha s2 d2 e2 => ?_)
      · obtain ⟨hv, rfl⟩ := it
        rw [List.getElem?_map] at hv
        cases ep : places[i]? with
        | none =>
          rw [ep] at hv
          cases hv
        | some pl =>
          rw [ep] at hv
          cases hv
          refine ⟨rfl, ⟨fun _ => ?_, (nomatch ·)⟩⟩
          refine ⟨_, .inl (SqL.of (s2 _ _ dl)), ?_⟩
          refine LcP.put hD (lt_size hi (by omega)) ha s2 d2 ?_
          rw [e2, take_snoc ep]
          simp
      · have e3 : places.take (places.map V.int).length = places := List.take_of_length_le (by simp)
        rw [e3] at e2
        rw [e2] at d2
        have s12 := s1.trans s2
        have hD0 : H D = none := s1.free hD
        have eall : (List.map (fun p => decide (p < (book.length : Int))) places).all id = places.all fun p => decide (p < (book.length : Int)) := by
          rw [List.all_map]
          rfl
        refine ⟨_, SqL.of d2, ⟨fun c => ?_, fun c => ?_⟩⟩
        · rw [eall, Bool.not_eq_true'] at c
          rw [if_neg (by rw [c]; decide)] at hx
          refine ⟨by decide, fun e he => ⟨len2, fun t ht => ?_⟩⟩
          have he0 := s12.free he
          have hte : t ≠ e := fun z => by rw [z, upd_same] at ht; cases ht
          have ht0 : H2 t = none := by rwa [upd_ne hte] at ht
          refine hx _ t e (same_new (s12.free ht0) (same_new he0 s12)) (s12.free ht0) he0 ?_ upd_same
          exact (upd_ne (Ne.symm hte)).trans upd_same
        · rw [eall, Bool.not_eq_false'] at c
          rw [if_pos c] at hx
          refine ⟨⟨_, SqL.of (s2 _ _ dq)⟩, fun D2 hD2 => ?_⟩
          refine LcGoes.by (.list (xs := places.map V.int)) hD2 (fun i acc H' => acc = ((places.take i).map (pick book)).map cv) rfl (fun i acc H' _ s' _ _ => SqL.of (s' _ _ (s2 _ _ dq))) (fun i acc v H3 _ hi ha s3 d3 e3 it => ?_) (fun acc H3 ha s3 d3 e3 => ?_)
          · obtain ⟨hv, rfl⟩ := it
            rw [List.getElem?_map] at hv
            cases ep : places[i]? with
            | none =>
              rw [ep] at hv
              cases hv
            | some pl =>
              rw [ep] at hv
              cases hv
              have hpm := List.mem_of_getElem? ep
              have hp0 := hle.2.2 pl hpm
              have hpl : pl < (book.length : Int) := of_decide_eq_true (List.all_eq_true.mp c pl hpm)
              obtain ⟨j, rfl⟩ := Int.eq_ofNat_of_zero_le hp0
              have hj : j < book.length := by omega
              obtain ⟨b, hb⟩ := get_lt hj
              have epick : pick book (j : Int) = b := by
                unfold pick
                rw [Int.toNat_natCast, hb]
                rfl
              refine ⟨rfl, ⟨fun _ => ?_, (nomatch ·)⟩⟩
              refine ⟨_, cv b, .inl (SqL.of (s3 _ _ (s2 _ _ dl))), atN (by rw [List.getElem?_map, hb]; rfl), ?_⟩
              refine LcP.put hD2 (lt_size hi (by omega)) ha s3 d3 ?_
              rw [e3, take_snoc ep, List.map_append, List.map_append]
              simp [epick]
          · have e4 : places.take (places.map V.int).length = places := List.take_of_length_le (by simp)
            rw [e4] at e3
            rw [e3] at d3
            have s13 := s12.trans s3
            refine ⟨len2, fun t ht => ?_⟩
            exact hx _ t D2 (same_new (s13.free ht) s13) (s13.free ht) (s12.free hD2) ((upd_ne (ne_of_none d3 ht)).trans d3) upd_same
    · exact h.elim
def sp_base_cells (K : PySem.W.Frag) : Sp := fun vs H Q E => match vs with
  | [.ref r, .int a, .int m] => ∃ (bs : List Int) (n many : Nat), a = n ∧ m = many ∧ many ≤ 100 ∧ NN bs ∧ RowAt H r bs ∧ ok (baseCells many (bs.drop n)) (fun x => NewL1 H (x.1.map cv) (n + x.2) Q) (Refuse K H E)
  | _ => False
theorem takeSmall_mem {m : Nat} {l : List Int} {x : List Int × Nat} (h : takeSmall m l = some x) : x.1.length = m ∧ x.2 ≤ l.length := by
  unfold takeSmall at h
  split at h
  · cases h
  · split at h
    · cases h
    · rw [Option.map_eq_some_iff] at h
      obtain ⟨y, e, rfl⟩ := h
      have := takePacked_mem e
      have := takePacked_le e
      simp
      omega
theorem sc_base_cells : FnScope ["row", "at", "many", "least", "numbers", "number"] ["row", "at", "many"] (defScope s_base_cells) := ⟨rfl, rfl, rfl, by decide +kernel, rfl, by decide +kernel, by decide +kernel⟩
theorem ok_base_cells (T : Txt K mg) : Cal P w K mg base 7 "base_cells" (sp_base_cells K) := by
  obtain ⟨fd, F⟩ := D_base_cells T
  refine cal_mk (g_base_cells T) F sc_base_cells (fun _ _ _ _ _ _ us hl => match us, hl with | [_, _, _], _ => rfl) (fun vs H Q E h => ?len) (fun cdv A outer s H vs Q E hr h => ⟨_, (pss_cons (ps_asg (u_callX (ok_take_number T) (takes_of rfl rfl rfl rfl) hr (by decide) (pa_cons (uv 0) (pa_cons (uv 1) pa_nil))) (q_tup (K := K) (n := 2) rfl (hg_cons (pg_name (i := 3) sc_base_cells.nd rfl (by first | exact Or.inl rfl | exact Or.inr rfl)) (hg_cons (pg_name (i := 1) sc_base_cells.nd rfl (by first | exact Or.inl rfl | exact Or.inr rfl)) hg_nil))))
      (pss_cons (ps_asg (u_callX (ok_take_small T) (takes_of rfl rfl rfl rfl) hr (by decide) (pa_cons (uv 0) (pa_cons (uv 1) (pa_cons (uv 2) pa_nil)))) (q_tup (K := K) (n := 2) rfl (hg_cons (pg_name (i := 4) sc_base_cells.nd rfl (by first | exact Or.inl rfl | exact Or.inr rfl)) (hg_cons (pg_name (i := 1) sc_base_cells.nd rfl (by first | exact Or.inl rfl | exact Or.inr rfl)) hg_nil))))
      (pss_one (ps_ret (pe_tup (pa_cons (ue_lc (own := [("number", 5)]) rfl sc_base_cells.nd (j_list (uv 4)) rfl (fun _ _ _ _ _ => (pg_name (i := 5) sc_base_cells.nd rfl (by first | exact Or.inl rfl | exact Or.inr rfl))) (fun _ _ _ _ _ => pts_nil) (fun _ _ _ _ _ => (pe_op o_add (uv 3) (uv 5)))) (pa_cons (uv 1) pa_nil))))))), ?body⟩)
  case len => unfold sp_base_cells at h; (split at h) <;> first | rfl | exact h.elim
  case body =>
    unfold sp_base_cells at h
    split at h
    · rename_i r a m
      obtain ⟨bs, n, many, rfl, rfl, hm, hnn, hR, h⟩ := h
      unfold baseCells at h
      rw [ok_bind] at h
      refine ⟨bs, n, rfl, hR, ok_imp h (fun x ex hx H1 p s1 hp d1 => ?_) id⟩
      rw [ok_map, List.drop_drop] at hx
      refine ⟨_, SqT.of d1, rfl, ?_⟩
      refine ⟨bs, n + x.2, many, rfl, rfl, hm, hnn, hR.same s1, ok_imp hx (fun y ey hy H2 p2 l2 s2 hp2 hl2 dl2 d2 => ?_) fun h => Refuse.mono h s1⟩
      have hym := takeSmall_mem ey
      refine ⟨_, SqT.of d2, rfl, ⟨⟨_, SqL.of dl2⟩, fun D hD => ?_⟩⟩
      refine LcGoes.by (.list (xs := y.1.map V.int)) hD (fun i acc H' => acc = ((y.1.take i).map fun n => Cell.int (x.1 + n)).map cv) rfl (fun i acc H' _ s' _ _ => SqL.of (s' _ _ dl2)) (fun i acc v H3 _ hi ha s3 d3 e3 it => ?_) (fun acc H3 ha s3 d3 e3 => ?_)
      · obtain ⟨hv, rfl⟩ := it
        rw [List.getElem?_map] at hv
        cases ep : y.1[i]? with
        | none =>
          rw [ep] at hv
          cases hv
        | some pl =>
          rw [ep] at hv
          cases hv
          refine ⟨rfl, ⟨fun _ => ?_, (nomatch ·)⟩⟩
          refine LcP.put hD (lt_size hi (by omega)) ha s3 d3 ?_
          rw [e3, take_snoc ep]
          simp [cv]
      · have e4 : y.1.take (y.1.map V.int).length = y.1 := List.take_of_length_le (by simp)
        rw [e4] at e3
        rw [e3] at d3
        have s13 := (s1.trans s2).trans s3
        refine ⟨len2, fun t ht => ?_⟩
        refine hy _ t D (same_new (s13.free ht) s13) (s13.free ht) ((s1.trans s2).free hD) ((upd_ne (ne_of_none d3 ht)).trans d3) ?_
        rw [upd_same]
        congr 5
        omega
    · exact h.elim
def sp_step_cells (K : PySem.W.Frag) : Sp := fun vs H Q E => match vs with
  | [.ref r, .int a, .int m] => ∃ (bs : List Int) (n many : Nat), a = n ∧ m = many ∧ 1 ≤ many ∧ many ≤ 100 ∧ NN bs ∧ RowAt H r bs ∧ ok (stepCells many (bs.drop n)) (fun x => NewL1 H (x.1.map cv) (n + x.2) Q) (Refuse K H E)
  | _ => False
theorem atLast {α : Type} {xs : List α} {x : α} : atI (xs ++ [x]) (-1) = some x := by
  unfold atI ixN
  rw [if_neg (by decide), if_pos (by simp; omega)]
  have e : ((-1 : Int) + ((xs ++ [x]).length : Nat)).toNat = xs.length := by
    rw [List.length_append]
    simp
    omega
  rw [e]
  simp
theorem sc_step_cells : FnScope ["row", "at", "many", "first", "least", "numbers", "cells", "number"] ["row", "at", "many"] (defScope s_step_cells) := ⟨rfl, rfl, rfl, by decide +kernel, rfl, by decide +kernel, by decide +kernel⟩
theorem ok_step_cells (T : Txt K mg) : Cal P w K mg base 7 "step_cells" (sp_step_cells K) := by
  obtain ⟨fd, F⟩ := D_step_cells T
  refine cal_mk (g_step_cells T) F sc_step_cells (fun _ _ _ _ _ _ us hl => match us, hl with | [_, _, _], _ => rfl) (fun vs H Q E h => ?len) (fun cdv A outer s H vs Q E hr h => ⟨_, (pss_cons (ps_asg (u_callX (ok_take_number T) (takes_of rfl rfl rfl rfl) hr (by decide) (pa_cons (uv 0) (pa_cons (uv 1) pa_nil))) (q_tup (K := K) (n := 2) rfl (hg_cons (pg_name (i := 3) sc_step_cells.nd rfl (by first | exact Or.inl rfl | exact Or.inr rfl)) (hg_cons (pg_name (i := 1) sc_step_cells.nd rfl (by first | exact Or.inl rfl | exact Or.inr rfl)) hg_nil))))
      (pss_cons (ps_asg (u_callX (ok_take_number T) (takes_of rfl rfl rfl rfl) hr (by decide) (pa_cons (uv 0) (pa_cons (uv 1) pa_nil))) (q_tup (K := K) (n := 2) rfl (hg_cons (pg_name (i := 4) sc_step_cells.nd rfl (by first | exact Or.inl rfl | exact Or.inr rfl)) (hg_cons (pg_name (i := 1) sc_step_cells.nd rfl (by first | exact Or.inl rfl | exact Or.inr rfl)) hg_nil))))
      (pss_cons (ps_asg (u_callX (ok_take_small T) (takes_of rfl rfl rfl rfl) hr (by decide) (pa_cons (uv 0) (pa_cons (uv 1) (pa_cons (pe_op o_sub (uv 2) pe_int) pa_nil)))) (q_tup (K := K) (n := 2) rfl (hg_cons (pg_name (i := 5) sc_step_cells.nd rfl (by first | exact Or.inl rfl | exact Or.inr rfl)) (hg_cons (pg_name (i := 1) sc_step_cells.nd rfl (by first | exact Or.inl rfl | exact Or.inr rfl)) hg_nil))))
      (pss_cons (ps_set (i := 6) sc_step_cells.nd rfl (by first | exact Or.inl rfl | exact Or.inr rfl) (pe_lst (pa_cons (uv 3) pa_nil)))
      (pss_cons (us_for (passes_of rfl) rfl (j_list (uv 5)) (pg_name (i := 7) sc_step_cells.nd rfl (by first | exact Or.inl rfl | exact Or.inr rfl)) (pss_one (ps_expr (pe_bm PySem.F.plainAttrs_list PySem.F.slot_list_append PySem.F.type_list_append m_append (uv 6) (pa_cons (pe_op o_add (pe_op o_add (pe_ix (q_seq (K := K)) (uv 6) (pe_un o_neg pe_int) (fun _ _ => rfl)) (uv 4)) (uv 7)) pa_nil)))))
      (pss_one (ps_ret (pe_tup (pa_cons (uv 6) (pa_cons (uv 1) pa_nil)))))))))), ?body⟩)
  case len => unfold sp_step_cells at h; (split at h) <;> first | rfl | exact h.elim
  case body =>
    unfold sp_step_cells at h
    split at h
    · rename_i r a m
      obtain ⟨bs, n, many, rfl, rfl, hm1, hm, hnn, hR, h⟩ := h
      unfold stepCells at h
      rw [ok_bind] at h
      refine ⟨bs, n, rfl, hR, ok_imp h (fun x ex hx H1 p s1 hp d1 => ?_) id⟩
      rw [ok_bind, List.drop_drop] at hx
      refine ⟨_, SqT.of d1, rfl, ?_⟩
      refine ⟨bs, n + x.2, rfl, hR.same s1, ok_imp hx (fun y ey hy H2 p2 s2 hp2 d2 => ?_) fun h => Refuse.mono h s1⟩
      rw [ok_map, List.drop_drop, ← Nat.add_assoc] at hy
      refine ⟨_, SqT.of d2, rfl, ?_⟩
      have s12 := s1.trans s2
      refine ⟨bs, n + x.2 + y.2, many - 1, rfl, by omega, by omega, hnn, hR.same s12, ok_imp hy (fun z ez hz H3 p3 l3 s3 hp3 hl3 dl3 d3 => ?_) fun h => Refuse.mono h s12⟩
      have hzm := takeSmall_mem ez
      refine ⟨_, SqT.of d3, rfl, ?_⟩
      refine ⟨len1, fun cells hc => ?_⟩
      have dl := (upd_ne (o := .lst [V.int x.1]) (ne_of_none dl3 hc)).trans dl3
      refine ⟨⟨_, SqL.of dl⟩, ?_⟩
      have s13 := s12.trans s3
      refine ForGoes.by (.list (xs := z.1.map V.int)) (fun i σ H' => ∃ (acc : List Cell) (c : Int) (t : Option V), σ = [some (.ref r), some (.int ((n + x.2 + y.2 + z.2 : Nat) : Int)), some (.int many), some (.int x.1), some (.int y.1), some (.ref l3), some (.ref cells), t] ∧ Same H3 H' ∧ H' cells = some (.lst ((acc ++ [Cell.int c]).map cv)) ∧ acc.length = i ∧ acc ++ [Cell.int c] ++ steps y.1 c (z.1.drop i) = .int x.1 :: steps y.1 x.1 z.1) ⟨[], x.1, none, rfl, same_new hc (Same.refl _), upd_same, rfl, by simp⟩ ?_ ?_ ?_
      · rintro i _ H4 _ ⟨acc, c, t, rfl, s4, d4, la, e4⟩
        exact SqL.of (s4 _ _ dl3)
      · rintro i v _ H4 _ hi ⟨acc, c, t, rfl, s4, d4, la, e4⟩ ⟨hv, rfl⟩
        rw [List.getElem?_map] at hv
        cases ep : z.1[i]? with
        | none =>
          rw [ep] at hv
          cases hv
        | some pl =>
          rw [ep] at hv
          cases hv
          have hil : i < z.1.length := by simpa using hi
          refine ⟨ty_l d4, ⟨_, cv (.int c), .inl (SqL.of d4), by rw [List.map_append]; exact atLast, ?_⟩⟩
          refine ⟨_, d4, by rw [sizeLine_eq]; simp; omega, ?_⟩
          refine ⟨acc ++ [.int c], c + y.1 + pl, some (.int pl), rfl, same_new hc s4, ?_, by simp [la], ?_⟩
          · rw [upd_same]
            simp [cv]
          · rw [← e4, drop_get0 ep]
            simp [steps]
      · rintro _ H4 ⟨acc, c, t, rfl, s4, d4, la, e4⟩
        have e5 : z.1.drop (z.1.map V.int).length = [] := List.drop_eq_nil_of_le (by simp)
        rw [e5] at e4
        simp only [steps, List.append_nil] at e4
        rw [e4] at d4
        have s14 := s13.trans s4
        refine ⟨len2, fun t ht => ?_⟩
        refine hz _ t cells (same_new (s14.free ht) s14) (s14.free ht) (s13.free hc) ((upd_ne (ne_of_none d4 ht)).trans d4) ?_
        rw [upd_same]
        congr 5
        omega
    · exact h.elim
end
end K90
namespace K90
open PySem PySem.Spec PyProof.Rows L2 RT RZ
theorem ieqT {i j : Int} (h : (false != decide (V.int i = V.int j)) = true) : i = j := by simpa using h
theorem ieqF {i j : Int} (h : (false != decide (V.int i = V.int j)) = false) : i ≠ j := by simpa using h
theorem ineT {i j : Int} (h : (true != decide (V.int i = V.int j)) = true) : i ≠ j := by simpa using h
theorem ineF {i j : Int} (h : (true != decide (V.int i = V.int j)) = false) : i = j := by simpa using h
def isStretch (cs : List Cell) : Bool := cs.all (Cell.isOf false) || cs.all (Cell.isOf true)
section
variable {P : Program} {w : World} {K : PySem.W.Frag} {mg : Str → Option Value} {base : Heap}
def sp_cells_by (K : PySem.W.Frag) : Sp := fun vs H Q E => match vs with
  | [.int y, .ref r, .int a, .int m] => ∃ (way : Nat) (bs : List Int) (n many : Nat), y = way ∧ a = n ∧ m = many ∧ 1 ≤ many ∧ many ≤ 100 ∧ n ≤ bs.length ∧ NN bs ∧ RowAt H r bs ∧ ok (cellsBy way many (bs.drop n)) (fun x => NewL1 H (x.1.map cv) (n + x.2) Q) (Refuse K H E)
  | _ => False
theorem sc_cells_by : FnScope ["way", "row", "at", "many"] ["way", "row", "at", "many"] (defScope s_cells_by) := ⟨rfl, rfl, rfl, by decide +kernel, rfl, by decide +kernel, by decide +kernel⟩
theorem ok_cells_by (T : Txt K mg) : Cal P w K mg base 10 "cells_by" (sp_cells_by K) := by
  obtain ⟨fd, F⟩ := D_cells_by T
  refine cal_mk (g_cells_by T) F sc_cells_by (fun _ _ _ _ _ _ us hl => match us, hl with | [_, _, _, _], _ => rfl) (fun vs H Q E h => ?len) (fun cdv A outer s H vs Q E hr h => ⟨_, (pss_cons (us_if (ut_cmp (o_eq hr.units) (uv 0) pe_int (nomark _)) (pss_one (ps_ret (u_callX (ok_take_cells T) (takes_of rfl rfl rfl rfl) hr (by decide) (pa_cons (uv 1) (pa_cons (uv 2) (pa_cons (uv 3) pa_nil)))))) pss_nil)
      (pss_cons (us_if (ut_cmp (o_eq hr.units) (uv 0) pe_int (nomark _)) (pss_one (ps_ret (u_callX (ok_run_cells T) (takes_of rfl rfl rfl rfl) hr (by decide) (pa_cons (uv 1) (pa_cons (uv 2) (pa_cons (uv 3) pa_nil)))))) pss_nil)
      (pss_cons (us_if (ut_cmp (o_eq hr.units) (uv 0) pe_int (nomark _)) (pss_one (ps_ret (u_callX (ok_book_cells T) (takes_of rfl rfl rfl rfl) hr (by decide) (pa_cons (uv 1) (pa_cons (uv 2) (pa_cons (uv 3) pa_nil)))))) pss_nil)
      (pss_cons (us_if (ut_cmp (o_eq hr.units) (uv 0) pe_int (nomark _)) (pss_one (ps_ret (u_callX (ok_base_cells T) (takes_of rfl rfl rfl rfl) hr (by decide) (pa_cons (uv 1) (pa_cons (uv 2) (pa_cons (uv 3) pa_nil)))))) pss_nil)
      (pss_one (ps_ret (u_callX (ok_step_cells T) (takes_of rfl rfl rfl rfl) hr (by decide) (pa_cons (uv 1) (pa_cons (uv 2) (pa_cons (uv 3) pa_nil)))))))))), ?body⟩)
  case len => unfold sp_cells_by at h; (split at h) <;> first | rfl | exact h.elim
  case body =>
    unfold sp_cells_by at h
    split at h
    · rename_i y r a m
      obtain ⟨way, bs, n, many, rfl, rfl, rfl, hm1, hm, hn, hnn, hR, h⟩ := h
      unfold cellsBy at h
      refine ⟨rfl, ⟨fun c => ?_, fun c => ⟨rfl, ⟨fun c1 => ?_, fun c1 => ⟨rfl, ⟨fun c2 => ?_, fun c2 => ⟨rfl, ⟨fun c3 => ?_, fun c3 => ?_⟩⟩⟩⟩⟩⟩⟩⟩
      · have c : way = 0 := by simpa using c
        rw [if_pos c] at h
        exact ⟨bs, n, many, rfl, rfl, hm, hR, h⟩
      all_goals have c : ¬ way = 0 := by simpa using c
      all_goals rw [if_neg c] at h
      · have c1 : way = 1 := by
          have := ieqT c1
          omega
        rw [if_pos c1] at h
        exact ⟨bs, n, many, rfl, rfl, hm, hR, h⟩
      all_goals have c1 : ¬ way = 1 := fun z => ieqF c1 (by omega)
      all_goals rw [if_neg c1] at h
      · have c2 : way = 2 := by
          have := ieqT c2
          omega
        rw [if_pos c2] at h
        exact ⟨bs, n, many, rfl, rfl, hm, hn, hR, h⟩
      all_goals have c2 : ¬ way = 2 := fun z => ieqF c2 (by omega)
      all_goals rw [if_neg c2] at h
      · have c3 : way = 3 := by
          have := ieqT c3
          omega
        rw [if_pos c3] at h
        exact ⟨bs, n, many, rfl, rfl, hm, hnn, hR, h⟩
      · have c3 : ¬ way = 3 := by
          have := ieqF c3
          omega
        rw [if_neg c3] at h
        exact ⟨bs, n, many, rfl, rfl, hm1, hm, hnn, hR, h⟩
    · exact h.elim
def sp_take_head (K : PySem.W.Frag) : Sp := fun vs H Q E => match vs with
  | [.ref r] => ∃ bs : List Int, NN bs ∧ RowAt H r bs ∧ ok (takeHead bs) (fun x => NewT H [.int (x.1 : Nat), .int (x.2.1 : Nat), .int (x.2.2 : Nat)] Q) (Refuse K H E)
  | _ => False
theorem NewT.mono {H H1 : Hp} {xs : List V} {Q : VK} (h : NewT H xs Q) (s : Same H H1) : NewT H1 xs Q := fun H' p s' hp dp => h H' p (s.trans s') (s.free hp) dp
theorem sc_take_head : FnScope ["row", "way", "at", "many"] ["row"] (defScope s_take_head) := ⟨rfl, rfl, rfl, by decide +kernel, rfl, by decide +kernel, by decide +kernel⟩
theorem ok_take_head (T : Txt K mg) : Cal P w K mg base 6 "take_head" (sp_take_head K) := by
  obtain ⟨fd, F⟩ := D_take_head T
  refine cal_mk (g_take_head T) F sc_take_head (fun _ _ _ _ _ _ us hl => match us, hl with | [_], _ => rfl) (fun vs H Q E h => ?len) (fun cdv A outer s H vs Q E hr h => ⟨_, (pss_cons (ps_asg (u_callX (ok_take_byte T) (takes_of rfl rfl rfl rfl) hr (by decide) (pa_cons (uv 0) (pa_cons pe_int pa_nil))) (q_tup (K := K) (n := 2) rfl (hg_cons (pg_name (i := 1) sc_take_head.nd rfl (by first | exact Or.inl rfl | exact Or.inr rfl)) (hg_cons (pg_name (i := 2) sc_take_head.nd rfl (by first | exact Or.inl rfl | exact Or.inr rfl)) hg_nil))))
      (pss_cons (us_if (ut_cmp o_gt (uv 1) (u_int (i_MOST_WAY T)) (nomark _)) (pss_one (us_bad T (ok_BadBytes T) hr (by decide) (takes_of rfl rfl rfl rfl))) pss_nil)
      (pss_cons (ps_asg (u_callX (ok_take_count T) (takes_of rfl rfl rfl rfl) hr (by decide) (pa_cons (uv 0) (pa_cons (uv 2) (pa_cons (u_int (i_MOST_CELLS T)) pa_nil)))) (q_tup (K := K) (n := 2) rfl (hg_cons (pg_name (i := 3) sc_take_head.nd rfl (by first | exact Or.inl rfl | exact Or.inr rfl)) (hg_cons (pg_name (i := 2) sc_take_head.nd rfl (by first | exact Or.inl rfl | exact Or.inr rfl)) hg_nil))))
      (pss_one (ps_ret (pe_tup (pa_cons (uv 1) (pa_cons (uv 3) (pa_cons (uv 2) pa_nil))))))))), ?body⟩)
  case len => unfold sp_take_head at h; (split at h) <;> first | rfl | exact h.elim
  case body =>
    unfold sp_take_head at h
    split at h
    · rename_i r
      obtain ⟨bs, hnn, hR, h⟩ := h
      refine ⟨bs, 0, rfl, hR, ?_⟩
      cases bs with
      | nil => exact h
      | cons b q =>
        have hb := hnn b (by simp)
        unfold takeHead at h
        dsimp only at h
        intro H1 p s1 hp d1
        refine ⟨_, SqT.of d1, rfl, ⟨fun c => ?_, fun c => ?_⟩⟩
        · have c : 4 < b := of_decide_eq_true c
          rw [if_pos c] at h
          exact Refuse.mono h s1
        · have c : ¬ 4 < b := of_decide_eq_false c
          rw [if_neg c, ok_map] at h
          obtain ⟨wd, rfl⟩ := Int.eq_ofNat_of_zero_le hb
          refine ⟨_, 1, 64, rfl, rfl, hR.same s1, ok_imp h (fun x _ hx H2 p2 s2 hp2 d2 => ?_) fun h => Refuse.mono h s1⟩
          refine ⟨_, SqT.of d2, rfl, ⟨len3, ?_⟩⟩
          exact NewT.upd hx (s1.trans s2)
    · exact h.elim
def sp_is_stretch (K : PySem.W.Frag) : Sp := fun vs H Q E => match vs with
  | [.ref l] => ∃ cs : List Cell, H l = some (.lst (cs.map cv)) ∧ cs.length ≤ 100000 ∧ (∀ c ∈ cs, c.tok) ∧ ∀ H', Same H H' → Q (.bl (isStretch cs)) H'
  | _ => False
theorem sc_is_stretch : FnScope ["cells", "numbers", "cell"] ["cells"] (defScope s_is_stretch) := ⟨rfl, rfl, rfl, by decide +kernel, rfl, by decide +kernel, by decide +kernel⟩
theorem ok_is_stretch (T : Txt K mg) : Cal P w K mg base 5 "is_stretch" (sp_is_stretch K) := by
  obtain ⟨fd, F⟩ := D_is_stretch T
  refine cal_mk (g_is_stretch T) F sc_is_stretch (fun _ _ _ _ _ _ us hl => match us, hl with | [_], _ => rfl) (fun vs H Q E h => ?len) (fun cdv A outer s H vs Q E hr h => ⟨_, (pss_cons (ps_set (i := 1) sc_is_stretch.nd rfl (by first | exact Or.inl rfl | exact Or.inr rfl) (pe_callB (q_all (K := K)) rfl (b_all T) (by decide +kernel) (pa_cons (ue_lc (own := [("cell", 2)]) rfl sc_is_stretch.nd (j_list (uv 0)) rfl (fun _ _ _ _ _ => (pg_name (i := 2) sc_is_stretch.nd rfl (by first | exact Or.inl rfl | exact Or.inr rfl))) (fun _ _ _ _ _ => pts_nil) (fun _ _ _ _ _ => (u_call (ok_is_cell_of T) hr (by decide) (pa_cons pe_str (pa_cons (uv 2) pa_nil))))) pa_nil)))
      (pss_one (ps_ret (ue_or (uv 1) (pe_one (pe_callB (q_all (K := K)) rfl (b_all T) (by decide +kernel) (pa_cons (ue_lc (own := [("cell", 2)]) rfl sc_is_stretch.nd (j_list (uv 0)) rfl (fun _ _ _ _ _ => (pg_name (i := 2) sc_is_stretch.nd rfl (by first | exact Or.inl rfl | exact Or.inr rfl))) (fun _ _ _ _ _ => pts_nil) (fun _ _ _ _ _ => (u_call (ok_is_cell_of T) hr (by decide) (pa_cons pe_str (pa_cons (uv 2) pa_nil))))) pa_nil))))))), ?body⟩)
  case len => unfold sp_is_stretch at h; (split at h) <;> first | rfl | exact h.elim
  case body =>
    unfold sp_is_stretch at h
    split at h
    · rename_i l
      obtain ⟨cs, hl, hn, ht, h⟩ := h
      refine ⟨⟨_, SqL.of hl⟩, fun D hD => ?_⟩
      refine LcGoes.by (.list (xs := cs.map cv)) hD (fun i acc H' => acc = ((cs.take i).map (Cell.isOf false)).map V.bl) rfl (fun i acc H' _ s' _ _ => SqL.of (s' _ _ hl)) (fun i acc v H2 _ hi ha s2 d2 e2 it => ?_) (fun acc H2 ha s2 d2 e2 => ?_)
      · obtain ⟨hv, rfl⟩ := it
        rw [List.getElem?_map] at hv
        cases ep : cs[i]? with
        | none =>
          rw [ep] at hv
          cases hv
        | some c =>
          rw [ep] at hv
          cases hv
          refine ⟨rfl, ⟨fun _ => ⟨false, c, rfl, rfl, ht c (List.mem_of_getElem? ep), fun H3 s3 => ?_⟩, (nomatch ·)⟩⟩
          refine LcP.put hD (lt_size hi hn) ha (s2.trans s3) (s3 _ _ d2) ?_
          rw [e2, take_snoc ep]
          simp
      · have e3 : cs.take (cs.map cv).length = cs := List.take_of_length_le (by simp)
        rw [e3] at e2
        rw [e2] at d2
        have eall : ∀ t, (List.map (Cell.isOf t) cs).all id = cs.all (Cell.isOf t) := fun t => by
          rw [List.all_map]
          rfl
        refine ⟨_, SqL.of d2, ?_⟩
        rw [eall]
        unfold isStretch at h
        refine ⟨fun c => ?_, fun c => ?_⟩
        · rw [c] at h
          exact h _ s2
        · rw [c] at h
          have hl2 := s2 _ _ hl
          refine ⟨⟨_, SqL.of hl2⟩, fun D2 hD2 => ?_⟩
          refine LcGoes.by (.list (xs := cs.map cv)) hD2 (fun i acc H' => acc = ((cs.take i).map (Cell.isOf true)).map V.bl) rfl (fun i acc H' _ s' _ _ => SqL.of (s' _ _ hl2)) (fun i acc v H3 _ hi ha s3 d3 e3 it => ?_) (fun acc H3 ha s3 d3 e3 => ?_)
          · obtain ⟨hv, rfl⟩ := it
            rw [List.getElem?_map] at hv
            cases ep : cs[i]? with
            | none =>
              rw [ep] at hv
              cases hv
            | some c =>
              rw [ep] at hv
              cases hv
              refine ⟨rfl, ⟨fun _ => ⟨true, c, rfl, rfl, ht c (List.mem_of_getElem? ep), fun H4 s4 => ?_⟩, (nomatch ·)⟩⟩
              refine LcP.put hD2 (lt_size hi hn) ha (s3.trans s4) (s4 _ _ d3) ?_
              rw [e3, take_snoc ep]
              simp
          · have e4 : cs.take (cs.map cv).length = cs := List.take_of_length_le (by simp)
            rw [e4] at e3
            rw [e3] at d3
            refine ⟨_, SqL.of d3, ?_⟩
            rw [eall]
            exact h _ (s2.trans s3)
    · exact h.elim
end
end K90
namespace K90
open PySem PySem.Spec PyProof.Rows L2 RT RZ
theorem scal_cv (a b : Cell) : scal (cv a) (cv b) = true := by cases a <;> cases b <;> rfl
theorem cv_dec (a b : Cell) : decide (cv a = cv b) = decide (a = b) := by
  by_cases h : a = b
  · rw [h]
    simp
  · rw [decide_eq_false h, decide_eq_false fun z => h (cv_inj z)]
theorem uEq_cv {neg : Bool} {a b : Cell} {H : Hp} {Q : VK} (h : Q (.bl (neg != decide (a = b))) H) : uEq neg (cv a) (cv b) H Q := by
  rw [← cv_dec] at h
  cases a <;> cases b <;> exact ⟨rfl, h⟩
theorem RunsAt.unsnoc {H : Hp} {p : Cell × Nat} : ∀ {ps : List V} {rs : List (Cell × Nat)}, RunsAt H ps (rs ++ [p]) → ∃ ps' a, ps = ps' ++ [V.ref a] ∧ RunsAt H ps' rs ∧ H a = some (.tup [cv p.1, .int (p.2 : Nat)])
  | [], [], h => h.elim
  | [], _ :: _, h => h.elim
  | v :: r, [], ⟨⟨a, e, d⟩, h⟩ => by
    cases r with
    | nil => exact ⟨[], a, by rw [e] <;> rfl, trivial, d⟩
    | cons _ _ => exact h.elim
  | v :: r, q :: rs, ⟨x, h⟩ => by
    obtain ⟨ps', a, e, h1, h2⟩ := RunsAt.unsnoc (ps := r) (rs := rs) h
    exact ⟨v :: ps', a, by rw [e] <;> rfl, ⟨x, h1⟩, h2⟩
theorem foldl_snoc {α β : Type} (f : β → α → β) (z : β) (l : List α) (i : Nat) (x : α) (h : l[i]? = some x) : (l.take (i + 1)).foldl f z = f ((l.take i).foldl f z) x := by
  rw [List.take_add_one, h, List.foldl_append]
  rfl
section
variable {P : Program} {w : World} {K : PySem.W.Frag} {mg : Str → Option Value} {base : Heap}
def sp_runs_of (K : PySem.W.Frag) : Sp := fun vs H Q E => match vs with
  | [.ref l] => ∃ cs : List Cell, H l = some (.lst (cs.map cv)) ∧ cs.length ≤ 100000 ∧ ∀ H' p ps, Same H H' → H p = none → H' p = some (.lst ps) → RunsAt H' ps (runsOf cs) → Q (.ref p) H'
  | _ => False
theorem sc_runs_of : FnScope ["cells", "runs", "cell"] ["cells"] (defScope s_runs_of) := ⟨rfl, rfl, rfl, by decide +kernel, rfl, by decide +kernel, by decide +kernel⟩
theorem ok_runs_of (T : Txt K mg) : Cal P w K mg base 3 "runs_of" (sp_runs_of K) := by
  obtain ⟨fd, F⟩ := D_runs_of T
  refine cal_mk (g_runs_of T) F sc_runs_of (fun _ _ _ _ _ _ us hl => match us, hl with | [_], _ => rfl) (fun vs H Q E h => ?len) (fun cdv A outer s H vs Q E hr h => ⟨_, (pss_cons (ps_set (i := 1) sc_runs_of.nd rfl (by first | exact Or.inl rfl | exact Or.inr rfl) (pe_lst pa_nil))
      (pss_cons (us_for (passes_of rfl) rfl (j_list (uv 0)) (pg_name (i := 2) sc_runs_of.nd rfl (by first | exact Or.inl rfl | exact Or.inr rfl)) (pss_one (us_if (PW.pt (uw_and (ut_cmp o_gt (pe_callB (q_len (K := K)) rfl (b_len T) (by decide +kernel) (pa_cons (uv 1) pa_nil)) pe_int (nomark _)) (pw_and1 (ut_cmp (o_eq hr.units) (pe_ix (q_seq (K := K)) (pe_ix (q_seq (K := K)) (uv 1) (pe_un o_neg pe_int) (fun _ _ => rfl)) pe_int (fun _ _ => rfl)) (uv 2) (nomark _))))) (pss_one (ps_asg (pe_tup (pa_cons (uv 2) (pa_cons (pe_op o_add (pe_ix (q_seq (K := K)) (pe_ix (q_seq (K := K)) (uv 1) (pe_un o_neg pe_int) (fun _ _ => rfl)) pe_int (fun _ _ => rfl)) pe_int) pa_nil))) (pg_sub (uv 1) (pe_un o_neg pe_int) h_set))) (pss_one (ps_expr (pe_bm PySem.F.plainAttrs_list PySem.F.slot_list_append PySem.F.type_list_append m_append (uv 1) (pa_cons (pe_tup (pa_cons (uv 2) (pa_cons pe_int pa_nil))) pa_nil)))))))
      (pss_one (ps_ret (uv 1))))), ?body⟩)
  case len => unfold sp_runs_of at h; (split at h) <;> first | rfl | exact h.elim
  case body =>
    unfold sp_runs_of at h
    split at h
    · rename_i l
      obtain ⟨cs, hl, hn, h⟩ := h
      refine ⟨by decide, fun runs hr => ?_⟩
      refine ⟨⟨_, SqL.of ((upd_ne (ne_of_none hl hr)).trans hl)⟩, ?_⟩
      refine ForGoes.by (.list (xs := cs.map cv)) (fun i σ H' => ∃ (ps : List V) (t : Option V), σ = [some (.ref l), some (.ref runs), t] ∧ Same H H' ∧ H' runs = some (.lst ps) ∧ RunsAt H' ps ((cs.take i).foldl pushRun [])) ⟨[], none, rfl, same_new hr (Same.refl _), upd_same, trivial⟩ ?_ ?_ ?_
      · rintro i _ H2 _ ⟨ps, t, rfl, s2, d2, r2⟩
        exact SqL.of (s2 _ _ hl)
      · rintro i v _ H2 _ hi ⟨ps, t, rfl, s2, d2, r2⟩ ⟨hv, rfl⟩
        rw [List.getElem?_map] at hv
        cases ep : cs[i]? with
        | none =>
          rw [ep] at hv
          cases hv
        | some c =>
          rw [ep] at hv
          cases hv
          have hil : i < cs.length := by simpa using hi
          have hle : ((cs.take i).foldl pushRun []).length ≤ i := by
            have := runs_foldl (cs.take i) []
            simp at this
            omega
          have hpl := RunsAt.len r2
          have fin : ∀ (q : Addr) (n : Nat) (ps' : List V) (rs' : List (Cell × Nat)) (H3 : Hp) (x : V) (t : Option V), Same H2 H3 → H3 q = none → pushRun ((cs.take i).foldl pushRun []) c = rs' ++ [(c, n)] → RunsAt H2 ps' rs' → H3 runs = some (.lst ps) →
              ∃ (ps : List V) (t' : Option V), [some (V.ref l), some (V.ref runs), t] = [some (V.ref l), some (V.ref runs), t'] ∧ Same H (upd (upd H3 q (.tup [cv c, .int (n : Nat)])) runs (.lst (ps' ++ [.ref q]))) ∧ (upd (upd H3 q (.tup [cv c, .int (n : Nat)])) runs (.lst (ps' ++ [.ref q]))) runs = some (.lst ps) ∧ RunsAt (upd (upd H3 q (.tup [cv c, .int (n : Nat)])) runs (.lst (ps' ++ [.ref q]))) ps ((cs.take (i + 1)).foldl pushRun []) := by
            intro q n ps' rs' H3 x t s3 hq e3 r3 d3
            have hq2 : H2 q = none := s3.free hq
            refine ⟨_, _, rfl, same_new hr (same_new (s2.free hq2) (s2.trans s3)), upd_same, ?_⟩
            rw [foldl_snoc pushRun [] cs i c ep, e3]
            have hne : q ≠ runs := fun z => by rw [z, d3] at hq; cases hq
            refine RunsAt.put ((upd_ne (Ne.symm hne)).trans d3) (RunsAt.snoc (p := (c, n)) upd_same (RunsAt.same ?_ r3))
            exact same_new hq2 s3
          have app : ∀ t : Option V, pushRun ((cs.take i).foldl pushRun []) c = (cs.take i).foldl pushRun [] ++ [(c, 1)] → ∀ q, H2 q = none → ∃ (ps' : List V), H2 runs = some (.lst ps) ∧ True := fun _ _ _ _ => ⟨ps, d2, trivial⟩
          have hrq : ∀ q, H2 q = none → runs ≠ q := fun q hq => ne_of_none d2 hq
          rcases List.eq_nil_or_concat ((cs.take i).foldl pushRun []) with en | ⟨rs', ⟨d, n⟩, en⟩
          · rw [en] at r2
            have ep0 : ps = [] := by
              cases ps with
              | nil => rfl
              | cons _ _ => exact r2.elim
            subst ep0
            refine ⟨_, .inl (SqL.of d2), ⟨fun c1 => ?_, fun c1 => ⟨(nomatch ·), fun _ => ?_⟩⟩⟩
            · exact absurd (of_decide_eq_true c1) (by simp)
            · refine ⟨ty_l d2, ⟨len2, fun q hq => ⟨_, (upd_ne (hrq q hq)).trans d2, by rw [sizeLine_eq]; simp, ?_⟩⟩⟩
              exact fin q 1 [] [] H2 (.ref q) _ (Same.refl _) hq (by rw [en]; rfl) trivial d2
          · have r2' := r2
            rw [en] at r2'
            rw [List.concat_eq_append] at r2' en
            obtain ⟨ps', a, rfl, r3, da⟩ := RunsAt.unsnoc r2'
            have at1 : atI (ps' ++ [V.ref a]) (-1) = some (V.ref a) := atLast
            refine ⟨_, .inl (SqL.of d2), ⟨fun c1 => ?_, fun c1 => ?_⟩⟩
            · refine ⟨_, _, .inl (SqL.of d2), at1, ⟨_, cv d, .inr (SqT.of da), rfl, uEq_cv ⟨fun c2 => ?_, fun c2 => ?_⟩⟩⟩
              · have c2 : d = c := by
                  simpa using c2
                refine ⟨_, _, .inl (SqL.of d2), at1, ⟨_, .int (n : Nat), .inr (SqT.of da), rfl, ⟨len2, fun q hq => ?_⟩⟩⟩
                refine ⟨_, ps'.length, (upd_ne (hrq q hq)).trans d2, ?_, ?_⟩
                · unfold ixN
                  rw [if_neg (by decide), if_pos (by simp; omega)]
                  congr 1
                  simp
                  omega
                · have es : (ps' ++ [V.ref a]).set ps'.length (V.ref q) = ps' ++ [V.ref q] := by simp
                  rw [es]
                  refine fin q (n + 1) ps' rs' H2 (.ref q) _ (Same.refl _) hq ?_ r3 d2
                  rw [en]
                  unfold pushRun
                  simp [c2]
              · have c2 : ¬ d = c := by
                  simpa using c2
                have hpl2 := RunsAt.len r2
                refine ⟨ty_l d2, ⟨len2, fun q hq => ⟨_, (upd_ne (hrq q hq)).trans d2, by rw [sizeLine_eq, hpl2]; omega, ?_⟩⟩⟩
                refine fin q 1 _ _ H2 (.ref q) _ (Same.refl _) hq ?_ r2 d2
                rw [en]
                unfold pushRun
                simp [c2]
            · exact absurd c1 (by simp)
      · rintro _ H2 ⟨ps, t, rfl, s2, d2, r2⟩
        have e : cs.take (cs.map cv).length = cs := List.take_of_length_le (by simp)
        rw [e] at r2
        exact h _ _ _ s2 hr d2 r2
    · exact h.elim
end
end K90
namespace K90
open PySem PySem.Spec PyProof.Rows L2 RT RZ
theorem cellsBytes_snoc (l : List Cell) (c : Cell) : cellsBytes (l ++ [c]) = cellsBytes l ++ cellBytes c := by simp [cellsBytes]
theorem runsBytes_snoc (l : List (Cell × Nat)) (p : Cell × Nat) : runsBytes (l ++ [p]) = runsBytes l ++ (cellBytes p.1 ++ numberBytes p.2) := by simp [runsBytes]
theorem fit_take {cs : List Cell} (h : ∀ c ∈ cs, c.fit) (i : Nat) : ∀ c ∈ cs.take i, c.fit := fun c hc => h c (List.mem_of_mem_take hc)
section
variable {P : Program} {w : World} {K : PySem.W.Frag} {mg : Str → Option Value} {base : Heap}
def sp_all_bytes (K : PySem.W.Frag) : Sp := fun vs H Q E => match vs with
  | [.ref l] => ∃ cs : List Cell, H l = some (.lst (cs.map cv)) ∧ cs.length ≤ 1000 ∧ (∀ c ∈ cs, c.fit) ∧ NewI H (cellsBytes cs) Q
  | _ => False
theorem sc_all_bytes : FnScope ["cells", "made", "cell"] ["cells"] (defScope s_all_bytes) := ⟨rfl, rfl, rfl, by decide +kernel, rfl, by decide +kernel, by decide +kernel⟩
theorem ok_all_bytes (T : Txt K mg) : Cal P w K mg base 6 "all_bytes" (sp_all_bytes K) := by
  obtain ⟨fd, F⟩ := D_all_bytes T
  refine cal_mk (g_all_bytes T) F sc_all_bytes (fun _ _ _ _ _ _ us hl => match us, hl with | [_], _ => rfl) (fun vs H Q E h => ?len) (fun cdv A outer s H vs Q E hr h => ⟨_, (pss_cons (ps_set (i := 1) sc_all_bytes.nd rfl (by first | exact Or.inl rfl | exact Or.inr rfl) (pe_lst pa_nil))
      (pss_cons (us_for (passes_of rfl) rfl (j_list (uv 0)) (pg_name (i := 2) sc_all_bytes.nd rfl (by first | exact Or.inl rfl | exact Or.inr rfl)) (pss_one (ps_expr (pe_bm PySem.F.plainAttrs_list PySem.F.slot_list_extend PySem.F.type_list_extend m_extend (uv 1) (pa_cons (u_call (ok_cell_bytes T) hr (by decide) (pa_cons (uv 2) pa_nil)) pa_nil)))))
      (pss_one (ps_ret (uv 1))))), ?body⟩)
  case len => unfold sp_all_bytes at h; (split at h) <;> first | rfl | exact h.elim
  case body =>
    unfold sp_all_bytes at h
    split at h
    · rename_i l
      obtain ⟨cs, hl, hn, hf, h⟩ := h
      refine ⟨by decide, fun made hm => ?_⟩
      refine ⟨⟨_, SqL.of ((upd_ne (ne_of_none hl hm)).trans hl)⟩, ?_⟩
      refine ForGoes.by (.list (xs := cs.map cv)) (fun i σ H' => ∃ (t : Option V), σ = [some (.ref l), some (.ref made), t] ∧ Same H H' ∧ H' made = some (.lst ((cellsBytes (cs.take i)).map V.int))) ⟨none, rfl, same_new hm (Same.refl _), upd_same⟩ ?_ ?_ ?_
      · rintro i _ H2 _ ⟨t, rfl, s2, d2⟩
        exact SqL.of (s2 _ _ hl)
      · rintro i v _ H2 _ hi ⟨t, rfl, s2, d2⟩ ⟨hv, rfl⟩
        rw [List.getElem?_map] at hv
        cases ep : cs[i]? with
        | none =>
          rw [ep] at hv
          cases hv
        | some c =>
          rw [ep] at hv
          cases hv
          have hil : i < cs.length := by simpa using hi
          have hc := hf c (List.mem_of_getElem? ep)
          have h1 := cellsBytes_len (fit_take hf i)
          have h2 := cellBytes_len hc
          rw [List.length_take] at h1
          refine ⟨ty_l d2, ⟨c, rfl, hc.tok, by omega, fun H3 p s3 hp d3 => ?_⟩⟩
          refine ⟨_, _, s3 _ _ d2, d3, by rw [sizeLine_eq, List.length_map, List.length_map]; omega, ?_⟩
          refine ⟨_, rfl, same_new hm (s2.trans s3), ?_⟩
          rw [upd_same, take_snoc ep, cellsBytes_snoc, List.map_append]
      · rintro _ H2 ⟨t, rfl, s2, d2⟩
        have e : cs.take (cs.map cv).length = cs := List.take_of_length_le (by simp)
        rw [e] at d2
        exact h _ _ s2 hm d2
    · exact h.elim
def sp_run_bytes (K : PySem.W.Frag) : Sp := fun vs H Q E => match vs with
  | [.ref l] => ∃ cs : List Cell, H l = some (.lst (cs.map cv)) ∧ cs.length ≤ 1000 ∧ (∀ c ∈ cs, c.fit) ∧ NewI H (runBytes cs) Q
  | _ => False
theorem sc_run_bytes : FnScope ["cells", "runs", "made", "cell", "length"] ["cells"] (defScope s_run_bytes) := ⟨rfl, rfl, rfl, by decide +kernel, rfl, by decide +kernel, by decide +kernel⟩
theorem ok_run_bytes (T : Txt K mg) : Cal P w K mg base 6 "run_bytes" (sp_run_bytes K) := by
  obtain ⟨fd, F⟩ := D_run_bytes T
  refine cal_mk (g_run_bytes T) F sc_run_bytes (fun _ _ _ _ _ _ us hl => match us, hl with | [_], _ => rfl) (fun vs H Q E h => ?len) (fun cdv A outer s H vs Q E hr h => ⟨_, (pss_cons (ps_set (i := 1) sc_run_bytes.nd rfl (by first | exact Or.inl rfl | exact Or.inr rfl) (u_call (ok_runs_of T) hr (by decide) (pa_cons (uv 0) pa_nil)))
      (pss_cons (ps_set (i := 2) sc_run_bytes.nd rfl (by first | exact Or.inl rfl | exact Or.inr rfl) (u_call (ok_number_bytes T) hr (by decide) (pa_cons (pe_callB (q_len (K := K)) rfl (b_len T) (by decide +kernel) (pa_cons (uv 1) pa_nil)) pa_nil)))
      (pss_cons (us_for (passes_of rfl) rfl (j_list (uv 1)) (q_tup (K := K) (n := 2) rfl (hg_cons (pg_name (i := 3) sc_run_bytes.nd rfl (by first | exact Or.inl rfl | exact Or.inr rfl)) (hg_cons (pg_name (i := 4) sc_run_bytes.nd rfl (by first | exact Or.inl rfl | exact Or.inr rfl)) hg_nil))) (pss_one (ps_expr (pe_bm PySem.F.plainAttrs_list PySem.F.slot_list_extend PySem.F.type_list_extend m_extend (uv 2) (pa_cons (pe_op o_add (u_call (ok_cell_bytes T) hr (by decide) (pa_cons (uv 3) pa_nil)) (u_call (ok_number_bytes T) hr (by decide) (pa_cons (uv 4) pa_nil))) pa_nil)))))
      (pss_one (ps_ret (uv 2)))))), ?body⟩)
  case len => unfold sp_run_bytes at h; (split at h) <;> first | rfl | exact h.elim
  case body =>
    unfold sp_run_bytes at h
    split at h
    · rename_i l
      obtain ⟨cs, hl, hn, hf, h⟩ := h
      refine ⟨cs, hl, by omega, fun H1 p ps s1 hp d1 ra => ?_⟩
      have hmem := runsOf_mem cs
      have hlen := runsOf_len cs
      have hpl := RunsAt.len ra
      have hnb : (numberBytes ((ps.length : Nat) : Int)).length ≤ 10 := numberBytes_len (by omega) (by omega)
      refine ⟨_, .inl (SqL.of d1), ⟨Nat.le_trans hnb (by decide), fun H2 made s2 hm2 d2 => ?_⟩⟩
      rw [hpl] at hnb d2
      have hm0 : H made = none := s1.free hm2
      refine ⟨⟨_, SqL.of (s2 _ _ d1)⟩, ?_⟩
      refine ForGoes.by (.list (xs := ps)) (fun i σ H' => ∃ (t u : Option V), σ = [some (.ref l), some (.ref p), some (.ref made), t, u] ∧ Same H1 H' ∧ H' made = some (.lst ((numberBytes (runsOf cs).length ++ runsBytes ((runsOf cs).take i)).map V.int))) ⟨none, none, rfl, s2, by rw [d2]; simp [runsBytes]⟩ ?_ ?_ ?_
      · rintro i _ H3 _ ⟨t, u, rfl, s3, d3⟩
        exact SqL.of (s3 _ _ d1)
      · rintro i v _ H3 _ hi ⟨t, u, rfl, s3, d3⟩ ⟨hv, rfl⟩
        obtain ⟨a, pr, rfl, da, hpr⟩ := RunsAt.get ra hv
        have hm := hmem pr (List.mem_of_getElem? hpr)
        have hc := hf pr.1 hm.1
        have h1 := @runsBytes_len ((runsOf cs).take i) (fun q hq => ⟨hf q.1 (hmem q (List.mem_of_mem_take hq)).1, Nat.le_trans (hmem q (List.mem_of_mem_take hq)).2.2 hn⟩)
        have h2 := cellBytes_len hc
        have h3 : (numberBytes ((pr.2 : Nat) : Int)).length ≤ 10 := numberBytes_len (by omega) (by omega)
        rw [List.length_take] at h1
        refine ⟨_, SqT.of (s3 _ _ da), rfl, ?_⟩
        refine ⟨ty_l d3, ⟨pr.1, rfl, hc.tok, by omega, fun H4 q4 s4 hq4 d4 => ⟨by omega, fun H5 q5 s5 hq5 d5 => ?_⟩⟩⟩
        refine ⟨_, _, s5 _ _ d4, d5, by rw [sizeLine_eq, List.length_map, List.length_map]; omega, fun q6 hq6 => ?_⟩
        have d3' := s5 _ _ (s4 _ _ d3)
        refine ⟨_, _, (upd_ne (ne_of_none d3' hq6)).trans d3', upd_same, ?_, ?_⟩
        · rw [sizeLine_eq]
          simp only [List.length_append, List.length_map]
          omega
        · have s35 := s4.trans s5
          have hq63 : H3 q6 = none := s35.free hq6
          refine ⟨_, _, rfl, same_new hm2 (same_new (s3.free hq63) (s3.trans s35)), ?_⟩
          rw [upd_same, take_snoc hpr, runsBytes_snoc]
          simp
      · rintro _ H3 ⟨t, u, rfl, s3, d3⟩
        have e : (runsOf cs).take ps.length = runsOf cs := List.take_of_length_le (by omega)
        rw [e] at d3
        exact h _ _ (s1.trans s3) hm0 d3
    · exact h.elim
def sp_small_bytes (K : PySem.W.Frag) : Sp := fun vs H Q E => match vs with
  | [.ref l] => ∃ ns : List Int, H l = some (.lst (ns.map V.int)) ∧ ns.length ≤ 100 ∧ bitsFor (maxL ns).toNat ≤ 62 ∧ NewI H (smallBytes ns) Q
  | _ => False
theorem bytesOf_len : ∀ (n : Nat) (r : Int), (bytesOf n r).length = n
  | 0, _ => rfl
  | n + 1, r => by simp [bytesOf, bytesOf_len n]
theorem packed_len (ns : List Int) (w : Nat) : (packed ns w).length = byteCount ns.length w := bytesOf_len _ _
theorem byteCount_le {n w : Nat} (hn : n ≤ 100) (hw : w ≤ 62) : byteCount n w ≤ 800 := by
  unfold byteCount
  have : n * w ≤ 100 * 62 := Nat.mul_le_mul hn hw
  omega
theorem sc_small_bytes : FnScope ["numbers", "wide"] ["numbers"] (defScope s_small_bytes) := ⟨rfl, rfl, rfl, by decide +kernel, rfl, by decide +kernel, by decide +kernel⟩
theorem ok_small_bytes (T : Txt K mg) : Cal P w K mg base 5 "small_bytes" (sp_small_bytes K) := by
  obtain ⟨fd, F⟩ := D_small_bytes T
  refine cal_mk (g_small_bytes T) F sc_small_bytes (fun _ _ _ _ _ _ us hl => match us, hl with | [_], _ => rfl) (fun vs H Q E h => ?len) (fun cdv A outer s H vs Q E hr h => ⟨_, (pss_cons (ps_set (i := 1) sc_small_bytes.nd rfl (by first | exact Or.inl rfl | exact Or.inr rfl) (u_call (ok_bits_for T) hr (by decide) (pa_cons (pe_callBK (c_maxD (K := K) hr.units) rfl (b_max T) (by decide +kernel) (pa_cons (uv 0) pa_nil) (pk_cons pe_int pk_nil)) pa_nil)))
      (pss_one (ps_ret (pe_op o_add (pe_lst (pa_cons (uv 1) pa_nil)) (u_call (ok_packed T) hr (by decide) (pa_cons (uv 0) (pa_cons (uv 1) pa_nil))))))), ?body⟩)
  case len => unfold sp_small_bytes at h; (split at h) <;> first | rfl | exact h.elim
  case body =>
    unfold sp_small_bytes at h
    split at h
    · rename_i l
      obtain ⟨ns, hl, hn, hb, h⟩ := h
      have hmx : (if ns = [] then V.int 0 else V.int (maxL ns)) = V.int (maxL ns) := by
        split
        · rename_i e
          rw [e]
          rfl
        · rfl
      refine ⟨_, SqL.of hl, .inl ⟨ns, rfl, ?_⟩⟩
      rw [hmx]
      refine ⟨len1, fun p hp => ⟨ns, _, rfl, hb, hn, (upd_ne (ne_of_none hl hp)).trans hl, fun H1 q s1 hq d1 => ?_⟩⟩
      have hle := packed_len ns (bitsFor (maxL ns).toNat)
      have hbc := byteCount_le hn hb
      refine ⟨_, _, s1 _ _ upd_same, d1, by rw [sizeLine_eq]; simp only [List.length_map, List.length_cons, List.length_nil]; omega, fun t ht => ?_⟩
      have s0 : Same H H1 := Same.trans (same_new hp (Same.refl _)) s1
      exact NewI.upd (xs := smallBytes ns) h s0 t ht
    · exact h.elim
def Small (n : Int) : Prop := -1000000000000000000 < n ∧ n < 1000000000000000000
theorem smallBytes_len {ns : List Int} (hn : ns.length ≤ 100) (hb : bitsFor (maxL ns).toNat ≤ 62) : (smallBytes ns).length ≤ 801 := by
  unfold smallBytes
  rw [List.length_cons, packed_len]
  have := byteCount_le hn hb
  omega
def sp_base_bytes (K : PySem.W.Frag) : Sp := fun vs H Q E => match vs with
  | [.ref l] => ∃ ns : List Int, H l = some (.lst (ns.map V.int)) ∧ 0 < ns.length ∧ ns.length ≤ 100 ∧ (∀ n ∈ ns, Small n) ∧ NewI H (baseBytes ns) Q
  | _ => False
theorem sc_base_bytes : FnScope ["cells", "least", "cell"] ["cells"] (defScope s_base_bytes) := ⟨rfl, rfl, rfl, by decide +kernel, rfl, by decide +kernel, by decide +kernel⟩
theorem ok_base_bytes (T : Txt K mg) : Cal P w K mg base 6 "base_bytes" (sp_base_bytes K) := by
  obtain ⟨fd, F⟩ := D_base_bytes T
  refine cal_mk (g_base_bytes T) F sc_base_bytes (fun _ _ _ _ _ _ us hl => match us, hl with | [_], _ => rfl) (fun vs H Q E h => ?len) (fun cdv A outer s H vs Q E hr h => ⟨_, (pss_cons (ps_set (i := 1) sc_base_bytes.nd rfl (by first | exact Or.inl rfl | exact Or.inr rfl) (pe_callB c_min rfl (b_min T) (by decide +kernel) (pa_cons (uv 0) pa_nil)))
      (pss_one (ps_ret (pe_op o_add (u_call (ok_number_bytes T) hr (by decide) (pa_cons (uv 1) pa_nil)) (u_call (ok_small_bytes T) hr (by decide) (pa_cons (ue_lc (own := [("cell", 2)]) rfl sc_base_bytes.nd (j_list (uv 0)) rfl (fun _ _ _ _ _ => (pg_name (i := 2) sc_base_bytes.nd rfl (by first | exact Or.inl rfl | exact Or.inr rfl))) (fun _ _ _ _ _ => pts_nil) (fun _ _ _ _ _ => (pe_op o_sub (uv 2) (uv 1)))) pa_nil)))))), ?body⟩)
  case len => unfold sp_base_bytes at h; (split at h) <;> first | rfl | exact h.elim
  case body =>
    unfold sp_base_bytes at h
    split at h
    · rename_i l
      obtain ⟨ns, hl, h0, hn, hs, h⟩ := h
      refine ⟨ns, SqL.of hl, h0, fun m hm hle => ?_⟩
      have em := minL_uniq hm hle
      have hsm := hs m hm
      refine ⟨Nat.le_trans (numberBytes_len (by have := hsm.1; omega) (by have := hsm.2; omega)) (by decide), fun H1 p s1 hp d1 => ?_⟩
      refine ⟨⟨_, SqL.of (s1 _ _ hl)⟩, fun D hD => ?_⟩
      refine LcGoes.by (.list (xs := ns.map V.int)) hD (fun i acc H' => acc = ((ns.take i).map fun n => n - m).map V.int) rfl (fun i acc H' _ s' _ _ => SqL.of (s' _ _ (s1 _ _ hl))) (fun i acc v H3 _ hi ha s3 d3 e3 it => ?_) (fun acc H3 ha s3 d3 e3 => ?_)
      · obtain ⟨hv, rfl⟩ := it
        rw [List.getElem?_map] at hv
        cases ep : ns[i]? with
        | none =>
          rw [ep] at hv
          cases hv
        | some pl =>
          rw [ep] at hv
          cases hv
          refine ⟨rfl, ⟨fun _ => ?_, (nomatch ·)⟩⟩
          refine LcP.put hD (lt_size hi (by omega)) ha s3 d3 ?_
          rw [e3, take_snoc ep]
          simp
      · have e4 : ns.take (ns.map V.int).length = ns := List.take_of_length_le (by simp)
        rw [e4] at e3
        rw [e3] at d3
        have hb : bitsFor (maxL (ns.map fun n => n - m)).toNat ≤ 62 := bits_of_lt fun y hy => by
          obtain ⟨z, hz, rfl⟩ := List.mem_map.mp hy
          have := (hs z hz).2
          have := hsm.1
          omega
        have hl2 : (ns.map fun n => n - m).length ≤ 100 := by simpa using hn
        refine ⟨_, d3, hl2, hb, fun H4 q s4 hq d4 => ?_⟩
        have hsl := smallBytes_len hl2 hb
        have hnl := numberBytes_len (n := m) (by have := hsm.1; omega) (by have := hsm.2; omega)
        refine ⟨_, _, s4 _ _ (s3 _ _ d1), d4, by rw [sizeLine_eq, List.length_map, List.length_map]; omega, fun t ht => ?_⟩
        rw [← List.map_append]
        unfold baseBytes at h
        rw [← em] at h
        exact NewI.upd h (s1.trans (s3.trans s4)) t ht
    · exact h.elim
theorem cut_tail (ns : List Int) : cutV (ns.map V.int) (some 1) none = ns.tail.map V.int := by
  unfold cutV
  have e1 : HT.sIx (ns.map V.int).length 0 (some 1) = min 1 ns.length := by
    have := HT.sIx_nat (ns.map V.int).length 0 1
    rw [List.length_map] at this
    simpa using this
  rw [e1, HT.sIx_none, List.length_map]
  cases ns with
  | nil => rfl
  | cons n r =>
    simp
    exact List.take_of_length_le (by simp)
def sp_step_bytes (K : PySem.W.Frag) : Sp := fun vs H Q E => match vs with
  | [.ref l] => ∃ ns : List Int, H l = some (.lst (ns.map V.int)) ∧ 0 < ns.length ∧ ns.length ≤ 100 ∧ (∀ n ∈ ns, Small n) ∧ NewI H (stepBytes ns) Q
  | _ => False
theorem sc_step_bytes : FnScope ["cells", "steps", "least", "one", "other", "step"] ["cells"] (defScope s_step_bytes) := ⟨rfl, rfl, rfl, by decide +kernel, rfl, by decide +kernel, by decide +kernel⟩
theorem ok_step_bytes (T : Txt K mg) : Cal P w K mg base 6 "step_bytes" (sp_step_bytes K) := by
  obtain ⟨fd, F⟩ := D_step_bytes T
  refine cal_mk (g_step_bytes T) F sc_step_bytes (fun _ _ _ _ _ _ us hl => match us, hl with | [_], _ => rfl) (fun vs H Q E h => ?len) (fun cdv A outer s H vs Q E hr h => ⟨_, (pss_cons (us_lc (i := 1) (own := [("one", 3), ("other", 4)]) rfl sc_step_bytes.nd rfl rfl (sw_true rfl rfl rfl (by decide +kernel)) (j_zip (b_zip T) (pa_cons (uv 0) (pa_cons (pe_slice (q_sl (K := K)) (uv 0) (u_some pe_int) po_none) pa_nil))) rfl (fun _ _ _ _ _ => (q_tup (K := K) (n := 2) rfl (hg_cons (pg_name (i := 3) sc_step_bytes.nd rfl (by first | exact Or.inl rfl | exact Or.inr rfl)) (hg_cons (pg_name (i := 4) sc_step_bytes.nd rfl (by first | exact Or.inl rfl | exact Or.inr rfl)) hg_nil)))) (fun _ _ _ _ _ => pts_nil) (fun _ _ _ _ _ => (pe_op o_sub (uv 4) (uv 3))))
      (pss_cons (ps_set (i := 2) sc_step_bytes.nd rfl (by first | exact Or.inl rfl | exact Or.inr rfl) (pe_callBK (c_minD (K := K) hr.units) rfl (b_min T) (by decide +kernel) (pa_cons (uv 1) pa_nil) (pk_cons pe_int pk_nil)))
      (pss_one (ps_ret (pe_op o_add (pe_op o_add (u_call (ok_number_bytes T) hr (by decide) (pa_cons (pe_ix (q_seq (K := K)) (uv 0) pe_int (fun _ _ => rfl)) pa_nil)) (u_call (ok_number_bytes T) hr (by decide) (pa_cons (uv 2) pa_nil))) (u_call (ok_small_bytes T) hr (by decide) (pa_cons (ue_lc (own := [("step", 5)]) rfl sc_step_bytes.nd (j_list (uv 1)) rfl (fun _ _ _ _ _ => (pg_name (i := 5) sc_step_bytes.nd rfl (by first | exact Or.inl rfl | exact Or.inr rfl))) (fun _ _ _ _ _ => pts_nil) (fun _ _ _ _ _ => (pe_op o_sub (uv 5) (uv 2)))) pa_nil))))))), ?body⟩)
  case len => unfold sp_step_bytes at h; (split at h) <;> first | rfl | exact h.elim
  case body =>
    unfold sp_step_bytes at h
    split at h
    · rename_i l
      obtain ⟨ns, hl, h0, hn, hs, h⟩ := h
      refine .inl ⟨_, SqL.of hl, fun c hc => ?_⟩
      rw [cut_tail]
      have hlc := (upd_ne (o := .lst (ns.tail.map V.int)) (ne_of_none hl hc)).trans hl
      refine ⟨_, _, .inl ⟨SqL.of hlc, SqL.of upd_same, fun D hD => ?_⟩⟩
      have hmin : min (ns.map V.int).length (ns.tail.map V.int).length = (stepsOf ns).length := by
        rw [stepsOf_len]
        simp
      have hst := stepsOf_mem (ns := ns) (B := 1000000000000000000) (fun y hy => hs y hy)
      have hsl := stepsOf_len ns
      refine LcGoes.by (.zip (xs := ns.map V.int) (ys := ns.tail.map V.int)) hD (fun i acc H' => acc = ((stepsOf ns).take i).map V.int) rfl (fun i acc H' _ s' _ _ => ⟨SqL.of (s' _ _ hlc), SqL.of (s' _ _ upd_same)⟩) (fun i acc v H3 _ hi ha s3 d3 e3 it => ?_) (fun acc H3 ha s3 d3 e3 => ?_)
      · obtain ⟨T, x, y, rfl, hT, rfl, hx, hy⟩ := it
        rw [List.getElem?_map] at hx hy
        cases ex : ns[i]? with
        | none =>
          rw [ex] at hx
          cases hx
        | some a =>
          rw [ex] at hx
          cases hx
          cases ey : ns.tail[i]? with
          | none =>
            rw [ey] at hy
            cases hy
          | some b =>
            rw [ey] at hy
            cases hy
            refine ⟨_, SqT.of upd_same, rfl, ⟨rfl, ⟨fun _ => ?_, (nomatch ·)⟩⟩⟩
            have hDT : D ≠ T := ne_of_none d3 hT
            have es : (stepsOf ns)[i]? = some (b - a) := by
              unfold stepsOf
              rw [List.getElem?_zipWith, ex, ey]
            refine LcP.put hD (by rw [sizeLine_eq]; omega) ha (same_new (s3.free hT) s3) ((upd_ne hDT).trans d3) ?_
            rw [e3, take_snoc es]
            simp
      · rw [hmin] at e3
        rw [List.take_length] at e3
        rw [e3] at d3
        have hmx : (if stepsOf ns = [] then V.int 0 else V.int (minL (stepsOf ns))) = V.int (minL (stepsOf ns)) := by
          split
          · rename_i e
            rw [e]
            rfl
          · rfl
        refine ⟨_, SqL.of d3, .inl ⟨_, rfl, ?_⟩⟩
        rw [hmx]
        have hm : -2000000000000000000 < minL (stepsOf ns) ∧ minL (stepsOf ns) < 2000000000000000000 := by
          by_cases e : stepsOf ns = []
          · rw [e]
            decide
          · have := hst _ (minL_mem e)
            omega
        generalize hme : minL (stepsOf ns) = m at *
        obtain ⟨n0, r0, rfl⟩ : ∃ n0 r0, ns = n0 :: r0 := by
          cases ns with
          | nil => simp at h0
          | cons a b => exact ⟨a, b, rfl⟩
        have hn0 := hs n0 (by simp)
        have s03 : Same H H3 := Same.trans (same_new hc (Same.refl _)) s3
        have b1 := numberBytes_len (n := n0) (by have := hn0.1; omega) (by have := hn0.2; omega)
        have b2 := numberBytes_len (n := m) (by omega) (by omega)
        have a0 : atI ((n0 :: r0).map V.int) 0 = some (.int n0) := atN (n := 0) rfl
        refine ⟨_, .int n0, .inl (SqL.of (s03 _ _ hl)), a0, ⟨by omega, fun H4 p4 s4 hp4 d4 => ⟨by omega, fun H5 p5 s5 hp5 d5 => ⟨_, _, s5 _ _ d4, d5, by rw [sizeLine_eq, List.length_map, List.length_map]; omega, fun t ht => ?_⟩⟩⟩⟩
        have d35 := s5 _ _ (s4 _ _ d3)
        have d36 := (upd_ne (o := .lst ((numberBytes n0).map V.int ++ (numberBytes m).map V.int)) (ne_of_none d35 ht)).trans d35
        refine ⟨⟨_, SqL.of d36⟩, fun D2 hD2 => ?_⟩
        refine LcGoes.by (.list (xs := (stepsOf (n0 :: r0)).map V.int)) hD2 (fun i acc H' => acc = (((stepsOf (n0 :: r0)).take i).map fun n => n - m).map V.int) rfl (fun i acc H' _ s' _ _ => SqL.of (s' _ _ d36)) (fun i acc v H6 _ hi ha s6 d6 e6 it => ?_) (fun acc H6 ha s6 d6 e6 => ?_)
        · obtain ⟨hv, rfl⟩ := it
          rw [List.getElem?_map] at hv
          cases ep : (stepsOf (n0 :: r0))[i]? with
          | none =>
            rw [ep] at hv
            cases hv
          | some pl =>
            rw [ep] at hv
            cases hv
            refine ⟨rfl, ⟨fun _ => ?_, (nomatch ·)⟩⟩
            refine LcP.put hD2 (lt_size hi (by omega)) ha s6 d6 ?_
            rw [e6, take_snoc ep]
            simp
        · have e4 : (stepsOf (n0 :: r0)).take ((stepsOf (n0 :: r0)).map V.int).length = stepsOf (n0 :: r0) := List.take_of_length_le (by simp)
          rw [e4] at e6
          rw [e6] at d6
          have hb : bitsFor (maxL ((stepsOf (n0 :: r0)).map fun n => n - m)).toNat ≤ 62 := bits_of_lt fun y hy => by
            obtain ⟨z, hz, rfl⟩ := List.mem_map.mp hy
            have := hst z hz
            omega
          have hl2 : ((stepsOf (n0 :: r0)).map fun n => n - m).length ≤ 100 := by simp; omega
          refine ⟨_, d6, hl2, hb, fun H7 q s7 hq d7 => ?_⟩
          have hsl := smallBytes_len hl2 hb
          refine ⟨_, _, s7 _ _ (s6 _ _ upd_same), d7, by rw [sizeLine_eq, List.length_append, List.length_map, List.length_map, List.length_map]; omega, fun t2 ht2 => ?_⟩
          rw [← List.map_append, ← List.map_append]
          unfold stepBytes at h
          rw [hme] at h
          have s05 := s03.trans (s4.trans s5)
          exact NewI.upd h ((same_new (s05.free ht) s05).trans (s6.trans s7)) t2 ht2
    · exact h.elim
end
end K90
/-! sorted(list of cells, key=cell_key). -/
namespace K90
open PySem PySem.Spec PyProof.Rows L2 RT RZ
open PySem.W (KeepsBut keyH_end dataLe keyedOut_each KeyedOut AllAlike Sortable alike alikeAll EachIs copyHeap copyHeap_at copyHeap_old sorted_of_sort)
/-- the exact object -/
def XO (a : Addr) (o : Obj) : HO := .ext fun h => h.get? a = some o
theorem xo_ok {P : Program} {w : World} {H : Hp} {h : Heap} {a : Addr} {o : Obj} (e : h.get? a = some o) : ObjOk P w H h a (XO a o) := ⟨e, ⟨o, e⟩, fun h1 h2 p k => k _ p⟩
def keyD : Cell → PyData
  | .non => .tuple [.int 0, .int 0, .str ""]
  | .int i => .tuple [.int 1, .int i, .str ""]
  | .str l => .tuple [.int 2, .int 0, .str ⟨l.toArray⟩]
def sortC (cs : List Cell) : List Cell := cs.mergeSort (dataLe false keyD)
theorem al_key (cs : List Cell) : AllAlike (cs.map keyD) := AllAlike.of fun a b => by cases a <;> cases b <;> simp [alike, alikeAll, keyD]
theorem so_key (cs : List Cell) : Sortable (cs.map keyD) := Sortable.tuples fun a => by cases a <;> exact ⟨_, _, rfl⟩
theorem dp_key {K : PySem.W.Frag} {H : Hp} {p : Addr} {c : Cell} (h : H p = some (.tup (keyOf c))) : Dp K H (.ref p) (keyD c) := by
  cases c with
  | non => exact .tup (SqT.of h) (.cons (.int _) (.cons (.int _) (.cons (.str _) .nil)))
  | int i => exact .tup (SqT.of h) (.cons (.int _) (.cons (.int _) (.cons (.str _) .nil)))
  | str l => exact .tup (SqT.of h) (.cons (.int _) (.cons (.int _) (.cons (.str _) .nil)))
theorem dep_key (c : Cell) : (keyD c).depth = 1 := by cases c <;> simp [keyD, PyData.depth, PyData.depthAll]
/-- the keys made so far -/
def KeysAt (H : Hp) : List Value → List Cell → Prop := EachIs fun u c => ∃ p, u = .ref p ∧ H p = some (.tup (keyOf c))
theorem KeysAt.same {H H' : Hp} (s : Same H H') {us : List Value} {cs : List Cell} (h : KeysAt H us cs) : KeysAt H' us cs := EachIs.mono (fun u c ⟨p, e, d⟩ => ⟨p, e, s _ _ d⟩) h
theorem KeysAt.tups {H H' : Hp} (s : ∀ b xs, H b = some (.tup xs) → H' b = some (.tup xs)) {us : List Value} {cs : List Cell} (h : KeysAt H us cs) : KeysAt H' us cs := EachIs.mono (fun u c ⟨p, e, d⟩ => ⟨p, e, s _ _ d⟩) h
theorem each_map {α β γ : Type} {R : α → γ → Prop} {f : β → γ} : ∀ {as : List α} {bs : List β}, EachIs (fun a b => R a (f b)) as bs → EachIs R as (bs.map f)
  | _, _, .nil => .nil
  | _, _, .cons r t => .cons r (each_map t)
theorem each_vals : ∀ {cs : List Cell} {us : List Value}, Vals (cs.map cv) us → EachIs (fun u c => RelV (cv c) u) us cs
  | [], _, .nil => .nil
  | c :: cs, _, .cons r t => .cons r (each_vals t)
theorem vals_each : ∀ {us : List Value} {cs : List Cell}, EachIs (fun u c => RelV (cv c) u) us cs → Vals (cs.map cv) us
  | _, _, .nil => .nil
  | _, _, .cons r t => .cons r (vals_each t)
theorem each_snoc' {α β : Type} {R : α → β → Prop} {a : α} {b : β} (h : R a b) : ∀ {as : List α} {bs : List β}, EachIs R as bs → EachIs R (as ++ [a]) (bs ++ [b])
  | _, _, .nil => .cons h .nil
  | _, _, .cons r t => .cons r (each_snoc' h t)
section
variable {X : Cx} {k j : Nat} {pins : List (Addr × Obj)} {σ : L2.St} {H : Hp}
theorem sortK_rest (c : Cal X.prog X.w X.K X.mg X.base k "cell_key" (sp_cell_key X.K)) {f : Addr} (hf : X.mg "cell_key" = some (.ref f)) (hr : Room j X.A) (hk : k + 2 ≤ j) {a kS : Addr} {e1 : Nat} {vs : List Value} {cs : List Cell} {s1 : Shared} {H1 : Hp} {Q : VK} {E' : Value → Shared → Prop}
    (fa : FpOk X pins H a) (fk : FpOk X pins H kS) (hka : kS ≠ a) (hv : Vals (cs.map cv) vs) (hn : cs.length ≤ 1000) (I : Inv X pins σ H1 s1) (hH : Same H H1) (ha : H1 a = some (XO a (seqObj "list" #[] e1))) (hS : H1 kS = some (XO kS (seqObj "list" #[] 0)))
    (q : ∀ H', Same H H' → H' a = some (.lst ((sortC cs).map cv)) → Q (.ref a) H') :
    wpAny (model X.prog X.w) X.A.in1.in1 (ksk_rest a (.ref f) false vs.toArray e1 (.ref kS)) (fun fin s' => fin = .done (.ret .none) ∧ EP X pins σ Q (.ref a) s') E' s1 := by
  obtain ⟨f', fd, ps, F, hm, kp, b⟩ := c.ex
  rw [hf] at hm
  cases hm
  have hlen : vs.length = cs.length := by
    have := hv.length
    simpa using this.symm
  have hr2 : Room k X.A.in1.in1 := ((hr.mono hk).in1).in1
  unfold ksk_rest
  refine wpAny_bind (wpAny_rule ?_)
  rw [List.forIn_toArray]
  refine wpAny_bind (ksk_fold (fun i s' => ∃ H' kA e, Inv X pins σ H' s' ∧ Same H H' ∧ H' a = some (XO a (seqObj "list" #[] e1)) ∧ H' kS = some (XO kS (seqObj "list" kA e)) ∧ KeysAt H' kA.toList (cs.take i)) vs 0 s1
    ⟨H1, #[], 0, I, hH, ha, hS, by rw [List.take_zero]; exact .nil⟩ ?step ?done)
  case step =>
    rintro i v s' hx ⟨H', kA, e, I', hs, ha', hS', hK⟩
    simp only [Nat.zero_add] at hK ⊢
    have hi : i < vs.length := (List.getElem?_eq_some_iff.mp hx).1
    obtain ⟨x, hxv, rx⟩ := vals_at hv hx
    rw [List.getElem?_map] at hxv
    obtain ⟨cc, ec⟩ := get_lt (l := cs) (i := i) (by omega)
    rw [ec] at hxv
    cases hxv
    have e0 := I'.env0
    have e2 : Env0 X.prog X.w X.K X.mg X.base X.A.in1.in1 X.stack s' H' := ⟨e0.frames, e0.mod, e0.bs, e0.bsz, e0.funs, e0.frf, e0.hok, e0.bare⟩
    have turn : wpAny (model X.prog X.w) X.A.in1.in1 (call (.ref f) [v]) (EP X pins σ fun u H'' => ∃ p, u = .ref p ∧ H' p = none ∧ H'' = upd H' p (.tup (keyOf cc))) (fun _ _ => False) s' := by
      have hsp : sp_cell_key X.K [cv cc] H' (fun u H'' => ∃ p, u = .ref p ∧ H' p = none ∧ H'' = upd H' p (.tup (keyOf cc))) E0 := ⟨cc, rfl, fun p hp => ⟨p, rfl, hp, rfl⟩⟩
      have hl : [v].length = ps.length := F.len _ _ _ _ hsp
      refine wpAny_call (codeAny_mono (F.run X.A.in1.in1 X.stack s' H' ⟨[v], []⟩ [v] [cv cc] _ E0 hr2 e2 (b s' [v] I'.kIn hl) (.cons rx .nil) hsp) fun r s'' hq => ?_)
      cases r with
      | error e =>
        obtain ⟨_, _, _, _, _, _, _, _, _, _, _, _, hE⟩ := hq
        exact hE
      | ok fl =>
        cases fl with
        | ret u => exact I'.after hq
        | next => exact False.elim hq
        | brk => exact False.elim hq
        | cont => exact False.elim hq
    refine wpAny_bind (wpAny_attempt (wpAny_mono turn (fun u s'' he => ?_) fun _ _ hF => hF.elim))
    obtain ⟨x, H'', I2, ru, p, rfl, hp, rfl⟩ := he
    have ru : u = Value.ref p := ru
    subst ru
    try dsimp only
    have hpa : p ≠ a := fun z => by rw [z, ha'] at hp; cases hp
    have hpk : p ≠ kS := fun z => by rw [z, hS'] at hp; cases hp
    have ha2 : upd H' p (.tup (keyOf cc)) a = some (XO a (seqObj "list" #[] e1)) := (upd_ne (Ne.symm hpa)).trans ha'
    have hS2 : upd H' p (.tup (keyOf cc)) kS = some (XO kS (seqObj "list" kA e)) := (upd_ne (Ne.symm hpk)).trans hS'
    have nk2 : s''.heap.get? kS = some (seqObj "list" kA e) := (I2.hok kS _ hS2).1
    have sb := Heap.SameBut.update s''.heap kS (Obj.mapSeq (·.push (.ref p)))
    obtain ⟨c2, hc2⟩ : ∃ c2, (s''.heap.update kS (Obj.mapSeq (·.push (.ref p)))).get? kS = some (seqObj "list" (kA.push (.ref p)) c2) := ⟨_, get?_update_seq nk2 (·.push (.ref p))⟩
    have hkl : kA.size = i := by
      have := hK.length
      rw [Array.length_toList, List.length_take] at this
      omega
    have hsl := sizeLine_eq
    refine wpAny_bind (listUpdate_at nk2 rfl ?_ (by omega) (by rw [Array.size_push]; omega))
    refine wpAny_pure ⟨rfl, _, kA.push (.ref p), c2, I2.write (x := kS) (e := kS) (t' := s''.toks) (by rw [hS2]; trivial) (.inl rfl) (fun b o hb e => (sb.2 b hb).trans e) ⟨_, hc2⟩ (xo_ok hc2), ?_, (upd_ne (Ne.symm hka)).trans ha2, upd_same, ?_⟩
    · exact same_new fk.1 (same_new (hs.free hp) hs)
    · have ek : cs.take (i + 1) = cs.take i ++ [cc] := by rw [List.take_add_one, ec]; simp
      rw [Array.toList_push, ek]
      refine each_snoc' ⟨p, rfl, ?kx⟩ (KeysAt.tups ?ky hK)
      case kx =>
        rw [upd_ne hpk]
        exact upd_same
      case ky =>
        intro b xs hb
        have h1 : b ≠ kS := fun z => by rw [z, hS'] at hb; cases hb
        have h2 : b ≠ p := ne_of_none hb hp
        rw [upd_ne h1, upd_ne h2]
        exact hb
  case done =>
    rintro s' ⟨H', kA, e, I', hs, ha', hS', hK⟩
    have e3 : cs.take (0 + vs.length) = cs := List.take_of_length_le (by omega)
    rw [e3] at hK
    have nkk := (I'.hok kS _ hS').1
    have na' := (I'.hok a _ ha').1
    have hsl := sizeLine_eq
    have hkl : kA.size = vs.length := by
      have := hK.length
      rw [Array.length_toList] at this
      omega
    have hk' : EachIs (fun v k => ∃ as, Reads s'.heap v k as) kA.toList (cs.map keyD) := each_map (EachIs.mono (fun u c ⟨p, e, d⟩ => by
      subst e
      exact Dp.reads I' _ _ _ (dp_key d) rfl) hK)
    refine wpAny_bind (listItems_at nkk rfl ?_)
    obtain ⟨G, g1, g2⟩ := restrict s'.heap fun b => decide (b ≠ kS)
    have hG : ∀ b o, b ≠ kS → s'.heap.get? b = some o → G.get? b = some o := fun b o hb e => (g1 b (decide_eq_true hb)).trans e
    refine keyH_end (κ := PySem.W.dataKind s'.heap (cs.map keyD)) (h₁ := G) (fun b o hb e => ?_) (g2 kS (by simp)) nkk na' hka (PySem.W.SortsAt.data hk' (al_key cs) (so_key cs) fun d hd => ?_) hkl (by omega) fun h3 tk3 c3 k3 n3 => ⟨rfl, ?_⟩
    · by_cases hbk : b = kS
      · rw [hbk, g2 kS (by simp)] at e
        cases e
      · rw [g1 b (decide_eq_true hbk)] at e
        exact e
    · obtain ⟨x, _, rfl⟩ := List.mem_map.mp hd
      rw [dep_key]
      have := hr2.un
      omega
    have eo := keyedOut_each (rev := false) keyD ⟨s'.heap, kA.toList, al_key cs, rfl, hk'⟩ (each_vals hv)
    have vo := vals_each eo
    have keepb : ∀ b o, b ≠ a → b ≠ kS → s'.heap.get? b = some o → h3.get? b = some o := fun b o h1 h2 e => k3 b o h1 (hG b o h2 e)
    have hfa : ∀ {b o}, H' b = some o → (∀ x, o ≠ XO a x) → b ≠ a := fun hb ho z => by
      rw [z, ha'] at hb
      cases hb
      exact ho _ rfl
    have hfk : ∀ {b o}, H' b = some o → (∀ x, o ≠ XO kS x) → b ≠ kS := fun hb ho z => by
      rw [z, hS'] at hb
      cases hb
      exact ho _ rfl
    refine ⟨.ref a, fun b => if b = kS then none else upd H' a (.lst ((sortC cs).map cv)) b, I'.call (g' := s'.gens) (d' := s'.drawn) (t' := tk3) (ch := [kS]) ?_ ?_ I'.bare ?_, rfl, q _ (fun b o hb => ?_) ?_⟩
    · refine ⟨fun b o e n nb nx => ?_, fun b o e n nb nx => ⟨o.slots, ?_⟩, fun b o e n nx => ?_, fun b o e nx => ?_, fun b xs e => ?_, fun b o u e => ?_, fun b ps e => ⟨#[], ?_⟩⟩
      · exact keepb b o (fun z => by rw [z, ha'] at n; cases n) (by simpa using nx) e
      · exact keepb b o (fun z => by rw [z, ha'] at n; cases n) (by simpa using nx) e
      · have h1 : b ≠ a := fun z => by rw [z, ha'] at n; cases n
        have h2 : b ≠ kS := by simpa using nx
        try dsimp only
        rw [if_neg h2, upd_ne h1]
        exact n
      · by_cases hba : b = a
        · rw [hba]
          exact ⟨_, n3⟩
        · exact ⟨o, keepb b o hba (by simpa using nx) e⟩
      · try dsimp only
        rw [if_neg (hfk e fun x z => by cases z), upd_ne (hfa e fun x z => by cases z)]
        exact e
      · try dsimp only
        rw [if_neg (hfk e fun x z => by cases z), upd_ne (hfa e fun x z => by cases z)]
        exact e
      · try dsimp only
        rw [if_neg (hfk e fun x z => by cases z), upd_ne (hfa e fun x z => by cases z)]
        simpa using e
    · intro b u e
      dsimp only at e
      by_cases hbk : b = kS
      · rw [if_pos hbk] at e
        cases e
      · rw [if_neg hbk] at e
        by_cases hba : b = a
        · subst hba
          rw [upd_same] at e
          cases e
          refine ⟨?_, _, c3, vo, n3⟩
          rw [List.length_map]
          unfold sortC
          rw [List.length_mergeSort]
          omega
        · rw [upd_ne hba] at e
          refine (I'.hok b u e).stay (fun c v hc hq => ?_) (fun c hc => ?_) fun c xs hc => ?_
          · rcases hc with rfl | hc
            · exact keepb c v hba hbk hq
            · exact keepb c v (hfa hc fun x z => by cases z) (hfk hc fun x z => by cases z) hq
          · try dsimp only
            rw [if_neg (hfk hc fun x z => by cases z), upd_ne (hfa hc fun x z => by cases z)]
            exact hc
          · try dsimp only
            rw [if_neg (hfk hc fun x z => by cases z), upd_ne (hfa hc fun x z => by cases z)]
            exact hc
    · intro b hb
      have hb : b = kS := by simpa using hb
      subst hb
      exact ⟨fk.2.2.2.1, fk.2.1, fk.2.2.2.2.1, fk.2.2.2.2.2⟩
    · have h1 : b ≠ kS := ne_of_none hb fk.1
      have h2 : b ≠ a := ne_of_none hb fa.1
      try dsimp only
      rw [if_neg h1, upd_ne h2]
      exact hs _ _ hb
    · try dsimp only
      rw [if_neg (Ne.symm hka)]
      exact upd_same
theorem sortK_run (c : Cal X.prog X.w X.K X.mg X.base k "cell_key" (sp_cell_key X.K)) {f : Addr} (hf : X.mg "cell_key" = some (.ref f)) (hr : Room j X.A) (hk : k + 2 ≤ j) {l : Addr} {cs : List Cell} {s : Shared} {Q : VK}
    (I : Inv X pins σ H s) (hl : SqL X.K H l (cs.map cv)) (hn : cs.length ≤ 1000)
    (q : ∀ H' p, Same H H' → H p = none → H' p = some (.lst ((sortC cs).map cv)) → Q (.ref p) H') : wpAny (model X.prog X.w) X.A (call (.builtin "sorted") [.ref l] [(Str.ofString "key", .ref f)]) (EP X pins σ Q) X.xe s := by
  obtain ⟨vs, hv, pl, hz⟩ := I.list hl
  have hlen : vs.length = cs.length := by
    have := hv.length
    simpa using this.symm
  have hsl := sizeLine_eq
  have hle1 : s.heap.objs.size ≤ s.heap.objs.size + 1 := Nat.le_succ _
  have hna : H (s.heap.objs.size + 1) = none := I.hok.fresh hle1
  refine sorted_of_sort pl.isList (by omega) (ksk_s1 _ _) (fun _ => ksk_l1 _ _) fun E' => ?_
  rw [ksk_t1]
  unfold ksk_tree
  have ho : (copyHeap s.heap vs).get? (s.heap.objs.size + 1) = some (seqObj "list" vs.toArray 0) := copyHeap_at s.heap vs
  generalize hch : copyHeap s.heap vs = hc at *
  have hold : ∀ b o, s.heap.get? b = some o → hc.get? b = some o := fun b o e => by
    rw [← hch]
    exact copyHeap_old e
  refine wpAny_bind (listItems_at (s := { s with heap := hc }) ho rfl ?_)
  refine wpAny_bind (listUpdate_at (s := { s with heap := hc }) ho rfl ?_ (by rw [List.size_toArray]; omega) (Nat.zero_le _))
  obtain ⟨e1, ho1⟩ : ∃ e1, (hc.update (s.heap.objs.size + 1) (Obj.mapSeq fun _ => (#[] : Array Value))).get? (s.heap.objs.size + 1) = some (seqObj "list" #[] e1) := ⟨_, get?_update_seq ho fun _ => #[]⟩
  refine wpAny_bind (seqEpoch_at (s := { s with heap := hc.update (s.heap.objs.size + 1) (Obj.mapSeq fun _ => (#[] : Array Value)) }) ho1 rfl ?_)
  refine wpAny_bind (wpAny_newTuple ?_ (by show vs.length ≤ _; omega))
  refine wpAny_bind (wpAny_newList ?_ (Nat.zero_le _))
  refine wpAny_holding ?_
  have sb := Heap.SameBut.update hc (s.heap.objs.size + 1) (Obj.mapSeq fun _ => (#[] : Array Value))
  generalize hg0 : hc.update (s.heap.objs.size + 1) (Obj.mapSeq fun _ => (#[] : Array Value)) = g0 at *
  have k0 : ∀ b o, s.heap.get? b = some o → (g0.push (seqObj "tuple" vs.toArray 0)).get? b = some o := fun b o e => by
    have hb : b ≠ s.heap.objs.size + 1 := Nat.ne_of_lt (Nat.lt_succ_of_lt (Heap.lt_size e))
    exact Heap.get?_push_of_some _ ((sb.2 b hb).trans (hold b o e))
  have k1 : (g0.push (seqObj "tuple" vs.toArray 0)).get? (s.heap.objs.size + 1) = some (seqObj "list" #[] e1) := Heap.get?_push_of_some _ ho1
  generalize hg1 : g0.push (seqObj "tuple" vs.toArray 0) = g1 at *
  have hlt : s.heap.objs.size + 1 < g1.objs.size := Heap.lt_size k1
  have I1 := I.laid (a := s.heap.objs.size + 1) (t' := s.toks) (o := XO (s.heap.objs.size + 1) (seqObj "list" #[] e1)) k0 hle1 (xo_ok k1)
  have I2 := I1.laid (a := g1.objs.size) (h' := g1.push (seqObj "list" #[] 0)) (t' := s.toks) (o := XO g1.objs.size (seqObj "list" #[] 0)) (fun b u e => Heap.get?_push_of_some _ e) (Nat.le_refl _) (xo_ok (Heap.get?_push_size _ rfl))
  have hle2 : s.heap.objs.size ≤ g1.objs.size := Nat.le_of_lt (Nat.lt_of_le_of_lt hle1 hlt)
  have hkn : H g1.objs.size = none := I.hok.fresh hle2
  have hne : s.heap.objs.size + 1 ≠ g1.objs.size := Nat.ne_of_lt hlt
  exact sortK_rest c hf hr hk (I.fpOk hle1 hna) (I.fpOk hle2 hkn) (Ne.symm hne) hv hn I2 (same_new hkn (same_new hna (Same.refl _))) ((upd_ne hne).trans upd_same) upd_same fun H' hs d => q H' _ hs hna d
/-- sorted(xs, key=cell_key) -/
def kSortK (K : PySem.W.Frag) (f : Addr) : List V → List V → Hp → VK → Prop := fun vs zvs H Q => match vs, zvs with
  | [.ref l], [.ref g] => g = f ∧ ∃ cs : List Cell, H l = some (.lst (cs.map cv)) ∧ cs.length ≤ 1000 ∧ ∀ H' p, Same H H' → H p = none → H' p = some (.lst ((sortC cs).map cv)) → Q (.ref p) H'
  | _, _ => False
theorem c_sortedK (c : Cal X.prog X.w X.K X.mg X.base k "cell_key" (sp_cell_key X.K)) {f : Addr} (hf : X.mg "cell_key" = some (.ref f)) (hr : Room j X.A) (hk : k + 2 ≤ j) : CallRK X (.builtin "sorted") ["key"] (kSortK X.K f) := by
  intro pins s σ H vs zvs us ws Q I r rzz h
  unfold kSortK at h
  split at h
  · obtain ⟨rfl, cs, h1, h2, h3⟩ := h
    obtain rfl := Vals.ref1 r
    obtain ⟨ww1, rfl, e1⟩ := vals1 rzz
    obtain rfl := e1
    exact sortK_run c hf hr hk I (SqL.of h1) h2 h3
  · exact h.elim
end
end K90
namespace K90
open PySem PySem.Spec PyProof.Rows L2 RT RZ
/-- a cell as a key -/
def kf : Cell → Option Key
  | .non => none
  | .int i => some (.inl i)
  | .str l => some (.inr ⟨l.toArray⟩)
theorem kf_inj {a b : Cell} (h : kf a = kf b) : a = b := by cases a <;> cases b <;> simp_all [kf]
theorem kN_kf (c : Cell) : kN (kf c) = cv c := by cases c <;> rfl
/-- what was met, in the order of meeting -/
def met (cs : List Cell) : List Cell := cs.foldl (fun a c => if c ∈ a then a else a ++ [c]) []
def bookOf (cs : List Cell) : List Cell := sortC (met cs)
def metK (a : List Cell) : List (Option Key × V) := a.map fun c => (kf c, V.bl true)
theorem metK_put (a : List Cell) (c : Cell) : putK (metK a) (kf c) (V.bl true) = metK (if c ∈ a then a else a ++ [c]) := by
  unfold putK
  have hany : (metK a).any (fun kv => decide (kv.1 = kf c)) = decide (c ∈ a) := by
    unfold metK
    rw [List.any_map]
    by_cases h : c ∈ a
    · rw [decide_eq_true h, List.any_eq_true]
      exact ⟨c, h, by simp⟩
    · rw [decide_eq_false h, List.any_eq_false]
      intro d hd
      simp
      exact fun z => h (kf_inj z ▸ hd)
  rw [hany]
  by_cases h : c ∈ a
  · rw [decide_eq_true h, if_pos rfl, if_pos h]
    unfold metK
    rw [List.map_map]
    refine List.map_congr_left fun d hd => ?_
    simp
  · rw [decide_eq_false h, if_neg (by decide), if_neg h]
    simp [metK]
theorem met_len (cs : List Cell) : ∀ a : List Cell, (cs.foldl (fun a c => if c ∈ a then a else a ++ [c]) a).length ≤ a.length + cs.length := by
  induction cs with
  | nil => intro a; simp
  | cons c r ih =>
    intro a
    have := ih (if c ∈ a then a else a ++ [c])
    rw [List.foldl_cons]
    split at this
    · rename_i h
      rw [if_pos h]
      simp
      omega
    · rename_i h
      rw [if_neg h]
      simp at this ⊢
      omega
theorem met_inv : ∀ (cs a : List Cell), a.Nodup → (cs.foldl (fun a c => if c ∈ a then a else a ++ [c]) a).Nodup ∧ ∀ x, x ∈ cs.foldl (fun a c => if c ∈ a then a else a ++ [c]) a ↔ x ∈ a ∨ x ∈ cs
  | [], a, h => ⟨h, fun x => by simp⟩
  | c :: r, a, h => by
    rw [List.foldl_cons]
    by_cases hc : c ∈ a
    · rw [if_pos hc]
      have ih := met_inv r a h
      refine ⟨ih.1, fun x => ?_⟩
      rw [ih.2]
      simp
      constructor
      · rintro (h | h)
        · exact .inl h
        · exact .inr (.inr h)
      · rintro (h | rfl | h)
        · exact .inl h
        · exact .inl hc
        · exact .inr h
    · rw [if_neg hc]
      have hn : (a ++ [c]).Nodup := by
        rw [List.nodup_append]
        refine ⟨h, by simp, fun x hx y hy => ?_⟩
        have : y = c := by simpa using hy
        subst this
        exact fun z => hc (z ▸ hx)
      have ih := met_inv r (a ++ [c]) hn
      refine ⟨ih.1, fun x => ?_⟩
      rw [ih.2]
      simp
      constructor
      · rintro ((h | h) | h)
        · exact .inl h
        · exact .inr (.inl h)
        · exact .inr (.inr h)
      · rintro (h | h | h)
        · exact .inl (.inl h)
        · exact .inl (.inr h)
        · exact .inr h
theorem book_perm (cs : List Cell) : (bookOf cs).Perm (met cs) := List.mergeSort_perm _ _
theorem book_mem {cs : List Cell} {c : Cell} : c ∈ bookOf cs ↔ c ∈ cs := by
  rw [(book_perm cs).mem_iff]
  unfold met
  rw [(met_inv cs [] List.nodup_nil).2]
  simp
theorem book_nodup (cs : List Cell) : (bookOf cs).Nodup := (book_perm cs).nodup_iff.mpr (met_inv cs [] List.nodup_nil).1
theorem book_len (cs : List Cell) : (bookOf cs).length ≤ cs.length := by
  rw [(book_perm cs).length_eq]
  have := met_len cs []
  simpa [met] using this
def bookBytes (cs : List Cell) : List Int := numberBytes (bookOf cs).length ++ cellsBytes (bookOf cs) ++ packed (cs.map fun c => (((bookOf cs).idxOf c : Nat) : Int)) (bitsFor ((bookOf cs).length - 1))
section
variable {P : Program} {w : World} {K : PySem.W.Frag} {mg : Str → Option Value} {base : Heap}
def sp_book_of (K : PySem.W.Frag) : Sp := fun vs H Q E => match vs with
  | [.ref l] => ∃ cs : List Cell, H l = some (.lst (cs.map cv)) ∧ cs.length ≤ 1000 ∧ ∀ H' p, Same H H' → H p = none → H' p = some (.lst ((bookOf cs).map cv)) → Q (.ref p) H'
  | _ => False
theorem sc_book_of : FnScope ["cells", "met", "cell"] ["cells"] (defScope s_book_of) := ⟨rfl, rfl, rfl, by decide +kernel, rfl, by decide +kernel, by decide +kernel⟩
theorem ok_book_of (T : Txt K mg) : Cal P w K mg base 8 "book_of" (sp_book_of K) := by
  obtain ⟨fd, F⟩ := D_book_of T
  refine cal_mk (g_book_of T) F sc_book_of (fun _ _ _ _ _ _ us hl => match us, hl with | [_], _ => rfl) (fun vs H Q E h => ?len) (fun cdv A outer s H vs Q E hr h => ⟨_, (pss_cons (ps_set (i := 1) sc_book_of.nd rfl (by first | exact Or.inl rfl | exact Or.inr rfl) (u_cnew (P := P) (w := w)))
      (pss_cons (us_for (passes_of rfl) rfl (j_list (uv 0)) (pg_name (i := 2) sc_book_of.nd rfl (by first | exact Or.inl rfl | exact Or.inr rfl)) (pss_one (us_cput (P := P) (w := w) (uv 1) (uv 2) pe_bl)))
      (pss_one (ps_ret (pe_callBK (c_sortedK (ok_cell_key T) (g_cell_key T) hr (by decide)) rfl (b_sorted T) (by decide +kernel) (pa_cons (pe_callTy (c_listD (P := P) (w := w)) rfl (b_list T) (by decide +kernel) (pa_cons (uv 1) pa_nil)) pa_nil) (pk_cons (u_ref (g_cell_key T)) pk_nil)))))), ?body⟩)
  case len => unfold sp_book_of at h; (split at h) <;> first | rfl | exact h.elim
  case body =>
    unfold sp_book_of at h
    split at h
    · rename_i l
      obtain ⟨cs, hl, hn, h⟩ := h
      intro m hm
      refine ⟨⟨_, SqL.of ((upd_ne (ne_of_none hl hm)).trans hl)⟩, ?_⟩
      refine ForGoes.by (.list (xs := cs.map cv)) (fun i σ H' => ∃ (t : Option V), σ = [some (.ref l), some (.ref m), t] ∧ Same H H' ∧ H' m = some (LD P w m (metK ((cs.take i).foldl (fun a c => if c ∈ a then a else a ++ [c]) [])))) ⟨none, rfl, same_new hm (Same.refl _), upd_same⟩ ?_ ?_ ?_
      · rintro i _ H2 _ ⟨t, rfl, s2, d2⟩
        exact SqL.of (s2 _ _ hl)
      · rintro i v _ H2 _ hi ⟨t, rfl, s2, d2⟩ ⟨hv, rfl⟩
        rw [List.getElem?_map] at hv
        cases ep : cs[i]? with
        | none =>
          rw [ep] at hv
          cases hv
        | some c =>
          rw [ep] at hv
          cases hv
          have hil : i < cs.length := by simpa using hi
          refine ⟨_, kf c, d2, (kN_kf c).symm, ?_, _, rfl, same_new hm s2, ?_⟩
          · have := met_len (cs.take i) []
            rw [List.length_take] at this
            rw [sizeLine_eq]
            unfold metK
            rw [List.length_map]
            simp at this
            omega
          · rw [upd_same, metK_put, foldl_snoc _ _ _ _ _ ep]
      · rintro _ H2 ⟨t, rfl, s2, d2⟩
        have e : cs.take (cs.map cv).length = cs := List.take_of_length_le (by simp)
        rw [e] at d2
        refine ⟨_, d2, fun q hq => ?_⟩
        have hkeys : ((metK (cs.foldl (fun a c => if c ∈ a then a else a ++ [c]) [])).map fun kv => kN kv.1) = (met cs).map cv := by
          unfold metK met
          rw [List.map_map]
          exact List.map_congr_left fun d _ => kN_kf d
        rw [hkeys]
        have hml : (met cs).length ≤ 1000 := by
          have := met_len cs []
          unfold met
          simp at this
          omega
        refine ⟨rfl, met cs, upd_same, hml, fun H3 p s3 hp d3 => ?_⟩
        have hq0 : H q = none := s2.free hq
        refine h _ p ((same_new hq0 s2).trans s3) ?_ d3
        exact (same_new hq0 s2).free hp
    · exact h.elim
def sp_book_bytes (K : PySem.W.Frag) : Sp := fun vs H Q E => match vs with
  | [.ref l] => ∃ cs : List Cell, H l = some (.lst (cs.map cv)) ∧ cs.length ≤ 100 ∧ (∀ c ∈ cs, c.fit) ∧ NewI H (bookBytes cs) Q
  | _ => False
theorem sc_book_bytes : FnScope ["cells", "book", "places", "place", "cell", "told"] ["cells"] (defScope s_book_bytes) := ⟨rfl, rfl, rfl, by decide +kernel, rfl, by decide +kernel, by decide +kernel⟩
theorem ok_book_bytes (T : Txt K mg) : Cal P w K mg base 9 "book_bytes" (sp_book_bytes K) := by
  obtain ⟨fd, F⟩ := D_book_bytes T
  refine cal_mk (g_book_bytes T) F sc_book_bytes (fun _ _ _ _ _ _ us hl => match us, hl with | [_], _ => rfl) (fun vs H Q E h => ?len) (fun cdv A outer s H vs Q E hr h => ⟨_, (pss_cons (ps_set (i := 1) sc_book_bytes.nd rfl (by first | exact Or.inl rfl | exact Or.inr rfl) (u_call (ok_book_of T) hr (by decide) (pa_cons (uv 0) pa_nil)))
      (pss_cons (ps_set (i := 2) sc_book_bytes.nd rfl (by first | exact Or.inl rfl | exact Or.inr rfl) (u_cnew (P := P) (w := w)))
      (pss_cons (us_for (passes_of rfl) rfl (j_enum (b_enumerate T) (pa_cons (uv 1) pa_nil)) (q_tup (K := K) (n := 2) rfl (hg_cons (pg_name (i := 3) sc_book_bytes.nd rfl (by first | exact Or.inl rfl | exact Or.inr rfl)) (hg_cons (pg_name (i := 4) sc_book_bytes.nd rfl (by first | exact Or.inl rfl | exact Or.inr rfl)) hg_nil))) (pss_one (us_cput (P := P) (w := w) (uv 2) (uv 4) (uv 3))))
      (pss_cons (ps_set (i := 5) sc_book_bytes.nd rfl (by first | exact Or.inl rfl | exact Or.inr rfl) (u_call (ok_packed T) hr (by decide) (pa_cons (ue_lc (own := [("cell", 4)]) rfl sc_book_bytes.nd (j_list (uv 0)) rfl (fun _ _ _ _ _ => (pg_name (i := 4) sc_book_bytes.nd rfl (by first | exact Or.inl rfl | exact Or.inr rfl))) (fun _ _ _ _ _ => pts_nil) (fun _ _ _ _ _ => (u_cget (P := P) (w := w) (uv 2) (uv 4)))) (pa_cons (u_call (ok_bits_for T) hr (by decide) (pa_cons (pe_op o_sub (pe_callB (q_len (K := K)) rfl (b_len T) (by decide +kernel) (pa_cons (uv 1) pa_nil)) pe_int) pa_nil)) pa_nil))))
      (pss_one (ps_ret (pe_op o_add (pe_op o_add (u_call (ok_number_bytes T) hr (by decide) (pa_cons (pe_callB (q_len (K := K)) rfl (b_len T) (by decide +kernel) (pa_cons (uv 1) pa_nil)) pa_nil)) (u_call (ok_all_bytes T) hr (by decide) (pa_cons (uv 1) pa_nil))) (uv 5)))))))), ?body⟩)
  case len => unfold sp_book_bytes at h; (split at h) <;> first | rfl | exact h.elim
  case body =>
    unfold sp_book_bytes at h
    split at h
    · rename_i l
      obtain ⟨cs, hl, hn, hf, h⟩ := h
      have hbl := book_len cs
      have hbf : ∀ c ∈ bookOf cs, c.fit := fun c hc => hf c (book_mem.mp hc)
      refine ⟨cs, hl, by omega, fun H1 b s1 hb d1 => ?_⟩
      intro m hm
      have d1m := (upd_ne (o := LD P w m []) (ne_of_none d1 hm)).trans d1
      refine ⟨⟨_, SqL.of d1m⟩, ?_⟩
      refine ForGoes.by (.enum (xs := (bookOf cs).map cv)) (fun i σ H' => ∃ (kvs : List (Option Key × V)) (t u x : Option V), σ = [some (.ref l), some (.ref b), some (.ref m), t, u, x] ∧ Same H1 H' ∧ H' m = some (LD P w m kvs) ∧ kvs.length ≤ i ∧ ∀ j c, j < i → (bookOf cs)[j]? = some c → valV kvs (kf c) = some (.int (j : Nat))) ⟨[], none, none, none, rfl, same_new hm (Same.refl _), upd_same, Nat.le_refl _, fun j c hj => absurd hj (Nat.not_lt_zero _)⟩ ?_ ?_ ?_
      · rintro i _ H2 _ ⟨kvs, t, u, x, rfl, s2, d2, lk, hv⟩
        exact SqL.of (s2 _ _ d1)
      · rintro i v _ H2 _ hi ⟨kvs, t, u, x, rfl, s2, d2, lk, hv⟩ ⟨T, y, rfl, hT, rfl, hy⟩
        rw [List.getElem?_map] at hy
        cases ep : (bookOf cs)[i]? with
        | none =>
          rw [ep] at hy
          cases hy
        | some c =>
          rw [ep] at hy
          cases hy
          have hil : i < (bookOf cs).length := by simpa using hi
          refine ⟨_, SqT.of upd_same, rfl, ?_⟩
          have hmT : m ≠ T := ne_of_none d2 hT
          refine ⟨kvs, kf c, (upd_ne hmT).trans d2, (kN_kf c).symm, by rw [sizeLine_eq]; omega, _, _, _, x, rfl, same_new hm (same_new (s2.free hT) s2), upd_same, ?_, fun j c' hj hc' => ?_⟩
          · have := length_putK kvs (kf c) (V.int (i : Nat))
            omega
          · rw [valV_put]
            by_cases hji : j = i
            · subst hji
              rw [ep] at hc'
              cases hc'
              rw [if_pos rfl]
            · have hne : ¬ kf c' = kf c := fun z => by
                have z := kf_inj z
                subst z
                exact hji (nd_ix (book_nodup cs) hc' ep)
              rw [if_neg hne]
              exact hv j c' (by omega) hc'
      · rintro _ H2 ⟨kvs, t, u, x, rfl, s2, d2, lk, hv⟩
        have hlb : (List.map cv (bookOf cs)).length = (bookOf cs).length := List.length_map _
        rw [hlb] at lk hv
        have s12 := s1.trans s2
        have hl2 := s12 _ _ hl
        have d12 := s2 _ _ d1
        refine ⟨⟨_, SqL.of hl2⟩, fun D hD => ?_⟩
        refine LcGoes.by (.list (xs := cs.map cv)) hD (fun i acc H' => acc = ((cs.take i).map fun c => (((bookOf cs).idxOf c : Nat) : Int)).map V.int) rfl (fun i acc H' _ s' _ _ => SqL.of (s' _ _ hl2)) (fun i acc v H3 _ hi ha s3 d3 e3 it => ?_) (fun acc H3 ha s3 d3 e3 => ?_)
        · obtain ⟨hv', rfl⟩ := it
          rw [List.getElem?_map] at hv'
          cases ep : cs[i]? with
          | none =>
            rw [ep] at hv'
            cases hv'
          | some c =>
            rw [ep] at hv'
            cases hv'
            have hcm : c ∈ bookOf cs := book_mem.mpr (List.mem_of_getElem? ep)
            have hix := List.idxOf_lt_length_of_mem hcm
            refine ⟨rfl, ⟨fun _ => ?_, (nomatch ·)⟩⟩
            refine ⟨kvs, kf c, _, s3 _ _ d2, (kN_kf c).symm, hv _ c hix ?_, ?_⟩
            · rw [List.getElem?_eq_getElem hix, List.getElem_idxOf]
            · refine LcP.put hD (lt_size hi (by omega)) ha s3 d3 ?_
              rw [e3, take_snoc ep]
              simp
        · have e4 : cs.take (cs.map cv).length = cs := List.take_of_length_le (by simp)
          rw [e4] at e3
          rw [e3] at d3
          refine ⟨_, .inl (SqL.of (s3 _ _ d12)), ?_⟩
          have ew : (((List.map cv (bookOf cs)).length : Int) - 1).toNat = (bookOf cs).length - 1 := by
            rw [hlb]
            omega
          refine ⟨_, bitsFor ((bookOf cs).length - 1), by
            show ((bitsFor (((List.map cv (bookOf cs)).length : Int) - 1).toNat : Nat) : Int) = _
            rw [ew], bitsFor_100 (by omega), by simp; omega, d3, fun H4 p4 s4 hp4 d4 => ?_⟩
          have s14 := s12.trans (s3.trans s4)
          have d14 := s4 _ _ (s3 _ _ d12)
          have b1 := numberBytes_len (n := ((List.map cv (bookOf cs)).length : Int)) (by omega) (by rw [hlb]; omega)
          have b2 := cellsBytes_len hbf
          have b3 := packed_len (cs.map fun c => (((bookOf cs).idxOf c : Nat) : Int)) (bitsFor ((bookOf cs).length - 1))
          have b4 := byteCount_le (n := (cs.map fun c => (((bookOf cs).idxOf c : Nat) : Int)).length) (w := bitsFor ((bookOf cs).length - 1)) (by simp; omega) (bitsFor_100 (by omega))
          refine ⟨_, .inl (SqL.of d14), ⟨by omega, fun H5 p5 s5 hp5 d5 => ⟨bookOf cs, s5 _ _ d14, by omega, hbf, fun H6 p6 s6 hp6 d6 => ?_⟩⟩⟩
          refine ⟨_, _, s6 _ _ d5, d6, by rw [hlb] at b1; rw [sizeLine_eq]; simp only [List.length_map]; omega, fun t ht => ?_⟩
          have d46 := s6 _ _ (s5 _ _ d4)
          refine ⟨_, _, upd_same, (upd_ne (ne_of_none d46 ht)).trans d46, by rw [hlb] at b1; rw [sizeLine_eq]; simp only [List.length_append, List.length_map] at *; omega, fun t2 ht2 => ?_⟩
          rw [← List.map_append, ← List.map_append]
          unfold bookBytes at h
          rw [hlb]
          have s16 := s14.trans (s5.trans s6)
          have ht0 := s16.free ht
          refine NewI.upd h ?_ t2 ?_
          · rw [← List.map_append] at *
            exact same_new ht0 s16
          · rw [hlb, ← List.map_append] at ht2
            exact ht2
    · exact h.elim
end
end K90
namespace K90
open PySem PySem.Spec PyProof.Rows L2 RT RZ
def Cell.toInt : Cell → Int
  | .int i => i
  | _ => 0
def allInt (cs : List Cell) : Bool := cs.all Cell.isInt
def pressBy (way : Nat) (cs : List Cell) : Option (List Int) :=
  if way = 0 then some ((way : Int) :: numberBytes cs.length ++ cellsBytes cs) else
  if way = 1 then some ((way : Int) :: numberBytes cs.length ++ runBytes cs) else
  if way = 2 then some ((way : Int) :: numberBytes cs.length ++ bookBytes cs) else
  if allInt cs = true then (if way = 3 then some ((way : Int) :: numberBytes cs.length ++ baseBytes (cs.map Cell.toInt)) else some ((way : Int) :: numberBytes cs.length ++ stepBytes (cs.map Cell.toInt))) else none
/-- cells that may be pressed -/
structure Good (cs : List Cell) : Prop where
  pos : 0 < cs.length
  len : cs.length ≤ 64
  fit : ∀ c ∈ cs, c.fit
theorem cv_toInt {cs : List Cell} (h : allInt cs = true) : cs.map cv = (cs.map Cell.toInt).map V.int := by
  rw [List.map_map]
  refine List.map_congr_left fun c hc => ?_
  have := List.all_eq_true.mp h c hc
  cases c <;> first | rfl | cases this
theorem runBytes_len {cs : List Cell} (h : Good cs) : (runBytes cs).length ≤ 3000 := by
  unfold runBytes
  have h1 := runsOf_len cs
  have h2 := @runsBytes_len (runsOf cs) fun p hp => ⟨h.fit _ (runsOf_mem cs p hp).1, by have := (runsOf_mem cs p hp).2.2; have := h.len; omega⟩
  have h3 := h.len
  have h4 := numberBytes_len (n := ((runsOf cs).length : Int)) (by omega) (by omega)
  rw [List.length_append]
  omega
theorem bookBytes_len {cs : List Cell} (h : Good cs) : (bookBytes cs).length ≤ 3000 := by
  unfold bookBytes
  have h1 := book_len cs
  have h3 := h.len
  have h2 := cellsBytes_len (cs := bookOf cs) fun c hc => h.fit c (book_mem.mp hc)
  have h4 := numberBytes_len (n := ((bookOf cs).length : Int)) (by omega) (by omega)
  have b3 := packed_len (cs.map fun c => (((bookOf cs).idxOf c : Nat) : Int)) (bitsFor ((bookOf cs).length - 1))
  have b4 := byteCount_le (n := (cs.map fun c => (((bookOf cs).idxOf c : Nat) : Int)).length) (w := bitsFor ((bookOf cs).length - 1)) (by simp; omega) (bitsFor_100 (by omega))
  rw [List.length_append, List.length_append]
  omega
theorem fit_small {cs : List Cell} (h : Good cs) (ha : allInt cs = true) : ∀ n ∈ cs.map Cell.toInt, Small n := fun n hn => by
  obtain ⟨c, hc, rfl⟩ := List.mem_map.mp hn
  have h1 := h.fit c hc
  have h2 := List.all_eq_true.mp ha c hc
  cases c <;> first | exact h1 | cases h2
theorem baseBytes_len {ns : List Int} (h0 : 0 < ns.length) (hn : ns.length ≤ 100) (hs : ∀ n ∈ ns, Small n) : (baseBytes ns).length ≤ 3000 := by
  unfold baseBytes
  have hm := hs _ (minL_mem (List.ne_nil_of_length_pos h0))
  have hb : bitsFor (maxL (ns.map fun n => n - minL ns)).toNat ≤ 62 := bits_of_lt fun y hy => by
    obtain ⟨z, hz, rfl⟩ := List.mem_map.mp hy
    have := (hs z hz).2
    have := hm.1
    omega
  have h1 := smallBytes_len (ns := ns.map fun n => n - minL ns) (by simpa using hn) hb
  have h2 := numberBytes_len (n := minL ns) (by have := hm.1; omega) (by have := hm.2; omega)
  rw [List.length_append]
  omega
theorem minSteps {ns : List Int} (hs : ∀ n ∈ ns, Small n) : -2000000000000000000 < minL (stepsOf ns) ∧ minL (stepsOf ns) < 2000000000000000000 := by
  have hst := stepsOf_mem (ns := ns) (B := 1000000000000000000) (fun y hy => hs y hy)
  by_cases e : stepsOf ns = []
  · rw [e]
    decide
  · have := hst _ (minL_mem e)
    omega
theorem stepBits {ns : List Int} (hs : ∀ n ∈ ns, Small n) : bitsFor (maxL ((stepsOf ns).map fun n => n - minL (stepsOf ns))).toNat ≤ 62 := bits_of_lt fun y hy => by
  obtain ⟨z, hz, rfl⟩ := List.mem_map.mp hy
  have := stepsOf_mem (ns := ns) (B := 1000000000000000000) (fun y hy => hs y hy) z hz
  have := minSteps hs
  omega
theorem stepBytes_len {ns : List Int} (h0 : 0 < ns.length) (hn : ns.length ≤ 100) (hs : ∀ n ∈ ns, Small n) : (stepBytes ns).length ≤ 3000 := by
  unfold stepBytes
  have hm := minSteps hs
  have hl := stepsOf_len ns
  have h1 := smallBytes_len (ns := (stepsOf ns).map fun n => n - minL (stepsOf ns)) (by simp; omega) (stepBits hs)
  have h2 := numberBytes_len (n := minL (stepsOf ns)) (by omega) (by omega)
  have h3 : (numberBytes (ns.headD 0)).length ≤ 10 := by
    cases ns with
    | nil => simp at h0
    | cons a r =>
      have := hs a (by simp)
      exact numberBytes_len (by have := this.1; show _ < a; omega) (by have := this.2; show a < _; omega)
  rw [List.length_append, List.length_append]
  omega
theorem pressBy_len {way : Nat} {cs : List Cell} {bs : List Int} (h : Good cs) (hp : pressBy way cs = some bs) : bs.length ≤ 4000 := by
  have h3 := h.len
  have hn := numberBytes_len (n := (cs.length : Int)) (by omega) (by omega)
  have h5 := cellsBytes_len h.fit
  have h6 := runBytes_len h
  have h7 := bookBytes_len h
  unfold pressBy at hp
  split at hp
  · cases hp
    simp only [List.length_append, List.length_cons]
    omega
  · split at hp
    · cases hp
      simp only [List.length_append, List.length_cons]
      omega
    · split at hp
      · cases hp
        simp only [List.length_append, List.length_cons]
        omega
      · split at hp
        · rename_i ha
          have hs := fit_small h ha
          have h0 : 0 < (cs.map Cell.toInt).length := by simpa using h.pos
          have h1 : (cs.map Cell.toInt).length ≤ 100 := by simp; omega
          have h8 := baseBytes_len h0 h1 hs
          have h9 := stepBytes_len h0 h1 hs
          split at hp <;> cases hp <;> simp only [List.length_append, List.length_cons] <;> omega
        · cases hp
section
variable {P : Program} {w : World} {K : PySem.W.Frag} {mg : Str → Option Value} {base : Heap}
/-- a list of ints, or None -/
def NewO (H : Hp) (o : Option (List Int)) (Q : VK) : Prop := ok o (fun bs => NewI H bs Q) (∀ H', Same H H' → Q .non H')
def sp_press_by (K : PySem.W.Frag) : Sp := fun vs H Q E => match vs with
  | [.int y, .ref l] => ∃ (way : Nat) (cs : List Cell), y = way ∧ H l = some (.lst (cs.map cv)) ∧ Good cs ∧ NewO H (pressBy way cs) Q
  | _ => False
theorem sc_press_by : FnScope ["way", "cells", "head", "cell"] ["way", "cells"] (defScope s_press_by) := ⟨rfl, rfl, rfl, by decide +kernel, rfl, by decide +kernel, by decide +kernel⟩
theorem ok_press_by (T : Txt K mg) : Cal P w K mg base 10 "press_by" (sp_press_by K) := by
  obtain ⟨fd, F⟩ := D_press_by T
  refine cal_mk (g_press_by T) F sc_press_by (fun _ _ _ _ _ _ us hl => match us, hl with | [_, _], _ => rfl) (fun vs H Q E h => ?len) (fun cdv A outer s H vs Q E hr h => ⟨_, (pss_cons (ps_set (i := 2) sc_press_by.nd rfl (by first | exact Or.inl rfl | exact Or.inr rfl) (pe_op o_add (pe_lst (pa_cons (uv 0) pa_nil)) (u_call (ok_number_bytes T) hr (by decide) (pa_cons (pe_callB (q_len (K := K)) rfl (b_len T) (by decide +kernel) (pa_cons (uv 1) pa_nil)) pa_nil))))
      (pss_cons (us_if (ut_cmp (o_eq hr.units) (uv 0) pe_int (nomark _)) (pss_one (ps_ret (pe_op o_add (uv 2) (u_call (ok_all_bytes T) hr (by decide) (pa_cons (uv 1) pa_nil))))) pss_nil)
      (pss_cons (us_if (ut_cmp (o_eq hr.units) (uv 0) pe_int (nomark _)) (pss_one (ps_ret (pe_op o_add (uv 2) (u_call (ok_run_bytes T) hr (by decide) (pa_cons (uv 1) pa_nil))))) pss_nil)
      (pss_cons (us_if (ut_cmp (o_eq hr.units) (uv 0) pe_int (nomark _)) (pss_one (ps_ret (pe_op o_add (uv 2) (u_call (ok_book_bytes T) hr (by decide) (pa_cons (uv 1) pa_nil))))) pss_nil)
      (pss_cons (us_if (pt_not (ut_val (pe_callB (q_all (K := K)) rfl (b_all T) (by decide +kernel) (pa_cons (ue_lc (own := [("cell", 3)]) rfl sc_press_by.nd (j_list (uv 1)) rfl (fun _ _ _ _ _ => (pg_name (i := 3) sc_press_by.nd rfl (by first | exact Or.inl rfl | exact Or.inr rfl))) (fun _ _ _ _ _ => pts_nil) (fun _ _ _ _ _ => (u_call (ok_is_number T) hr (by decide) (pa_cons (uv 3) pa_nil)))) pa_nil)))) (pss_one (ps_ret pe_non)) pss_nil)
      (pss_cons (us_if (ut_cmp (o_eq hr.units) (uv 0) pe_int (nomark _)) (pss_one (ps_ret (pe_op o_add (uv 2) (u_call (ok_base_bytes T) hr (by decide) (pa_cons (uv 1) pa_nil))))) pss_nil)
      (pss_one (ps_ret (pe_op o_add (uv 2) (u_call (ok_step_bytes T) hr (by decide) (pa_cons (uv 1) pa_nil))))))))))), ?body⟩)
  case len => unfold sp_press_by at h; (split at h) <;> first | rfl | exact h.elim
  case body =>
    unfold sp_press_by at h
    split at h
    · rename_i y l
      obtain ⟨way, cs, rfl, hl, hg, h⟩ := h
      have h3 := hg.len
      have hn := numberBytes_len (n := (cs.length : Int)) (by omega) (by omega)
      have hcl := cellsBytes_len hg.fit
      have hrl := runBytes_len hg
      have hbl := bookBytes_len hg
      refine ⟨len1, fun p hp => ⟨_, .inl (SqL.of ((upd_ne (ne_of_none hl hp)).trans hl)), ⟨by rw [List.length_map]; omega, fun H1 q s1 hq d1 => ?_⟩⟩⟩
      rw [List.length_map] at d1
      refine ⟨_, _, s1 _ _ upd_same, d1, by rw [sizeLine_eq, List.length_map]; simp only [List.length_cons, List.length_nil]; omega, fun hd hhd => ?_⟩
      have s0 : Same H H1 := (same_new hp (Same.refl _)).trans s1
      have s2 : Same H (upd H1 hd (.lst ([V.int (way : Nat)] ++ (numberBytes cs.length).map V.int))) := same_new (s0.free hhd) s0
      have fin : ∀ (bs : List Int) (H3 : Hp) (b : Addr), pressBy way cs = some ((way : Int) :: numberBytes cs.length ++ bs) → bs.length ≤ 3000 → Same (upd H1 hd (.lst ([V.int (way : Nat)] ++ (numberBytes cs.length).map V.int))) H3 → H3 b = some (.lst (bs.map V.int)) →
          ∃ xs zs, H3 hd = some (.lst xs) ∧ H3 b = some (.lst zs) ∧ xs.length + zs.length ≤ sizeLine ∧ ∀ p, H3 p = none → Q (.ref p) (upd H3 p (.lst (xs ++ zs))) := fun bs H3 b e hb s3 d3 => by
        refine ⟨_, _, s3 _ _ upd_same, d3, by rw [sizeLine_eq]; simp only [List.length_append, List.length_map, List.length_cons, List.length_nil]; omega, fun t ht => ?_⟩
        rw [e] at h
        have h : NewI H ((way : Int) :: numberBytes cs.length ++ bs) Q := h
        have := NewI.upd h (s2.trans s3) t ht
        rw [List.map_append, List.map_cons] at this
        exact this
      have hl2 := s2 _ _ hl
      refine ⟨rfl, ⟨fun c => ?_, fun c => ⟨rfl, ⟨fun c1 => ?_, fun c1 => ⟨rfl, ⟨fun c2 => ?_, fun c2 => ?_⟩⟩⟩⟩⟩⟩
      · have c : way = 0 := by
          have := ieqT c
          omega
        exact ⟨cs, hl2, by omega, hg.fit, fun H3 b s3 hb d3 => fin _ H3 b (by unfold pressBy; rw [if_pos c]) (by omega) s3 d3⟩
      all_goals have c : ¬ way = 0 := fun z => ieqF c (by omega)
      · have c1 : way = 1 := by
          have := ieqT c1
          omega
        exact ⟨cs, hl2, by omega, hg.fit, fun H3 b s3 hb d3 => fin _ H3 b (by unfold pressBy; rw [if_neg c, if_pos c1]) hrl s3 d3⟩
      all_goals have c1 : ¬ way = 1 := fun z => ieqF c1 (by omega)
      · have c2 : way = 2 := by
          have := ieqT c2
          omega
        exact ⟨cs, hl2, by omega, hg.fit, fun H3 b s3 hb d3 => fin _ H3 b (by unfold pressBy; rw [if_neg c, if_neg c1, if_pos c2]) hbl s3 d3⟩
      have c2 : ¬ way = 2 := fun z => ieqF c2 (by omega)
      have hpb : pressBy way cs = if allInt cs = true then (if way = 3 then some ((way : Int) :: numberBytes cs.length ++ baseBytes (cs.map Cell.toInt)) else some ((way : Int) :: numberBytes cs.length ++ stepBytes (cs.map Cell.toInt))) else none := by
        unfold pressBy
        rw [if_neg c, if_neg c1, if_neg c2]
      refine ⟨⟨_, SqL.of hl2⟩, fun D hD => ?_⟩
      refine LcGoes.by (.list (xs := cs.map cv)) hD (fun i acc H' => acc = ((cs.take i).map Cell.isInt).map V.bl) rfl (fun i acc H' _ s' _ _ => SqL.of (s' _ _ hl2)) (fun i acc v H3 _ hi ha s3 d3 e3 it => ?_) (fun acc H3 ha s3 d3 e3 => ?_)
      · obtain ⟨hv, rfl⟩ := it
        rw [List.getElem?_map] at hv
        cases ep : cs[i]? with
        | none =>
          rw [ep] at hv
          cases hv
        | some x =>
          rw [ep] at hv
          cases hv
          have put : LcPut D (LcP _ D (fun i acc H' => acc = ((cs.take i).map Cell.isInt).map V.bl) (i + 1)) (V.bl x.isInt) H3 := LcP.put hD (lt_size hi (by omega)) ha s3 d3 (by
            rw [e3, take_snoc ep]
            simp)
          refine ⟨rfl, ⟨fun _ => ?_, (nomatch ·)⟩⟩
          cases x <;> exact put
      · have e4 : cs.take (cs.map cv).length = cs := List.take_of_length_le (by simp)
        rw [e4] at e3
        rw [e3] at d3
        have eall : (List.map Cell.isInt cs).all id = allInt cs := by
          rw [List.all_map]
          rfl
        refine ⟨_, SqL.of d3, ?_⟩
        rw [eall]
        refine ⟨fun ca => ?_, fun ca => ⟨rfl, ⟨fun c3 => ?_, fun c3 => ?_⟩⟩⟩
        · have ca : ¬ allInt cs = true := by simpa using ca
          rw [hpb, if_neg ca] at h
          exact h _ (s2.trans s3)
        all_goals have ca : allInt cs = true := by simpa using ca
        all_goals rw [if_pos ca] at hpb
        all_goals have hs := fit_small hg ca
        all_goals have h0 : 0 < (cs.map Cell.toInt).length := by simpa using hg.pos
        all_goals have h1 : (cs.map Cell.toInt).length ≤ 100 := by simp; omega
        all_goals have hl3 := s3 _ _ hl2
        all_goals rw [cv_toInt ca] at hl3
        · have c3 : way = 3 := by
            have := ieqT c3
            omega
          rw [if_pos c3] at hpb
          exact ⟨_, hl3, h0, h1, hs, fun H4 b s4 hb d4 => fin _ H4 b hpb (baseBytes_len h0 h1 hs) (s3.trans s4) d4⟩
        · have c3 : ¬ way = 3 := fun z => ieqF c3 (by omega)
          rw [if_neg c3] at hpb
          exact ⟨_, hl3, h0, h1, hs, fun H4 b s4 hb d4 => fin _ H4 b hpb (stepBytes_len h0 h1 hs) (s3.trans s4) d4⟩
    · exact h.elim
end
end K90
namespace K90
open PySem PySem.Spec PyProof.Rows L2 RT RZ
def rowsOf (cs : List Cell) : List (List Int) := (List.range 5).filterMap fun way => pressBy way cs
def pressed (cs : List Cell) : List Int := (firstMin List.length (rowsOf cs)).getD []
open Classical in
/-- what is new since H0, without D -/
noncomputable def hid (H0 : Hp) (D : Addr) (H : Hp) : Hp := fun b => if b = D ∨ H0 b ≠ none then none else H b
theorem hid_upd {H0 : Hp} {D : Addr} {H : Hp} {o : HO} : hid H0 D (upd H D o) = hid H0 D H := by
  funext b
  unfold hid
  by_cases h : b = D ∨ H0 b ≠ none
  · rw [if_pos h, if_pos h]
  · rw [if_neg h, if_neg h, upd_ne fun z => h (.inl z)]
theorem hid_same {H0 : Hp} {D : Addr} {H H' : Hp} (s : Same H H') : Same (hid H0 D H) (hid H0 D H') := fun b o e => by
  unfold hid at e ⊢
  by_cases h : b = D ∨ H0 b ≠ none
  · rw [if_pos h] at e
    cases e
  · rw [if_neg h] at e ⊢
    exact s _ _ e
theorem hid_le {H0 : Hp} {D : Addr} {H : Hp} : Same (hid H0 D H) H := fun b o e => by
  unfold hid at e
  by_cases h : b = D ∨ H0 b ≠ none
  · rw [if_pos h] at e
    cases e
  · rwa [if_neg h] at e
theorem hid_new {H0 : Hp} {D p : Addr} {H : Hp} {o : HO} (e : hid H0 D H p = some o) : H0 p = none := by
  unfold hid at e
  by_cases h : p = D ∨ H0 p ≠ none
  · rw [if_pos h] at e
    cases e
  · cases q : H0 p with
    | none => rfl
    | some x => exact absurd (.inr (by rw [q]; simp)) h
theorem hid_eq {H0 : Hp} {D p : Addr} {H : Hp} (h : p ≠ D) (h2 : H0 p = none) : hid H0 D H p = H p := by
  unfold hid
  rw [if_neg]
  rintro (z | z)
  · exact h z
  · exact z h2
/-- a list, or None, each -/
def ORows (H : Hp) : List V → List (Option (List Int)) → Prop
  | [], [] => True
  | v :: r, o :: q => (match o with
    | some bs => ∃ p, v = V.ref p ∧ H p = some (.lst (bs.map V.int))
    | none => v = V.non) ∧ ORows H r q
  | _, _ => False
theorem ORows.same {H H' : Hp} (s : Same H H') : ∀ {vs : List V} {os : List (Option (List Int))}, ORows H vs os → ORows H' vs os
  | [], [], _ => trivial
  | v :: r, some bs :: q, ⟨⟨p, e, d⟩, h⟩ => ⟨⟨p, e, s _ _ d⟩, ORows.same s h⟩
  | v :: r, none :: q, ⟨e, h⟩ => ⟨e, ORows.same s h⟩
  | [], _ :: _, h => h.elim
  | _ :: _, [], h => h.elim
theorem ORows.snoc {H : Hp} {v : V} {o : Option (List Int)} (d : match o with
    | some bs => ∃ p, v = V.ref p ∧ H p = some (.lst (bs.map V.int))
    | none => v = V.non) : ∀ {vs : List V} {os : List (Option (List Int))}, ORows H vs os → ORows H (vs ++ [v]) (os ++ [o])
  | [], [], _ => ⟨d, trivial⟩
  | v :: r, o' :: q, ⟨x, h⟩ => ⟨x, ORows.snoc d h⟩
  | [], _ :: _, h => h.elim
  | _ :: _, [], h => h.elim
theorem ORows.len {H : Hp} : ∀ {vs : List V} {os : List (Option (List Int))}, ORows H vs os → vs.length = os.length
  | [], [], _ => rfl
  | v :: r, o' :: q, ⟨x, h⟩ => by simp [ORows.len h]
  | [], _ :: _, h => h.elim
  | _ :: _, [], h => h.elim
theorem ORows.get {H : Hp} : ∀ {vs : List V} {os : List (Option (List Int))} {i : Nat} {v : V}, ORows H vs os → vs[i]? = some v → (∃ p bs, v = V.ref p ∧ H p = some (.lst (bs.map V.int)) ∧ os[i]? = some (some bs)) ∨ (v = V.non ∧ os[i]? = some none)
  | v :: r, some bs :: q, 0, v', ⟨⟨p, e, d⟩, h⟩, g => by
    have g : v = v' := by simpa using g
    subst g
    exact .inl ⟨p, bs, e, d, rfl⟩
  | v :: r, none :: q, 0, v', ⟨e, h⟩, g => by
    have g : v = v' := by simpa using g
    subst g
    exact .inr ⟨e, rfl⟩
  | v :: r, o :: q, i + 1, v', ⟨x, h⟩, g => by
    have := ORows.get (i := i) h (by simpa using g)
    simpa using this
  | [], [], _, _, _, g => by simp at g
  | [], _ :: _, _, _, h, _ => h.elim
  | _ :: _, [], _, _, h, _ => h.elim
/-- lists -/
def LRows (H : Hp) : List Addr → List (List Int) → Prop
  | [], [] => True
  | p :: r, bs :: q => H p = some (.lst (bs.map V.int)) ∧ LRows H r q
  | _, _ => False
theorem LRows.same {H H' : Hp} (s : Same H H') : ∀ {vs : List Addr} {os : List (List Int)}, LRows H vs os → LRows H' vs os
  | [], [], _ => trivial
  | v :: r, o :: q, ⟨d, h⟩ => ⟨s _ _ d, LRows.same s h⟩
  | [], _ :: _, h => h.elim
  | _ :: _, [], h => h.elim
theorem LRows.snoc {H : Hp} {p : Addr} {bs : List Int} (d : H p = some (.lst (bs.map V.int))) : ∀ {vs : List Addr} {os : List (List Int)}, LRows H vs os → LRows H (vs ++ [p]) (os ++ [bs])
  | [], [], _ => ⟨d, trivial⟩
  | v :: r, o' :: q, ⟨x, h⟩ => ⟨x, LRows.snoc d h⟩
  | [], _ :: _, h => h.elim
  | _ :: _, [], h => h.elim
theorem LRows.len {H : Hp} : ∀ {vs : List Addr} {os : List (List Int)}, LRows H vs os → vs.length = os.length
  | [], [], _ => rfl
  | v :: r, o' :: q, ⟨x, h⟩ => by simp [LRows.len h]
  | [], _ :: _, h => h.elim
  | _ :: _, [], h => h.elim
theorem LRows.all {H : Hp} : ∀ {vs : List Addr} {os : List (List Int)}, LRows H vs os → ∀ p ∈ vs, ∃ bs, bs ∈ os ∧ H p = some (.lst (bs.map V.int))
  | [], [], _, p, hp => by cases hp
  | v :: r, o' :: q, ⟨x, h⟩, p, hp => by
    rcases List.mem_cons.mp hp with rfl | hp
    · exact ⟨o', by simp, x⟩
    · obtain ⟨bs, h1, h2⟩ := LRows.all h p hp
      exact ⟨bs, by simp [h1], h2⟩
  | [], _ :: _, h, _, _ => h.elim
  | _ :: _, [], h, _, _ => h.elim
theorem first_fold {H : Hp} {g : Addr → Nat} : ∀ (r : List Addr) (q : List (List Int)) (p : Addr) (bs : List Int), LRows H r q → (∀ p ∈ r, ∀ xs, H p = some (.lst xs) → g p = xs.length) → g p = bs.length → H p = some (.lst (bs.map V.int)) →
    H (r.foldl (fun a y => if g y < g a then y else a) p) = some (.lst ((q.foldl (fun a y => if y.length < a.length then y else a) bs).map V.int))
  | [], [], p, bs, _, _, _, d => d
  | v :: r, o :: q, p, bs, ⟨x, h⟩, hg, hp, d => by
    have hv : g v = o.length := by
      have := hg v (by simp) _ x
      simpa using this
    rw [List.foldl_cons, List.foldl_cons, hv, hp]
    by_cases c : o.length < bs.length
    · rw [if_pos c, if_pos c]
      exact first_fold r q v o h (fun p hp => hg p (by simp [hp])) hv x
    · rw [if_neg c, if_neg c]
      exact first_fold r q p bs h (fun p hp => hg p (by simp [hp])) hp d
  | [], _ :: _, _, _, h, _, _, _ => h.elim
  | _ :: _, [], _, _, h, _, _, _ => h.elim
theorem first_rows {H : Hp} {g : Addr → Nat} {ps : List Addr} {os : List (List Int)} {q : Addr} (h : LRows H ps os) (hg : ∀ p ∈ ps, ∀ xs, H p = some (.lst xs) → g p = xs.length) (hq : firstMin g ps = some q) : H q = some (.lst (((firstMin List.length os).getD []).map V.int)) := by
  cases ps with
  | nil => cases hq
  | cons p r =>
    cases os with
    | nil => exact h.elim
    | cons o s =>
      have hq : some (r.foldl (fun a y => if g y < g a then y else a) p) = some q := hq
      cases hq
      have hp : g p = o.length := by
        have := hg p (by simp) _ h.1
        simpa using this
      exact first_fold r s p o h.2 (fun p hp => hg p (by simp [hp])) hp h.1
theorem rowsOf_len (cs : List Cell) : 3 ≤ (rowsOf cs).length := by
  unfold rowsOf
  have e : List.range 5 = [0, 1, 2, 3, 4] := rfl
  rw [e]
  have h0 : pressBy 0 cs = some ((0 : Int) :: numberBytes cs.length ++ cellsBytes cs) := rfl
  have h1 : pressBy 1 cs = some ((1 : Int) :: numberBytes cs.length ++ runBytes cs) := rfl
  have h2 : pressBy 2 cs = some ((2 : Int) :: numberBytes cs.length ++ bookBytes cs) := rfl
  simp only [List.filterMap_cons, h0, h1, h2, List.length_cons]
  omega
section
variable {P : Program} {w : World} {K : PySem.W.Frag} {mg : Str → Option Value} {base : Heap}
def sp_pressed (K : PySem.W.Frag) : Sp := fun vs H Q E => match vs with
  | [.ref l] => ∃ cs : List Cell, H l = some (.lst (cs.map cv)) ∧ Good cs ∧ NewI H (pressed cs) Q
  | _ => False
theorem sc_pressed : FnScope ["cells", "rows", "way", "row"] ["cells"] (defScope s_pressed) := ⟨rfl, rfl, rfl, by decide +kernel, rfl, by decide +kernel, by decide +kernel⟩
theorem ok_pressed (T : Txt K mg) : Cal P w K mg base 11 "pressed" (sp_pressed K) := by
  obtain ⟨fd, F⟩ := D_pressed T
  refine cal_mk (g_pressed T) F sc_pressed (fun _ _ _ _ _ _ us hl => match us, hl with | [_], _ => rfl) (fun vs H Q E h => ?len) (fun cdv A outer s H vs Q E hr h => ⟨_, (pss_cons (us_lc (i := 1) (own := [("way", 2)]) rfl sc_pressed.nd rfl rfl (sw_true rfl rfl rfl (by decide +kernel)) (j_rng (b_range T) (pa_cons (u_int (i_WAYS T)) pa_nil)) rfl (fun _ _ _ _ _ => (pg_name (i := 2) sc_pressed.nd rfl (by first | exact Or.inl rfl | exact Or.inr rfl))) (fun _ _ _ _ _ => pts_nil) (fun _ _ _ _ _ => (u_call (ok_press_by T) hr (by decide) (pa_cons (uv 2) (pa_cons (uv 0) pa_nil)))))
      (pss_cons (us_lc (i := 1) (own := [("row", 3)]) rfl sc_pressed.nd rfl rfl (sw_true rfl rfl rfl (by decide +kernel)) (j_list (uv 1)) rfl (fun _ _ _ _ _ => (pg_name (i := 3) sc_pressed.nd rfl (by first | exact Or.inl rfl | exact Or.inr rfl))) (fun _ _ _ _ _ => (pts_one (ut_cmp o_isnot (uv 3) pe_non (nomark _)))) (fun _ _ _ _ _ => (uv 3)))
      (pss_one (ps_ret (u_minLen (b_min T) (b_len T) (pa_cons (uv 1) pa_nil)))))), ?body⟩)
  case len => unfold sp_pressed at h; (split at h) <;> first | rfl | exact h.elim
  case body =>
    unfold sp_pressed at h
    split at h
    · rename_i l
      obtain ⟨cs, hl, hg, h⟩ := h
      refine ⟨by decide, by decide, fun D hD => ?_⟩
      refine LcGoes.by .range hD (fun i acc H' => ORows (hid H D H') acc ((List.range i).map fun way => pressBy way cs)) trivial (fun _ _ _ _ _ _ _ => trivial) (fun i acc v H2 _ hi ha s2 d2 e2 it => ?_) (fun acc H2 ha s2 d2 e2 => ?_)
      · obtain ⟨rfl, rfl⟩ := it
        have hi : i < 5 := hi
        refine ⟨rfl, ⟨fun _ => ⟨i, cs, by omega, s2 _ _ hl, hg, ?_⟩, (nomatch ·)⟩⟩
        have put : ∀ (v : V) (H3 : Hp), Same H2 H3 → (match pressBy i cs with
            | some bs => ∃ p, v = V.ref p ∧ hid H D H3 p = some (.lst (bs.map V.int))
            | none => v = V.non) → LcPut D (LcP H D (fun i acc H' => ORows (hid H D H') acc ((List.range i).map fun way => pressBy way cs)) (i + 1)) v H3 := fun v H3 s3 hv => by
          have d3 := s3 _ _ d2
          refine LcP.put hD (by rw [sizeLine_eq]; omega) ha (s2.trans s3) d3 ?_
          rw [List.range_succ, List.map_append, hid_upd]
          exact ORows.snoc hv (ORows.same (hid_same s3) e2)
        unfold NewO
        cases e : pressBy i cs with
        | none =>
          rw [e] at put
          exact fun H3 s3 => put _ H3 s3 rfl
        | some bs =>
          rw [e] at put
          exact fun H3 p s3 hp d3 => put _ H3 s3 ⟨p, rfl, (hid_eq (Ne.symm (ne_of_none d2 hp)) (s2.free hp)).trans d3⟩
      · have e2 : ORows (hid H D H2) acc ((List.range 5).map fun way => pressBy way cs) := e2
        refine ⟨⟨_, SqL.of d2⟩, fun D2 hD2 => ?_⟩
        have hlen := ORows.len e2
        refine LcGoes.by (.list (xs := acc)) hD2 (fun i out H' => ∃ ps : List Addr, out = ps.map V.ref ∧ LRows (hid H D2 H') ps (((List.range 5).map fun way => pressBy way cs).take i |>.filterMap id)) ⟨[], rfl, trivial⟩ (fun i out H' _ s' _ _ => SqL.of (s' _ _ d2)) (fun i out v H3 _ hi ha3 s3 d3 e3 it => ?_) (fun out H3 ha3 s3 d3 e3 => ?_)
        · obtain ⟨hv, rfl⟩ := it
          obtain ⟨ps, rfl, hps⟩ := e3
          rcases ORows.get e2 hv with ⟨p, bs, rfl, dp, eo⟩ | ⟨rfl, eo⟩
          · refine ⟨rfl, ⟨fun _ => ?_, fun x => by simp at x⟩⟩
            refine LcP.put hD2 (by rw [sizeLine_eq]; simp at hlen; omega) ha3 s3 d3 ⟨ps ++ [p], by simp, ?_⟩
            rw [hid_upd, take_snoc eo, List.filterMap_append]
            refine LRows.snoc ?_ hps
            have dp2 := hid_le _ _ dp
            have hpD : p ≠ D2 := ne_of_none dp2 hD2
            rw [hid_eq hpD (hid_new dp)]
            exact s3 _ _ dp2
          · refine ⟨rfl, ⟨fun x => absurd x (by decide), fun _ => ?_⟩⟩
            refine LcP.skip ha3 s3 d3 ⟨ps, rfl, ?_⟩
            rw [take_snoc eo, List.filterMap_append]
            simpa using hps
        · obtain ⟨ps, rfl, hps⟩ := e3
          have et : ((List.range 5).map fun way => pressBy way cs).take acc.length = (List.range 5).map fun way => pressBy way cs := List.take_of_length_le (by omega)
          rw [et, List.filterMap_map] at hps
          have hps : LRows (hid H D2 H3) ps (rowsOf cs) := hps
          have hps3 := LRows.same hid_le hps
          have hpl := LRows.len hps
          have h3 := rowsOf_len cs
          refine ⟨ps, d3, by omega, fun p hp => ?_, fun g hgp q hq => ?_⟩
          · obtain ⟨bs, _, d⟩ := LRows.all hps3 p hp
            exact ⟨_, d⟩
          · have dq := first_rows hps (fun p hp xs e => hgp p hp xs (hid_le _ _ e)) hq
            exact h _ q (s2.trans s3) (hid_new dq) (hid_le _ _ dq)
    · exact h.elim
end
end K90
namespace K90
open PySem PySem.Spec PyProof.Rows L2 RT RZ
def unpressed (row : List Int) : Option (List Cell) := (takeHead row).bind fun x => (cellsBy x.1 x.2.1 (row.drop x.2.2)).bind fun y =>
  if x.2.2 + y.2 < row.length then none else if y.1.length ≠ x.2.1 then none else if isStretch y.1 = false then none else if pressBy x.1 y.1 ≠ some row then none else some y.1
theorem takeHead_le {l : List Int} {x : Nat × Nat × Nat} (h : takeHead l = some x) : x.1 ≤ 4 ∧ 1 ≤ x.2.1 ∧ x.2.1 ≤ 64 ∧ x.2.2 ≤ l.length := by
  unfold takeHead at h
  split at h
  · cases h
  · split at h
    · cases h
    · rw [Option.map_eq_some_iff] at h
      obtain ⟨y, e, rfl⟩ := h
      have := takeCount_le e
      simp
      omega
theorem takeBook_le {m : Nat} {l : List Int} {x : List Cell × List Int × Nat} (h : takeBook m l = some x) : x.2.2 ≤ l.length ∧ (∀ c ∈ x.1, c.tok) ∧ x.1.length ≤ m ∧ x.2.1.length = m ∧ ∀ y ∈ x.2.1, 0 ≤ y := by
  unfold takeBook at h
  rw [Option.bind_eq_some_iff] at h
  obtain ⟨u, e1, h⟩ := h
  rw [Option.bind_eq_some_iff] at h
  obtain ⟨v, e2, h⟩ := h
  rw [Option.map_eq_some_iff] at h
  obtain ⟨t, e3, rfl⟩ := h
  have a1 := takeCount_le e1
  have a2 := takeCells_le _ _ _ e2
  have a3 := takePacked_mem e3
  have a4 := takePacked_le e3
  rw [List.length_drop] at a2 a4
  dsimp only at *
  exact ⟨by omega, a2.2.2, by omega, a3.1, fun y hy => (a3.2 y hy).1⟩
theorem pick_tok {book : List Cell} (h : ∀ c ∈ book, c.tok) (p : Int) : (pick book p).tok := by
  unfold pick
  cases e : book[p.toNat]? with
  | none => trivial
  | some c => exact h c (List.mem_of_getElem? e)
theorem steps_int : ∀ (ns : List Int) (l c : Int), ∀ x ∈ steps l c ns, x.isInt = true ∧ x.tok
  | [], _, _, x, h => by cases h
  | n :: r, l, c, x, h => by
    rcases List.mem_cons.mp h with rfl | h
    · exact ⟨rfl, trivial⟩
    · exact steps_int r l _ x h
theorem steps_len : ∀ (ns : List Int) (l c : Int), (steps l c ns).length = ns.length
  | [], _, _ => rfl
  | n :: r, l, c => by simp [steps, steps_len r]
theorem unruns_len {m : Nat} : ∀ (rs : List (Cell × Nat)), (∀ p ∈ rs, p.2 ≤ m) → (unruns rs).length ≤ rs.length * m
  | [], _ => by simp [unruns]
  | p :: r, h => by
    have a := h p (by simp)
    have b := unruns_len r fun q hq => h q (by simp [hq])
    unfold unruns at b ⊢
    simp only [List.map_cons, List.flatten_cons, List.length_append, List.length_replicate, List.length_cons]
    rw [Nat.add_mul]
    omega
theorem cellsBy_le {way many : Nat} {l : List Int} {x : List Cell × Nat} (hm1 : 1 ≤ many) (hm : many ≤ 64) (h : cellsBy way many l = some x) : x.2 ≤ l.length ∧ (∀ c ∈ x.1, c.tok) ∧ x.1.length ≤ 10000 ∧ (3 ≤ way → allInt x.1 = true) := by
  unfold cellsBy at h
  split at h
  · have := takeCells_le _ _ _ h
    exact ⟨this.1, this.2.2, by omega, fun z => by omega⟩
  · split at h
    · unfold runCells at h
      rw [Option.map_eq_some_iff] at h
      obtain ⟨y, e, rfl⟩ := h
      have := takeRuns_le e
      refine ⟨this.1, fun c hc => ?_, ?_, fun z => by omega⟩
      · unfold unruns at hc
        obtain ⟨l', hl', hc⟩ := List.mem_flatten.mp hc
        obtain ⟨p, hp, rfl⟩ := List.mem_map.mp hl'
        rw [List.eq_of_mem_replicate hc]
        exact (this.2.2.2 p hp).1
      · have h2 := unruns_len (m := 64) y.1 fun p hp => Nat.le_trans (this.2.2.2 p hp).2.2 hm
        have h3 : y.1.length * 64 ≤ 64 * 64 := Nat.mul_le_mul (by omega) (Nat.le_refl _)
        dsimp only
        omega
    · split at h
      · unfold bookCells at h
        rw [Option.map_eq_some_iff] at h
        obtain ⟨y, e, rfl⟩ := h
        have := takeBook_le e
        refine ⟨this.1, fun c hc => ?_, ?_, fun z => by omega⟩
        · dsimp only at hc
          split at hc
          · obtain ⟨p, hp, rfl⟩ := List.mem_map.mp hc
            exact pick_tok this.2.1 p
          · cases hc
        · dsimp only
          split
          · simp
            omega
          · simp
      · split at h
        · unfold baseCells at h
          rw [Option.bind_eq_some_iff] at h
          obtain ⟨u, e1, h⟩ := h
          rw [Option.map_eq_some_iff] at h
          obtain ⟨y, e2, rfl⟩ := h
          have a1 := takeNumber_le e1
          have a2 := takeSmall_mem e2
          rw [List.length_drop] at a2
          refine ⟨by dsimp only; omega, fun c hc => ?_, by simp; omega, fun _ => ?_⟩
          · obtain ⟨p, hp, rfl⟩ := List.mem_map.mp hc
            trivial
          · unfold allInt
            rw [List.all_eq_true]
            intro c hc
            obtain ⟨p, hp, rfl⟩ := List.mem_map.mp hc
            rfl
        · unfold stepCells at h
          rw [Option.bind_eq_some_iff] at h
          obtain ⟨u, e1, h⟩ := h
          rw [Option.bind_eq_some_iff] at h
          obtain ⟨v, e3, h⟩ := h
          rw [Option.map_eq_some_iff] at h
          obtain ⟨y, e2, rfl⟩ := h
          have a1 := takeNumber_le e1
          have a3 := takeNumber_le e3
          have a2 := takeSmall_mem e2
          rw [List.length_drop] at a2 a3
          refine ⟨by dsimp only; omega, fun c hc => ?_, by simp [steps_len]; omega, fun _ => ?_⟩
          · rcases List.mem_cons.mp hc with rfl | hc
            · trivial
            · exact (steps_int _ _ _ c hc).2
          · unfold allInt
            rw [List.all_eq_true]
            intro c hc
            rcases List.mem_cons.mp hc with rfl | hc
            · rfl
            · exact (steps_int _ _ _ c hc).1
theorem stretch_fit {cs : List Cell} (h : isStretch cs = true) (ht : ∀ c ∈ cs, c.tok) : ∀ c ∈ cs, c.fit := fun c hc => by
  unfold isStretch at h
  rw [Bool.or_eq_true] at h
  have hct := ht c hc
  cases c with
  | non => trivial
  | str l => exact hct
  | int i =>
    rcases h with h | h
    · have := List.all_eq_true.mp h _ hc
      have : (if i < 0 then -i else i) < 1000000000000000000 := by simpa [Cell.isOf] using this
      show -1000000000000000000 < i ∧ i < 1000000000000000000
      split at this <;> omega
    · have := List.all_eq_true.mp h _ hc
      simp [Cell.isOf] at this
theorem pressBy_some {way : Nat} {cs : List Cell} (h : 3 ≤ way → allInt cs = true) : ∃ bs, pressBy way cs = some bs := by
  unfold pressBy
  split
  · exact ⟨_, rfl⟩
  · split
    · exact ⟨_, rfl⟩
    · split
      · exact ⟨_, rfl⟩
      · rw [if_pos (h (by omega))]
        split <;> exact ⟨_, rfl⟩
def NewCs (H : Hp) (cs : List Cell) (Q : VK) : Prop := ∀ H' p, Same H H' → H p = none → H' p = some (.lst (cs.map cv)) → Q (.ref p) H'
section
variable {P : Program} {w : World} {K : PySem.W.Frag} {mg : Str → Option Value} {base : Heap}
def sp_unpressed (K : PySem.W.Frag) : Sp := fun vs H Q E => match vs with
  | [.ref r] => ∃ bs : List Int, NN bs ∧ RowAt H r bs ∧ ok (unpressed bs) (fun cs => NewCs H cs Q) (Refuse K H E)
  | _ => False
theorem sc_unpressed : FnScope ["row", "way", "many", "at", "cells"] ["row"] (defScope s_unpressed) := ⟨rfl, rfl, rfl, by decide +kernel, rfl, by decide +kernel, by decide +kernel⟩
theorem ok_unpressed (T : Txt K mg) : Cal P w K mg base 11 "unpressed" (sp_unpressed K) := by
  obtain ⟨fd, F⟩ := D_unpressed T
  refine cal_mk (g_unpressed T) F sc_unpressed (fun _ _ _ _ _ _ us hl => match us, hl with | [_], _ => rfl) (fun vs H Q E h => ?len) (fun cdv A outer s H vs Q E hr h => ⟨_, (pss_cons (ps_asg (u_callX (ok_take_head T) (takes_of rfl rfl rfl rfl) hr (by decide) (pa_cons (uv 0) pa_nil)) (q_tup (K := K) (n := 3) rfl (hg_cons (pg_name (i := 1) sc_unpressed.nd rfl (by first | exact Or.inl rfl | exact Or.inr rfl)) (hg_cons (pg_name (i := 2) sc_unpressed.nd rfl (by first | exact Or.inl rfl | exact Or.inr rfl)) (hg_cons (pg_name (i := 3) sc_unpressed.nd rfl (by first | exact Or.inl rfl | exact Or.inr rfl)) hg_nil)))))
      (pss_cons (ps_asg (u_callX (ok_cells_by T) (takes_of rfl rfl rfl rfl) hr (by decide) (pa_cons (uv 1) (pa_cons (uv 0) (pa_cons (uv 3) (pa_cons (uv 2) pa_nil))))) (q_tup (K := K) (n := 2) rfl (hg_cons (pg_name (i := 4) sc_unpressed.nd rfl (by first | exact Or.inl rfl | exact Or.inr rfl)) (hg_cons (pg_name (i := 3) sc_unpressed.nd rfl (by first | exact Or.inl rfl | exact Or.inr rfl)) hg_nil))))
      (pss_cons (us_if (ut_cmp o_lt (uv 3) (pe_callB (q_len (K := K)) rfl (b_len T) (by decide +kernel) (pa_cons (uv 0) pa_nil)) (nomark _)) (pss_one (us_bad T (ok_BadBytes T) hr (by decide) (takes_of rfl rfl rfl rfl))) pss_nil)
      (pss_cons (us_if (PW.pt (uw_or (ut_cmp (o_ne hr.units) (pe_callB (q_len (K := K)) rfl (b_len T) (by decide +kernel) (pa_cons (uv 4) pa_nil)) (uv 2) (nomark _)) (uw_or (pt_not (ut_val (u_call (ok_is_stretch T) hr (by decide) (pa_cons (uv 4) pa_nil)))) (pw_or1 (ut_cmp (o_ne hr.units) (u_call (ok_press_by T) hr (by decide) (pa_cons (uv 1) (pa_cons (uv 4) pa_nil))) (pe_callTy (q_list (K := K)) rfl (b_list T) (by decide +kernel) (pa_cons (uv 0) pa_nil)) (nomark _)))))) (pss_one (us_bad T (ok_BadBytes T) hr (by decide) (takes_of rfl rfl rfl rfl))) pss_nil)
      (pss_one (ps_ret (uv 4))))))), ?body⟩)
  case len => unfold sp_unpressed at h; (split at h) <;> first | rfl | exact h.elim
  case body =>
    unfold sp_unpressed at h
    split at h
    · rename_i r
      obtain ⟨bs, hnn, hR, h⟩ := h
      unfold unpressed at h
      rw [ok_bind] at h
      refine ⟨bs, hnn, hR, ok_imp h (fun x ex hx H1 p s1 hp d1 => ?_) id⟩
      have hx1 := takeHead_le ex
      obtain ⟨way, many, n⟩ := x
      dsimp only at hx hx1 d1
      rw [ok_bind] at hx
      refine ⟨_, SqT.of d1, rfl, ?_⟩
      refine ⟨way, bs, n, many, rfl, rfl, rfl, hx1.2.1, by omega, hx1.2.2.2, hnn, hR.same s1, ok_imp hx (fun y ey hy H2 p2 l2 s2 hp2 hl2 dl2 d2 => ?_) fun h => Refuse.mono h s1⟩
      have hy1 := cellsBy_le hx1.2.1 hx1.2.2.1 ey
      obtain ⟨cs, k⟩ := y
      dsimp only at hy hy1 dl2 d2
      refine ⟨_, SqT.of d2, rfl, ?_⟩
      have s12 := s1.trans s2
      refine ⟨_, (hR.same s12).sq, ⟨fun c => ?_, fun c => ?_⟩⟩
      · have c := of_decide_eq_true c
        rw [List.length_map] at c
        rw [if_pos (by omega)] at hy
        exact Refuse.mono hy s12
      · have c := of_decide_eq_false c
        rw [List.length_map] at c
        rw [if_neg (by omega)] at hy
        refine ⟨_, .inl (SqL.of dl2), ⟨rfl, ⟨fun c1 => ?_, fun c1 => ?_⟩⟩⟩
        · have c1 := ineT c1
          rw [List.length_map] at c1
          rw [if_pos (by omega)] at hy
          exact ⟨fun _ => Refuse.mono hy s12, (nomatch ·)⟩
        · have c1 := ineF c1
          rw [List.length_map] at c1
          rw [if_neg (by omega)] at hy
          refine ⟨cs, dl2, by omega, hy1.2.1, fun H3 s3 => ⟨fun c2 => ?_, fun c2 => ?_⟩⟩
          · have c2 : isStretch cs = false := by simpa using c2
            rw [if_pos c2] at hy
            exact ⟨fun _ => Refuse.mono hy (s12.trans s3), (nomatch ·)⟩
          · have c2 : isStretch cs = true := by simpa using c2
            rw [if_neg (by rw [c2]; decide)] at hy
            have hg : Good cs := ⟨by omega, by omega, stretch_fit c2 hy1.2.1⟩
            have s13 := s12.trans s3
            refine ⟨way, cs, rfl, s3 _ _ dl2, hg, ?_⟩
            obtain ⟨row, erow⟩ := pressBy_some (way := way) (cs := cs) hy1.2.2.2
            unfold NewO
            rw [erow] at hy ⊢
            intro H4 q s4 hq d4
            have s14 := s13.trans s4
            refine ⟨_, (hR.same s14).sq, fun t ht => ?_⟩
            have hqt : q ≠ t := ne_of_none d4 ht
            refine ⟨row, bs, (upd_ne hqt).trans d4, upd_same, ?_⟩
            have ht0 := s14.free ht
            refine ⟨fun c3 => ?_, fun c3 => ?_⟩
            · have c3 : row ≠ bs := by simpa using c3
              rw [if_pos (fun z => c3 (Option.some.inj z))] at hy
              exact Refuse.mono hy (same_new ht0 s14)
            · have c3 : row = bs := by simpa using c3
              rw [if_neg (fun z => z (congrArg some c3))] at hy
              refine hy _ l2 (same_new ht0 s14) (s1.free hl2) ?_
              have := s4 _ _ (s3 _ _ dl2)
              exact (upd_ne (ne_of_none this ht)).trans this
    · exact h.elim
end
end K90
namespace K90
open PySem PySem.Spec PyProof.Rows L2 RT RZ
/-- a row whose cells are cs -/
structure Reads1 (bs : List Int) (cs : List Cell) (way n : Nat) : Prop where
  head : takeHead bs = some (way, cs.length, n)
  cells : ∃ k, cellsBy way cs.length (bs.drop n) = some (cs, k)
  un : unpressed bs = some cs
theorem reads_of {bs : List Int} {cs : List Cell} (h : unpressed bs = some cs) : (∃ way n, Reads1 bs cs way n) ∧ Good cs ∧ isStretch cs = true ∧ ∃ way n, way ≤ 4 ∧ takeHead bs = some (way, cs.length, n) ∧ pressBy way cs = some bs := by
  have h0 := h
  unfold unpressed at h
  rw [Option.bind_eq_some_iff] at h
  obtain ⟨⟨way, many, n⟩, e1, h⟩ := h
  rw [Option.bind_eq_some_iff] at h
  obtain ⟨⟨cs', k⟩, e2, h⟩ := h
  have a1 := takeHead_le e1
  dsimp only at h e2 a1
  have a2 := cellsBy_le a1.2.1 a1.2.2.1 e2
  split at h
  · cases h
  · split at h
    · cases h
    · split at h
      · cases h
      · split at h
        · cases h
        · rename_i h1 h2 h3 h4
          cases h
          have el : cs.length = many := by
            by_cases z : cs.length = many
            · exact z
            · exact absurd z h2
          subst el
          have hs : isStretch cs = true := by
            cases q : isStretch cs with
            | true => rfl
            | false => exact absurd q h3
          have hp : pressBy way cs = some bs := by
            by_cases z : pressBy way cs = some bs
            · exact z
            · exact absurd z h4
          exact ⟨⟨way, n, e1, ⟨k, e2⟩, h0⟩, ⟨by omega, by omega, stretch_fit hs a2.2.1⟩, hs, way, n, a1.1, e1, hp⟩
section
variable {P : Program} {w : World} {K : PySem.W.Frag} {mg : Str → Option Value} {base : Heap}
def sp_count_in (K : PySem.W.Frag) : Sp := fun vs H Q E => match vs with
  | [.ref r] => ∃ (bs : List Int) (cs : List Cell), NN bs ∧ RowAt H r bs ∧ unpressed bs = some cs ∧ ∀ H', Same H H' → Q (.int (cs.length : Nat)) H'
  | _ => False
theorem sc_count_in : FnScope ["row"] ["row"] (defScope s_count_in) := ⟨rfl, rfl, rfl, by decide +kernel, rfl, by decide +kernel, by decide +kernel⟩
theorem ok_count_in (T : Txt K mg) : Cal P w K mg base 7 "count_in" (sp_count_in K) := by
  obtain ⟨fd, F⟩ := D_count_in T
  refine cal_mk (g_count_in T) F sc_count_in (fun _ _ _ _ _ _ us hl => match us, hl with | [_], _ => rfl) (fun vs H Q E h => ?len) (fun cdv A outer s H vs Q E hr h => ⟨_, (pss_one (ps_ret (pe_ix (q_seq (K := K)) (u_call (ok_take_head T) hr (by decide) (pa_cons (uv 0) pa_nil)) pe_int (fun _ _ => rfl)))), ?body⟩)
  case len => unfold sp_count_in at h; (split at h) <;> first | rfl | exact h.elim
  case body =>
    unfold sp_count_in at h
    split at h
    · rename_i r
      obtain ⟨bs, cs, hnn, hR, hu, h⟩ := h
      obtain ⟨⟨way, n, hr1⟩, hg, hs, _⟩ := reads_of hu
      refine ⟨bs, hnn, hR, ?_⟩
      rw [hr1.head]
      intro H1 p s1 hp d1
      exact ⟨_, .int (cs.length : Nat), .inr (SqT.of d1), rfl, h _ s1⟩
    · exact h.elim
def sp_cell_in (K : PySem.W.Frag) : Sp := fun vs H Q E => match vs with
  | [.ref r, .int a] => ∃ (bs : List Int) (cs : List Cell) (k : Nat) (c : Cell), a = k ∧ cs[k]? = some c ∧ NN bs ∧ RowAt H r bs ∧ unpressed bs = some cs ∧ ∀ H', Same H H' → Q (cv c) H'
  | _ => False
theorem sc_cell_in : FnScope ["row", "k"] ["row", "k"] (defScope s_cell_in) := ⟨rfl, rfl, rfl, by decide +kernel, rfl, by decide +kernel, by decide +kernel⟩
theorem ok_cell_in (T : Txt K mg) : Cal P w K mg base 12 "cell_in" (sp_cell_in K) := by
  obtain ⟨fd, F⟩ := D_cell_in T
  refine cal_mk (g_cell_in T) F sc_cell_in (fun _ _ _ _ _ _ us hl => match us, hl with | [_, _], _ => rfl) (fun vs H Q E h => ?len) (fun cdv A outer s H vs Q E hr h => ⟨_, (pss_cons (us_if (pt_not (ut_chain o_le o_lt pe_int (uv 1) (u_call (ok_count_in T) hr (by decide) (pa_cons (uv 0) pa_nil)))) (pss_one ps_never) pss_nil)
      (pss_one (ps_ret (pe_ix (q_seq (K := K)) (u_call (ok_unpressed T) hr (by decide) (pa_cons (uv 0) pa_nil)) (uv 1) (fun _ _ => rfl))))), ?body⟩)
  case len => unfold sp_cell_in at h; (split at h) <;> first | rfl | exact h.elim
  case body =>
    unfold sp_cell_in at h
    split at h
    · rename_i r a
      obtain ⟨bs, cs, k, c, rfl, hk, hnn, hR, hu, h⟩ := h
      have hkl := (List.getElem?_eq_some_iff.mp hk).1
      have rest : ∀ H1, Same H H1 → sp_unpressed K [.ref r] H1 (fun x H2 => uIx K x (.int (k : Nat)) H2 Q) E0 := fun H1 s1 => by
        refine ⟨bs, hnn, hR.same s1, ?_⟩
        rw [hu]
        intro H2 p s2 hp d2
        exact ⟨_, cv c, .inl (SqL.of d2), atN (by rw [List.getElem?_map, hk]; rfl), h _ (s1.trans s2)⟩
      refine ⟨fun c1 => ⟨bs, cs, hnn, hR, hu, fun H1 s1 => ⟨fun c2 => ?_, fun c2 => ?_⟩⟩, fun c1 => ?_⟩
      · have c2 : ¬ (k : Int) < (cs.length : Nat) := by simpa using c2
        omega
      · exact rest H1 s1
      · have c1 : ¬ (0 : Int) ≤ k := of_decide_eq_false c1
        omega
    · exact h.elim
/-! ### tests -/
/-- a test -/
inductive Test where
  | open
  | among (vs : List Cell)
  | op (s : Str) (v : Cell)
def signs6 : List Str := ["=", "<>", "<", "<=", ">", ">="]
/-- two of a kind -/
def mate : Cell → Cell → Prop
  | .int _, .int _ => True
  | .str _, .str _ => True
  | _, _ => False
def ltC : Cell → Cell → Bool
  | .int i, .int j => decide (i < j)
  | .str l, .str m => decide (l < m)
  | _, _ => false
def isSo (c : Cell) (s : Str) (v : Cell) : Bool :=
  if s = "=" then decide (c = v) else if s = "<>" then !decide (c = v) else if s = "<" then ltC c v else if s = "<=" then !ltC v c else if s = ">" then ltC v c else !ltC c v
def meets (c : Cell) : Test → Bool
  | .open => decide (c = .non)
  | .among vs => if c = .non then false else vs.any fun v => decide (v = c)
  | .op s v => if c = .non then false else isSo c s v
/-- the test may be asked of the cell -/
def Test.fits (c : Cell) : Test → Prop
  | .op s v => s ∈ signs6 ∧ (c = .non ∨ mate c v)
  | _ => True
def TestAt (H : Hp) (p : Addr) : Test → Prop
  | .open => H p = some (.tup [.str "open"])
  | .among vs => ∃ l, H p = some (.tup [.str "among", .ref l]) ∧ H l = some (.lst (vs.map cv))
  | .op s v => H p = some (.tup [.str s, cv v])
theorem TestAt.same {H H' : Hp} {p : Addr} {t : Test} (h : TestAt H p t) (s : Same H H') : TestAt H' p t := by
  cases t with
  | «open» => exact s _ _ h
  | among vs =>
    obtain ⟨l, h1, h2⟩ := h
    exact ⟨l, s _ _ h1, s _ _ h2⟩
  | op x v => exact s _ _ h
theorem ndl (i j : Int) : (!decide (j < i)) = decide (i ≤ j) := by
  rw [← decide_not]
  exact decide_eq_decide.mpr Int.not_lt
def sp_is_so (K : PySem.W.Frag) : Sp := fun vs H Q E => match vs with
  | [x, .str s, y] => ∃ c v, x = cv c ∧ y = cv v ∧ mate c v ∧ Q (.bl (isSo c s v)) H
  | _ => False
theorem seqT {a b : Str} (h : (false != decide (V.str a = V.str b)) = true) : a = b := by simpa using h
theorem seqF {a b : Str} (h : (false != decide (V.str a = V.str b)) = false) : a ≠ b := by simpa using h
theorem cps_arr (l : List Nat) : (⟨l.toArray⟩ : Str).cps.toList = l := by simp
theorem uCmp_cv {g : Int → Int → Bool} {f : List Nat → List Nat → Bool} {c v : Cell} {H : Hp} {Q : VK} (hm : mate c v) (b : Bool) (hi : ∀ i j, c = .int i → v = .int j → b = g i j) (hs : ∀ i j, c = .str i → v = .str j → b = f i j) (q : Q (.bl b) H) : uCmp g f (cv c) (cv v) H Q := by
  cases c with
  | non => exact hm.elim
  | int i =>
    cases v with
    | int j =>
      rw [hi i j rfl rfl] at q
      exact q
    | _ => exact hm.elim
  | str i =>
    cases v with
    | str j =>
      rw [hs i j rfl rfl] at q
      show Q (.bl (f (⟨i.toArray⟩ : Str).cps.toList (⟨j.toArray⟩ : Str).cps.toList)) H
      rw [cps_arr, cps_arr]
      exact q
    | _ => exact hm.elim
theorem sc_is_so : FnScope ["cell", "sign", "value"] ["cell", "sign", "value"] (defScope s_is_so) := ⟨rfl, rfl, rfl, by decide +kernel, rfl, by decide +kernel, by decide +kernel⟩
theorem ok_is_so (T : Txt K mg) : Cal P w K mg base 3 "is_so" (sp_is_so K) := by
  obtain ⟨fd, F⟩ := D_is_so T
  refine cal_mk (g_is_so T) F sc_is_so (fun _ _ _ _ _ _ us hl => match us, hl with | [_, _, _], _ => rfl) (fun vs H Q E h => ?len) (fun cdv A outer s H vs Q E hr h => ⟨_, (pss_cons (us_if (ut_cmp (o_eq hr.units) (uv 1) pe_str (nomark _)) (pss_one (ps_ret (pe_cmpR (o_eq hr.units) (uv 0) (uv 2) (nomark _)))) pss_nil)
      (pss_cons (us_if (ut_cmp (o_eq hr.units) (uv 1) pe_str (nomark _)) (pss_one (ps_ret (pe_cmpR (o_ne hr.units) (uv 0) (uv 2) (nomark _)))) pss_nil)
      (pss_cons (us_if (ut_cmp (o_eq hr.units) (uv 1) pe_str (nomark _)) (pss_one (ps_ret (pe_cmpR o_lt (uv 0) (uv 2) (nomark _)))) pss_nil)
      (pss_cons (us_if (ut_cmp (o_eq hr.units) (uv 1) pe_str (nomark _)) (pss_one (ps_ret (pe_cmpR o_le (uv 0) (uv 2) (nomark _)))) pss_nil)
      (pss_cons (us_if (ut_cmp (o_eq hr.units) (uv 1) pe_str (nomark _)) (pss_one (ps_ret (pe_cmpR o_gt (uv 0) (uv 2) (nomark _)))) pss_nil)
      (pss_one (ps_ret (pe_cmpR o_ge (uv 0) (uv 2) (nomark _))))))))), ?body⟩)
  case len => unfold sp_is_so at h; (split at h) <;> first | rfl | exact h.elim
  case body =>
    unfold sp_is_so at h
    split at h
    · rename_i x s y
      obtain ⟨c, v, rfl, rfl, hm, h⟩ := h
      unfold isSo at h
      refine ⟨rfl, ⟨fun c0 => ?_, fun c0 => ⟨rfl, ⟨fun c1 => ?_, fun c1 => ⟨rfl, ⟨fun c2 => ?_, fun c2 => ⟨rfl, ⟨fun c3 => ?_, fun c3 => ⟨rfl, ⟨fun c4 => ?_, fun c4 => ?_⟩⟩⟩⟩⟩⟩⟩⟩⟩⟩
      · rw [if_pos (seqT c0)] at h
        exact uEq_cv (by simpa using h)
      all_goals rw [if_neg (seqF c0)] at h
      · rw [if_pos (seqT c1)] at h
        exact uEq_cv (by simpa using h)
      all_goals rw [if_neg (seqF c1)] at h
      · rw [if_pos (seqT c2)] at h
        exact uCmp_cv (g := fun i j => decide (i < j)) (f := fun a b => decide (a < b)) hm _ (fun i j e1 e2 => by subst e1 e2; rfl) (fun i j e1 e2 => by subst e1 e2; rfl) h
      all_goals rw [if_neg (seqF c2)] at h
      · rw [if_pos (seqT c3)] at h
        exact uCmp_cv (g := fun i j => decide (i ≤ j)) (f := fun a b => !decide (b < a)) hm _ (fun i j e1 e2 => by subst e1 e2; exact ndl _ _) (fun i j e1 e2 => by subst e1 e2; rfl) h
      all_goals rw [if_neg (seqF c3)] at h
      · rw [if_pos (seqT c4)] at h
        exact uCmp_cv (g := fun i j => decide (j < i)) (f := fun a b => decide (b < a)) hm _ (fun i j e1 e2 => by subst e1 e2; rfl) (fun i j e1 e2 => by subst e1 e2; rfl) h
      · rw [if_neg (seqF c4)] at h
        exact uCmp_cv (g := fun i j => decide (j ≤ i)) (f := fun a b => !decide (a < b)) hm _ (fun i j e1 e2 => by subst e1 e2; exact ndl _ _) (fun i j e1 e2 => by subst e1 e2; rfl) h
    · exact h.elim
def sp_meets (K : PySem.W.Frag) : Sp := fun vs H Q E => match vs with
  | [x, .ref p] => ∃ c t, x = cv c ∧ TestAt H p t ∧ t.fits c ∧ Q (.bl (meets c t)) H
  | _ => False
theorem inV_cv (c : Cell) (vs : List Cell) : inV (cv c) (vs.map cv) = vs.any fun v => decide (v = c) := by
  unfold inV
  rw [List.any_map]
  congr 1
  funext v
  have hb : ∀ b : Bool, ∀ (p : Prop) [Decidable p], (b = true ↔ p) → b = decide p := fun b p _ h => by
    cases b
    · rw [decide_eq_false]
      exact fun z => nomatch h.mpr z
    · rw [decide_eq_true (h.mp rfl)]
  refine hb _ _ ?_
  cases v <;> cases c <;> simp [eqV, cv]
theorem flat_cv (c : Cell) : flatV (cv c) = true := by cases c <;> rfl
theorem sc_meets : FnScope ["cell", "test"] ["cell", "test"] (defScope s_meets) := ⟨rfl, rfl, rfl, by decide +kernel, rfl, by decide +kernel, by decide +kernel⟩
theorem ok_meets (T : Txt K mg) : Cal P w K mg base 4 "meets" (sp_meets K) := by
  obtain ⟨fd, F⟩ := D_meets T
  refine cal_mk (g_meets T) F sc_meets (fun _ _ _ _ _ _ us hl => match us, hl with | [_, _], _ => rfl) (fun vs H Q E h => ?len) (fun cdv A outer s H vs Q E hr h => ⟨_, (pss_cons (us_if (ut_cmp (o_eq hr.units) (pe_ix (q_seq (K := K)) (uv 1) pe_int (fun _ _ => rfl)) pe_str (nomark _)) (pss_one (ps_ret (pe_cmpR o_is (uv 0) pe_non (nomark _)))) pss_nil)
      (pss_cons (us_if (ut_cmp o_is (uv 0) pe_non (nomark _)) (pss_one (ps_ret pe_bl)) pss_nil)
      (pss_cons (us_if (ut_cmp (o_eq hr.units) (pe_ix (q_seq (K := K)) (uv 1) pe_int (fun _ _ => rfl)) pe_str (nomark _)) (pss_one (ps_ret (pe_cmpR (q_inL (K := K)) (uv 0) (pe_ix (q_seq (K := K)) (uv 1) pe_int (fun _ _ => rfl)) (by rfl)))) pss_nil)
      (pss_one (ps_ret (u_call (ok_is_so T) hr (by decide) (pa_cons (uv 0) (pa_cons (pe_ix (q_seq (K := K)) (uv 1) pe_int (fun _ _ => rfl)) (pa_cons (pe_ix (q_seq (K := K)) (uv 1) pe_int (fun _ _ => rfl)) pa_nil))))))))), ?body⟩)
  case len => unfold sp_meets at h; (split at h) <;> first | rfl | exact h.elim
  case body =>
    unfold sp_meets at h
    split at h
    · rename_i x p
      obtain ⟨c, t, rfl, ht, hf, h⟩ := h
      have hcn : (false != decide (cv c = V.non)) = decide (c = .non) := by
        cases c <;> simp [cv]
      cases t with
      | «open» =>
        refine ⟨_, .str "open", .inr (SqT.of ht), rfl, ⟨rfl, ⟨fun _ => ?_, fun x => absurd x (by decide)⟩⟩⟩
        show Q (.bl (false != decide (cv c = V.non))) H
        rw [hcn]
        exact h
      | among vs =>
        obtain ⟨l, h1, h2⟩ := ht
        refine ⟨_, .str "among", .inr (SqT.of h1), rfl, ⟨rfl, ⟨fun x => absurd x (by decide), fun _ => ?_⟩⟩⟩
        unfold meets at h
        dsimp only at h
        refine ⟨fun e => ?_, fun e => ?_⟩
        · rw [hcn] at e
          rw [if_pos (of_decide_eq_true e)] at h
          exact h
        · rw [hcn] at e
          rw [if_neg (of_decide_eq_false e)] at h
          refine ⟨_, .str "among", .inr (SqT.of h1), rfl, ⟨rfl, ⟨fun _ => ?_, fun x => absurd x (by decide)⟩⟩⟩
          refine ⟨_, .ref l, .inr (SqT.of h1), rfl, ⟨_, SqL.of h2, flat_cv c, ?_, ?_⟩⟩
          · rw [List.all_map, List.all_eq_true]
            exact fun v _ => flat_cv v
          · rw [inV_cv]
            exact h
      | op s v =>
        have hs : s ∈ signs6 := hf.1
        have hne : (false != decide (V.str s = V.str "open")) = false ∧ (false != decide (V.str s = V.str "among")) = false := by
          revert hs
          unfold signs6
          simp only [List.mem_cons, List.not_mem_nil, or_false]
          rintro (rfl | rfl | rfl | rfl | rfl | rfl) <;> decide
        unfold meets at h
        dsimp only at h
        refine ⟨_, .str s, .inr (SqT.of ht), rfl, ⟨rfl, ⟨fun x => ?_, fun _ => ?_⟩⟩⟩
        · rw [hne.1] at x
          cases x
        · refine ⟨fun e => ?_, fun e => ?_⟩
          · rw [hcn] at e
            rw [if_pos (of_decide_eq_true e)] at h
            exact h
          · rw [hcn] at e
            rw [if_neg (of_decide_eq_false e)] at h
            refine ⟨_, .str s, .inr (SqT.of ht), rfl, ⟨rfl, ⟨fun x => ?_, fun _ => ?_⟩⟩⟩
            · rw [hne.2] at x
              cases x
            · refine ⟨_, .str s, .inr (SqT.of ht), rfl, ⟨_, cv v, .inr (SqT.of ht), rfl, ⟨c, v, rfl, rfl, ?_, h⟩⟩⟩
              exact hf.2.resolve_left (of_decide_eq_false e)
    · exact h.elim
/-- a mask -/
def maskOf (t : Test) (cs : List Cell) : List Int := cs.map fun c => if meets c t = true then 1 else 0
theorem maskOf_snoc (t : Test) (cs : List Cell) (c : Cell) : maskOf t (cs ++ [c]) = maskOf t cs ++ [if meets c t = true then 1 else 0] := by simp [maskOf]
/-- all but m is kept -/
def SB (m : Addr) (H H' : Hp) : Prop := ∀ b o, b ≠ m → H b = some o → H' b = some o
theorem SB.same {m : Addr} {H H1 H2 : Hp} (a : SB m H H1) (s : Same H1 H2) : SB m H H2 := fun b o hb e => s _ _ (a b o hb e)
theorem SB.put {m : Addr} {H H1 : Hp} {o : HO} (a : SB m H H1) : SB m H (upd H1 m o) := fun b u hb e => (upd_ne hb).trans (a b u hb e)
theorem SB.new {m : Addr} {H0 H H1 : Hp} (s : Same H0 H) (h0 : H0 m = none) (a : SB m H H1) : Same H0 H1 := fun b o e => a b o (ne_of_none e h0) (s _ _ e)
theorem unruns_mem {rs : List (Cell × Nat)} {p : Cell × Nat} (h : p ∈ rs) (hp : 1 ≤ p.2) : p.1 ∈ unruns rs := by
  unfold unruns
  refine List.mem_flatten.mpr ⟨List.replicate p.2 p.1, List.mem_map.mpr ⟨p, h, rfl⟩, ?_⟩
  exact List.mem_replicate.mpr ⟨by omega, rfl⟩
theorem maskOf_rep (t : Test) (c : Cell) (n : Nat) : maskOf t (List.replicate n c) = List.replicate n (if meets c t = true then 1 else 0) := by simp [maskOf]
theorem maskOf_app (t : Test) (a b : List Cell) : maskOf t (a ++ b) = maskOf t a ++ maskOf t b := by simp [maskOf]
theorem maskOf_len (t : Test) (a : List Cell) : (maskOf t a).length = a.length := by simp [maskOf]
def sp_kept_in (K : PySem.W.Frag) : Sp := fun vs H Q E => match vs with
  | [.ref r, .ref p] => ∃ (bs : List Int) (cs : List Cell) (t : Test), NN bs ∧ RowAt H r bs ∧ unpressed bs = some cs ∧ TestAt H p t ∧ (∀ c ∈ cs, t.fits c) ∧ (∀ n x, takeHead bs = some (2, cs.length, n) → takeBook cs.length (bs.drop n) = some x → ∀ c ∈ x.1, t.fits c) ∧
      ∀ H' q l n, Same H H' → H q = none → H l = none → H' l = some (.lst ((maskOf t cs).map V.int)) → H' q = some (.tup [.ref l, .int n]) → Q (.ref q) H'
  | _ => False
theorem sc_kept_in : FnScope ["row", "test", "way", "many", "at", "mask", "runs", "cell", "length", "book", "places", "kept", "place"] ["row", "test"] (defScope s_kept_in) := ⟨rfl, rfl, rfl, by decide +kernel, rfl, by decide +kernel, by decide +kernel⟩
theorem ok_kept_in (T : Txt K mg) : Cal P w K mg base 11 "kept_in" (sp_kept_in K) := by
  obtain ⟨fd, F⟩ := D_kept_in T
  refine cal_mk (g_kept_in T) F sc_kept_in (fun _ _ _ _ _ _ us hl => match us, hl with | [_, _], _ => rfl) (fun vs H Q E h => ?len) (fun cdv A outer s H vs Q E hr h => ⟨_, (pss_cons (ps_asg (u_call (ok_take_head T) hr (by decide) (pa_cons (uv 0) pa_nil)) (q_tup (K := K) (n := 3) rfl (hg_cons (pg_name (i := 2) sc_kept_in.nd rfl (by first | exact Or.inl rfl | exact Or.inr rfl)) (hg_cons (pg_name (i := 3) sc_kept_in.nd rfl (by first | exact Or.inl rfl | exact Or.inr rfl)) (hg_cons (pg_name (i := 4) sc_kept_in.nd rfl (by first | exact Or.inl rfl | exact Or.inr rfl)) hg_nil)))))
      (pss_cons (ps_set (i := 5) sc_kept_in.nd rfl (by first | exact Or.inl rfl | exact Or.inr rfl) (pe_lst pa_nil))
      (pss_cons (us_if (ut_cmp (o_eq hr.units) (uv 2) pe_int (nomark _)) (pss_cons (ps_set (i := 6) sc_kept_in.nd rfl (by first | exact Or.inl rfl | exact Or.inr rfl) (pe_ix (q_seq (K := K)) (u_call (ok_take_runs T) hr (by decide) (pa_cons (uv 0) (pa_cons (uv 4) (pa_cons (uv 3) pa_nil)))) pe_int (fun _ _ => rfl)))
      (pss_cons (us_for (passes_of rfl) rfl (j_list (uv 6)) (q_tup (K := K) (n := 2) rfl (hg_cons (pg_name (i := 7) sc_kept_in.nd rfl (by first | exact Or.inl rfl | exact Or.inr rfl)) (hg_cons (pg_name (i := 8) sc_kept_in.nd rfl (by first | exact Or.inl rfl | exact Or.inr rfl)) hg_nil))) (pss_one (ps_expr (pe_bm PySem.F.plainAttrs_list PySem.F.slot_list_extend PySem.F.type_list_extend m_extend (uv 5) (pa_cons (pe_op o_mul (pe_lst (pa_cons (pe_callTy c_int rfl (b_int T) (by decide +kernel) (pa_cons (u_call (ok_meets T) hr (by decide) (pa_cons (uv 7) (pa_cons (uv 1) pa_nil))) pa_nil)) pa_nil)) (uv 8)) pa_nil)))))
      (pss_one (ps_ret (pe_tup (pa_cons (uv 5) (pa_cons (pe_callB (q_len (K := K)) rfl (b_len T) (by decide +kernel) (pa_cons (uv 6) pa_nil)) pa_nil))))))) pss_nil)
      (pss_cons (us_if (ut_cmp (o_eq hr.units) (uv 2) pe_int (nomark _)) (pss_cons (ps_asg (u_call (ok_take_book T) hr (by decide) (pa_cons (uv 0) (pa_cons (uv 4) (pa_cons (uv 3) pa_nil)))) (q_tup (K := K) (n := 3) rfl (hg_cons (pg_name (i := 9) sc_kept_in.nd rfl (by first | exact Or.inl rfl | exact Or.inr rfl)) (hg_cons (pg_name (i := 10) sc_kept_in.nd rfl (by first | exact Or.inl rfl | exact Or.inr rfl)) (hg_cons (pg_name (i := 4) sc_kept_in.nd rfl (by first | exact Or.inl rfl | exact Or.inr rfl)) hg_nil)))))
      (pss_cons (ps_set (i := 11) sc_kept_in.nd rfl (by first | exact Or.inl rfl | exact Or.inr rfl) (ue_lc (own := [("cell", 7)]) rfl sc_kept_in.nd (j_list (uv 9)) rfl (fun _ _ _ _ _ => (pg_name (i := 7) sc_kept_in.nd rfl (by first | exact Or.inl rfl | exact Or.inr rfl))) (fun _ _ _ _ _ => pts_nil) (fun _ _ _ _ _ => (pe_callTy c_int rfl (b_int T) (by decide +kernel) (pa_cons (u_call (ok_meets T) hr (by decide) (pa_cons (uv 7) (pa_cons (uv 1) pa_nil))) pa_nil)))))
      (pss_one (ps_ret (pe_tup (pa_cons (ue_lc (own := [("place", 12)]) rfl sc_kept_in.nd (j_list (uv 10)) rfl (fun _ _ _ _ _ => (pg_name (i := 12) sc_kept_in.nd rfl (by first | exact Or.inl rfl | exact Or.inr rfl))) (fun _ _ _ _ _ => pts_nil) (fun _ _ _ _ _ => (pe_ix (q_seq (K := K)) (uv 11) (uv 12) (fun _ _ => rfl)))) (pa_cons (pe_callB (q_len (K := K)) rfl (b_len T) (by decide +kernel) (pa_cons (uv 9) pa_nil)) pa_nil))))))) pss_nil)
      (pss_one (ps_ret (pe_tup (pa_cons (ue_lc (own := [("cell", 7)]) rfl sc_kept_in.nd (j_list (pe_ix (q_seq (K := K)) (u_call (ok_cells_by T) hr (by decide) (pa_cons (uv 2) (pa_cons (uv 0) (pa_cons (uv 4) (pa_cons (uv 3) pa_nil))))) pe_int (fun _ _ => rfl))) rfl (fun _ _ _ _ _ => (pg_name (i := 7) sc_kept_in.nd rfl (by first | exact Or.inl rfl | exact Or.inr rfl))) (fun _ _ _ _ _ => pts_nil) (fun _ _ _ _ _ => (pe_callTy c_int rfl (b_int T) (by decide +kernel) (pa_cons (u_call (ok_meets T) hr (by decide) (pa_cons (uv 7) (pa_cons (uv 1) pa_nil))) pa_nil)))) (pa_cons (uv 3) pa_nil))))))))), ?body⟩)
  case len => unfold sp_kept_in at h; (split at h) <;> first | rfl | exact h.elim
  case body =>
    unfold sp_kept_in at h
    split at h
    · rename_i r p
      obtain ⟨bs, cs, t, hnn, hR, hu, ht, hf, hfb, h⟩ := h
      obtain ⟨⟨way, n, hr1⟩, hg, hs, way', n', hw', hh', _⟩ := reads_of hu
      have hww : way' = way := by
        have := hr1.head
        rw [hh'] at this
        injection this with this
        injection this
      subst hww
      obtain ⟨k, hk⟩ := hr1.cells
      have hhd := takeHead_le hr1.head
      dsimp only at hhd
      refine ⟨bs, hnn, hR, ?_⟩
      rw [hr1.head]
      intro H1 q1 s1 hq1 d1
      refine ⟨_, SqT.of d1, rfl, ⟨by decide, fun mask hm => ?_⟩⟩
      have s1m : Same H (upd H1 mask (.lst [])) := same_new (s1.free hm) s1
      unfold cellsBy at hk
      refine ⟨rfl, ⟨fun c1 => ?_, fun c1 => ⟨rfl, ⟨fun c2 => ?_, fun c2 => ?_⟩⟩⟩⟩
      · have c1 : way' = 1 := by
          have := ieqT c1
          omega
        subst c1
        rw [if_neg (by decide), if_pos rfl] at hk
        unfold runCells at hk
        rw [Option.map_eq_some_iff] at hk
        obtain ⟨⟨rs, k2⟩, e1, e2⟩ := hk
        have e2 : unruns rs = cs := by
          injection e2
        have hrs := takeRuns_le e1
        dsimp only at hrs
        refine ⟨bs, n, cs.length, rfl, rfl, by omega, hR.same s1m, ?_⟩
        rw [e1]
        intro H2 q l ps s2 hq hl dl ra d2
        refine ⟨_, .ref l, .inr (SqT.of d2), rfl, ⟨⟨_, SqL.of dl⟩, ?_⟩⟩
        dsimp only at ra dl d2
        have hpl := RunsAt.len ra
        have s12 := s1m.trans s2
        have dm := s2 _ _ (upd_same (H := H1) (a := mask) (o := .lst []))
        have hlm : l ≠ mask := fun z => by rw [z, upd_same] at hl; cases hl
        refine ForGoes.by (.list (xs := ps)) (fun i σ H' => ∃ (x y : Option V), σ = [some (.ref r), some (.ref p), some (.int (1 : Nat)), some (.int (cs.length : Nat)), some (.int (n : Nat)), some (.ref mask), some (.ref l), x, y, none, none, none, none] ∧ SB mask H2 H' ∧ H' mask = some (.lst ((maskOf t (unruns (rs.take i))).map V.int)) ∧ (unruns (rs.take i)).length ≤ i * 64) ⟨none, none, rfl, fun b o _ h => h, dm, Nat.zero_le _⟩ ?_ ?_ ?_
        · rintro i _ H3 _ ⟨x, y, rfl, s3, d3, l3⟩
          exact SqL.of (s3 _ _ hlm dl)
        · rintro i v _ H3 _ hi ⟨x, y, rfl, s3, d3, l3⟩ ⟨hv, rfl⟩
          obtain ⟨ta, pr, rfl, dt, hpr⟩ := RunsAt.get ra hv
          have hmem := hrs.2.2.2 pr (List.mem_of_getElem? hpr)
          have htm : ta ≠ mask := fun z => by rw [z, dm] at dt; cases dt
          have hcs : pr.1 ∈ cs := by
            rw [← e2]
            exact unruns_mem (List.mem_of_getElem? hpr) hmem.2.1
          have s13 := SB.new s12 (s1.free hm) s3
          refine ⟨_, SqT.of (s3 _ _ htm dt), rfl, ⟨ty_l d3, ⟨pr.1, t, rfl, ht.same s13, hf _ hcs, ⟨len1, fun q2 hq2 => ⟨_, upd_same, by show -(2 ^ 63) ≤ (pr.2 : Int); omega, by show (pr.2 : Int) < 2 ^ 63; omega, ?_, fun q3 hq3 => ?_⟩⟩⟩⟩⟩
          · rw [sizeLine_eq, Int.toNat_natCast]
            simp
            omega
          · rw [Int.toNat_natCast, rep_flat] at *
            have hmq : mask ≠ q2 := ne_of_none d3 hq2
            have dq := (upd_ne (o := .lst [V.int (if meets pr.1 t = true then 1 else 0)]) hmq).trans d3
            have hmq3 : mask ≠ q3 := ne_of_none dq hq3
            refine ⟨_, _, (upd_ne hmq3).trans dq, upd_same, ?_, ?_⟩
            · rw [sizeLine_eq, List.length_map, maskOf_len, List.length_replicate]
              have : i * 64 ≤ 64 * 64 := Nat.mul_le_mul (by omega) (Nat.le_refl _)
              omega
            · have hq20 : H3 q3 = none := (same_new hq2 (Same.refl _)).free hq3
              refine ⟨some (cv pr.1), some (.int (pr.2 : Nat)), rfl, SB.put (SB.same (SB.same s3 (same_new hq2 (Same.refl _))) (same_new hq3 (Same.refl _))), ?_, ?_⟩
              · rw [upd_same, take_snoc hpr, unruns_snoc, maskOf_app, maskOf_rep]
                simp
              · rw [take_snoc hpr, unruns_snoc, List.length_append, List.length_replicate]
                have := hmem.2.2
                omega
        · rintro _ H3 ⟨x, y, rfl, s3, d3, l3⟩
          have et : rs.take ps.length = rs := List.take_of_length_le (by omega)
          rw [et, e2] at d3
          have s13 := SB.new s12 (s1.free hm) s3
          refine ⟨_, .inl (SqL.of (s3 _ _ hlm dl)), ⟨len2, fun q3 hq3 => ?_⟩⟩
          exact h _ q3 mask _ (same_new (s13.free hq3) s13) (s13.free hq3) (s1.free hm) ((upd_ne (ne_of_none d3 hq3)).trans d3) upd_same
      · have c2 : way' = 2 := by
          have := ieqT c2
          omega
        subst c2
        rw [if_neg (by decide), if_neg (by decide), if_pos rfl] at hk
        unfold bookCells at hk
        rw [Option.map_eq_some_iff] at hk
        obtain ⟨⟨book, places, k2⟩, e1, e2⟩ := hk
        have hbk := takeBook_le e1
        have hfb := hfb n _ hr1.head e1
        dsimp only at e2 hbk hfb
        injection e2 with e2 e3
        have hpos := hg.pos
        have call : places.all (fun p => decide (p < (book.length : Int))) = true := by
          cases q : places.all (fun p => decide (p < (book.length : Int))) with
          | true => rfl
          | false =>
            rw [if_neg (by rw [q]; decide)] at e2
            rw [← e2] at hpos
            cases hpos
        rw [if_pos call] at e2
        refine ⟨bs, n, cs.length, rfl, rfl, by omega, by omega, hR.same s1m, ?_⟩
        rw [e1]
        intro H2 q l lp s2 hq hl hlp dl dlp d2
        have s12 := s1m.trans s2
        refine ⟨_, SqT.of d2, rfl, ⟨⟨_, SqL.of dl⟩, fun D hD => ?_⟩⟩
        refine LcGoes.by (.list (xs := book.map cv)) hD (fun i acc H' => acc = (maskOf t (book.take i)).map V.int) rfl (fun i acc H' _ s' _ _ => SqL.of (s' _ _ dl)) (fun i acc v H3 _ hi ha s3 d3 e3 it => ?_) (fun acc H3 ha s3 d3 e3 => ?_)
        · obtain ⟨hv, rfl⟩ := it
          rw [List.getElem?_map] at hv
          cases ep : book[i]? with
          | none =>
            rw [ep] at hv
            cases hv
          | some c =>
            rw [ep] at hv
            cases hv
            refine ⟨rfl, ⟨fun _ => ⟨c, t, rfl, ht.same (s12.trans s3), hfb c (List.mem_of_getElem? ep), ?_⟩, (nomatch ·)⟩⟩
            refine LcP.put hD (lt_size hi (by omega)) ha s3 d3 ?_
            rw [e3, take_snoc ep, maskOf_snoc]
            simp
        · have e4 : book.take (book.map cv).length = book := List.take_of_length_le (by simp)
          rw [e4] at e3
          rw [e3] at d3
          have dlp3 := s3 _ _ dlp
          refine ⟨⟨_, SqL.of dlp3⟩, fun D2 hD2 => ?_⟩
          refine LcGoes.by (.list (xs := places.map V.int)) hD2 (fun i acc H' => acc = (maskOf t ((places.take i).map (pick book))).map V.int) rfl (fun i acc H' _ s' _ _ => SqL.of (s' _ _ dlp3)) (fun i acc v H4 _ hi ha s4 d4 e5 it => ?_) (fun acc H4 ha s4 d4 e5 => ?_)
          · obtain ⟨hv, rfl⟩ := it
            rw [List.getElem?_map] at hv
            cases ep : places[i]? with
            | none =>
              rw [ep] at hv
              cases hv
            | some pl =>
              rw [ep] at hv
              cases hv
              have hpm := List.mem_of_getElem? ep
              have hp0 := hbk.2.2.2.2 pl hpm
              have hpl : pl < (book.length : Int) := of_decide_eq_true (List.all_eq_true.mp call pl hpm)
              obtain ⟨j, rfl⟩ := Int.eq_ofNat_of_zero_le hp0
              have hj : j < book.length := by omega
              obtain ⟨b, hb⟩ := get_lt hj
              have epick : pick book (j : Int) = b := by
                unfold pick
                rw [Int.toNat_natCast, hb]
                rfl
              refine ⟨rfl, ⟨fun _ => ?_, (nomatch ·)⟩⟩
              refine ⟨_, .int (if meets b t = true then 1 else 0), .inl (SqL.of (s4 _ _ d3)), atN (by unfold maskOf; rw [List.map_map, List.getElem?_map, hb]; rfl), ?_⟩
              refine LcP.put hD2 (lt_size hi (by omega)) ha s4 d4 ?_
              rw [e5, take_snoc ep, List.map_append, maskOf_app, List.map_append]
              simp [epick, maskOf]
          · have e6 : places.take (places.map V.int).length = places := List.take_of_length_le (by simp)
            rw [e6, e2] at e5
            rw [e5] at d4
            have s14 := s12.trans (s3.trans s4)
            have dl4 := s4 _ _ (s3 _ _ dl)
            refine ⟨_, .inl (SqL.of dl4), ⟨len2, fun q3 hq3 => ?_⟩⟩
            exact h _ q3 D2 _ (same_new (s14.free hq3) s14) (s14.free hq3) (s12.free (s3.free hD2)) ((upd_ne (ne_of_none d4 hq3)).trans d4) upd_same
      · have c1' : ¬ way' = 1 := fun z => ieqF c1 (by omega)
        have c2' : ¬ way' = 2 := fun z => ieqF c2 (by omega)
        refine ⟨way', bs, n, cs.length, rfl, rfl, rfl, by omega, by omega, by omega, hnn, hR.same s1m, ?_⟩
        have hk' := hr1.cells
        obtain ⟨k3, hk3⟩ := hk'
        rw [hk3]
        intro H2 q l s2 hq hl dl d2
        have s12 := s1m.trans s2
        refine ⟨_, .ref l, .inr (SqT.of d2), rfl, ⟨⟨_, SqL.of dl⟩, fun D hD => ?_⟩⟩
        have hgl := hg.len
        refine LcGoes.by (.list (xs := cs.map cv)) hD (fun i acc H' => acc = (maskOf t (cs.take i)).map V.int) rfl (fun i acc H' _ s' _ _ => SqL.of (s' _ _ dl)) (fun i acc v H3 _ hi ha s3 d3 e3 it => ?_) (fun acc H3 ha s3 d3 e3 => ?_)
        · obtain ⟨hv, rfl⟩ := it
          rw [List.getElem?_map] at hv
          cases ep : cs[i]? with
          | none =>
            rw [ep] at hv
            cases hv
          | some c =>
            rw [ep] at hv
            cases hv
            refine ⟨rfl, ⟨fun _ => ⟨c, t, rfl, ht.same (s12.trans s3), hf c (List.mem_of_getElem? ep), ?_⟩, (nomatch ·)⟩⟩
            refine LcP.put hD (lt_size hi (by omega)) ha s3 d3 ?_
            rw [e3, take_snoc ep, maskOf_snoc]
            simp
        · have e4 : cs.take (cs.map cv).length = cs := List.take_of_length_le (by simp)
          rw [e4] at e3
          rw [e3] at d3
          have s13 := s12.trans s3
          refine ⟨len2, fun q3 hq3 => ?_⟩
          exact h _ q3 D _ (same_new (s13.free hq3) s13) (s13.free hq3) (s12.free hD) ((upd_ne (ne_of_none d3 hq3)).trans d3) upd_same
    · exact h.elim
end
end K90
namespace K90
theorem takeHead_pre {way n : Nat} (hw : way ≤ 4) (h1 : 1 ≤ n) (h2 : n ≤ 64) (r : List Int) : takeHead ((way : Int) :: numberBytes n ++ r) = some (way, n, 1 + (numberBytes n).length) := by
  show (if (4 : Int) < (way : Int) then none else (takeCount 64 (numberBytes n ++ r)).map fun x => ((way : Int).toNat, x.1, 1 + x.2)) = _
  rw [if_neg (by omega), take_count h1 h2 (by omega)]
  simp
theorem un_of {way : Nat} {cs : List Cell} {body bs : List Int} (hb : bs = (way : Int) :: numberBytes cs.length ++ body) (g : Good cs) (hs : isStretch cs = true) (hw : way ≤ 4) (h : pressBy way cs = some bs) (hc : cellsBy way cs.length (body ++ []) = some (cs, body.length)) : unpressed bs = some cs := by
  have gp := g.pos
  have gl := g.len
  have e1 : takeHead bs = some (way, cs.length, 1 + (numberBytes cs.length).length) := by rw [hb]; exact takeHead_pre hw (by omega) gl body
  have e2 : bs.drop (1 + (numberBytes cs.length).length) = body := by
    rw [hb]
    exact List.drop_left' (by simp [Nat.add_comm])
  have e3 : bs.length = 1 + (numberBytes cs.length).length + body.length := by
    rw [hb]
    simp
    omega
  rw [List.append_nil] at hc
  unfold unpressed
  rw [e1, Option.bind_some]
  dsimp only
  rw [e2, hc, Option.bind_some]
  dsimp only
  rw [if_neg (by omega), if_neg (by simp), if_neg (by simp [hs]), if_neg (by simp [h])]
theorem toInts_int {cs : List Cell} (h : allInt cs = true) : (cs.map Cell.toInt).map Cell.int = cs := by
  rw [List.map_map]
  conv => rhs; rw [← List.map_id cs]
  refine List.map_congr_left fun c hc => ?_
  have := List.all_eq_true.mp h c hc
  cases c <;> first | rfl | cases this
theorem ints_fit {cs : List Cell} (h : allInt cs = true) (hf : ∀ c ∈ cs, c.fit) : ∀ x ∈ cs.map Cell.toInt, -1000000000000000000 < x ∧ x < 1000000000000000000 := fun x hx => by
  obtain ⟨c, hc, rfl⟩ := List.mem_map.mp hx
  have a := List.all_eq_true.mp h c hc
  have b := hf c hc
  cases c <;> first | exact b | cases a
theorem book_pos {cs : List Cell} (g : Good cs) : 1 ≤ (bookOf cs).length := by
  cases e : cs with
  | nil =>
    have := g.pos
    rw [e] at this
    exact absurd this (by simp)
  | cons c r =>
    have : c ∈ bookOf (c :: r) := book_mem.mpr (by simp)
    exact List.length_pos_of_mem this
theorem press_round {way : Nat} {cs : List Cell} {bs : List Int} (g : Good cs) (hs : isStretch cs = true) (hw : way ≤ 4) (h : pressBy way cs = some bs) : unpressed bs = some cs := by
  have gp := g.pos
  have gl := g.len
  have hne : cs ≠ [] := fun e => by rw [e] at gp; exact absurd gp (by simp)
  have h0 := h
  unfold pressBy at h
  split at h
  · rename_i e
    cases h
    subst e
    exact un_of rfl g hs hw h0 (take_cells cs [] g.fit)
  · split at h
    · rename_i e
      cases h
      subst e
      refine un_of rfl g hs hw h0 ?_
      show runCells cs.length (runBytes cs ++ []) = _
      unfold runCells
      rw [take_runs hne (by omega) g.fit]
      simp [unruns_runsOf]
    · split at h
      · rename_i e
        cases h
        subst e
        refine un_of rfl g hs hw h0 ?_
        show bookCells cs.length (bookBytes cs ++ []) = _
        exact book_cells (book_pos g) (book_len cs) (by omega) (fun c hc => g.fit c (book_mem.mp hc)) (fun c hc => book_mem.mpr hc) []
      · split at h
        · rename_i ha
          have hi := toInts_int ha
          have hn : cs.map Cell.toInt ≠ [] := by simpa using hne
          split at h
          · rename_i e
            cases h
            subst e
            refine un_of rfl g hs hw h0 ?_
            show baseCells cs.length (baseBytes (cs.map Cell.toInt) ++ []) = _
            have := take_base hn (ints_fit ha g.fit) []
            rw [List.length_map, hi] at this
            exact this
          · cases h
            have e : way = 4 := by omega
            subst e
            refine un_of rfl g hs hw h0 ?_
            show stepCells cs.length (stepBytes (cs.map Cell.toInt) ++ []) = _
            have := take_step hn (ints_fit ha g.fit) []
            rw [List.length_map, hi] at this
            exact this
        · cases h
theorem pressBy_head {way : Nat} {cs : List Cell} {bs : List Int} (h : pressBy way cs = some bs) : ∃ body, bs = (way : Int) :: numberBytes cs.length ++ body := by
  unfold pressBy at h
  split at h
  · cases h
    exact ⟨_, rfl⟩
  · split at h
    · cases h
      exact ⟨_, rfl⟩
    · split at h
      · cases h
        exact ⟨_, rfl⟩
      · split at h
        · split at h <;> cases h <;> exact ⟨_, rfl⟩
        · cases h
theorem book_fits {way : Nat} {cs : List Cell} {bs : List Int} (g : Good cs) (hw : way ≤ 4) (h : pressBy way cs = some bs) {n : Nat} {x : List Cell × List Int × Nat} (h1 : takeHead bs = some (2, cs.length, n)) (h2 : takeBook cs.length (bs.drop n) = some x) : ∀ c ∈ x.1, c ∈ cs := by
  have gp := g.pos
  have gl := g.len
  obtain ⟨body, hb⟩ := pressBy_head h
  have e1 : takeHead bs = some (way, cs.length, 1 + (numberBytes cs.length).length) := by rw [hb]; exact takeHead_pre hw (by omega) gl body
  rw [e1] at h1
  injection h1 with h1
  injection h1 with h1 h3
  injection h3 with _ h3
  subst h1 h3
  have hb2 : some bs = some (((2 : Nat) : Int) :: numberBytes cs.length ++ bookBytes cs) := by rw [← h]; rfl
  injection hb2 with hb2
  have e2 : bs.drop (1 + (numberBytes cs.length).length) = bookBytes cs ++ [] := by
    rw [hb2, List.append_nil]
    exact List.drop_left' (by simp; omega)
  have tb : takeBook cs.length (bookBytes cs ++ []) = _ := take_book (book_pos g) (book_len cs) (by omega) (fun c hc => g.fit c (book_mem.mp hc)) (fun c hc => book_mem.mpr hc) []
  rw [e2, tb] at h2
  cases h2
  exact fun c hc => book_mem.mp hc
end K90
namespace K90
open PySem PySem.Spec PyProof.Rows L2 RT RZ
/-- None and things of one kind -/
def OneKind (cs : List Cell) : Prop := (∀ c ∈ cs, c = .non ∨ c.isInt = true) ∨ ∀ c ∈ cs, c = .non ∨ ∃ l, c = .str l
def knownOf (cs : List Cell) : List Cell := cs.filter fun c => decide (c ≠ .non)
def strOf : Cell → Str
  | .str l => ⟨l.toArray⟩
  | _ => ⟨#[]⟩
section
variable {P : Program} {w : World} {K : PySem.W.Frag} {mg : Str → Option Value} {base : Heap}
def sp_note_of (K : PySem.W.Frag) : Sp := fun vs H Q E => match vs with
  | [.ref l] => ∃ cs : List Cell, H l = some (.lst (cs.map cv)) ∧ cs.length ≤ 1000 ∧ OneKind cs ∧ ∀ H' p, Same H H' → H p = none → Q (.ref p) H'
  | _ => False
theorem mates {H : Hp} {QQ : V → Hp → Prop} (q : ∀ v, QQ v H) : QQ .non H := q _
theorem sc_note_of : FnScope ["cells", "known", "cell"] ["cells"] (defScope s_note_of) := ⟨rfl, rfl, rfl, by decide +kernel, rfl, by decide +kernel, by decide +kernel⟩
theorem ok_note_of (T : Txt K mg) : Cal P w K mg base 3 "note_of" (sp_note_of K) := by
  obtain ⟨fd, F⟩ := D_note_of T
  refine cal_mk (g_note_of T) F sc_note_of (fun _ _ _ _ _ _ us hl => match us, hl with | [_], _ => rfl) (fun vs H Q E h => ?len) (fun cdv A outer s H vs Q E hr h => ⟨_, (pss_cons (us_lc (i := 1) (own := [("cell", 2)]) rfl sc_note_of.nd rfl rfl (sw_true rfl rfl rfl (by decide +kernel)) (j_list (uv 0)) rfl (fun _ _ _ _ _ => (pg_name (i := 2) sc_note_of.nd rfl (by first | exact Or.inl rfl | exact Or.inr rfl))) (fun _ _ _ _ _ => (pts_one (ut_cmp o_isnot (uv 2) pe_non (nomark _)))) (fun _ _ _ _ _ => (uv 2)))
      (pss_one (ps_ret (pe_tup (pa_cons (pe_callB (q_len (K := K)) rfl (b_len T) (by decide +kernel) (pa_cons (uv 0) pa_nil)) (pa_cons (pe_op o_sub (pe_callB (q_len (K := K)) rfl (b_len T) (by decide +kernel) (pa_cons (uv 0) pa_nil)) (pe_callB (q_len (K := K)) rfl (b_len T) (by decide +kernel) (pa_cons (uv 1) pa_nil))) (pa_cons (pe_callBK (c_minD (K := K) hr.units) rfl (b_min T) (by decide +kernel) (pa_cons (uv 1) pa_nil) (pk_cons pe_non pk_nil)) (pa_cons (pe_callBK (c_maxD (K := K) hr.units) rfl (b_max T) (by decide +kernel) (pa_cons (uv 1) pa_nil) (pk_cons pe_non pk_nil)) pa_nil)))))))), ?body⟩)
  case len => unfold sp_note_of at h; (split at h) <;> first | rfl | exact h.elim
  case body =>
    unfold sp_note_of at h
    split at h
    · rename_i l
      obtain ⟨cs, hl, hn, hk, h⟩ := h
      refine ⟨⟨_, SqL.of hl⟩, fun D hD => ?_⟩
      refine LcGoes.by (.list (xs := cs.map cv)) hD (fun i acc H' => acc = (knownOf (cs.take i)).map cv) rfl (fun i acc H' _ s' _ _ => SqL.of (s' _ _ hl)) (fun i acc v H3 _ hi ha s3 d3 e3 it => ?_) (fun acc H3 ha s3 d3 e3 => ?_)
      · obtain ⟨hv, rfl⟩ := it
        rw [List.getElem?_map] at hv
        cases ep : cs[i]? with
        | none =>
          rw [ep] at hv
          cases hv
        | some c =>
          rw [ep] at hv
          cases hv
          have hkn : knownOf (cs.take i ++ [c]) = knownOf (cs.take i) ++ if c = .non then [] else [c] := by
            unfold knownOf
            rw [List.filter_append]
            by_cases z : c = .non <;> simp [z]
          refine ⟨rfl, ⟨fun e => ?_, fun e => ?_⟩⟩
          · have hc : c ≠ .non := fun z => by
              rw [z] at e
              exact absurd e (by decide)
            refine LcP.put hD (lt_size hi (by omega)) ha s3 d3 ?_
            rw [e3, take_snoc ep, hkn, if_neg hc]
            simp
          · have hc : c = .non := by
              cases c with
              | non => rfl
              | int i => exact absurd e (by simp [cv])
              | str l => exact absurd e (by simp [cv])
            refine LcP.skip ha s3 d3 ?_
            rw [e3, take_snoc ep, hkn, if_pos hc, List.append_nil]
      · have e4 : cs.take (cs.map cv).length = cs := List.take_of_length_le (by simp)
        rw [e4] at e3
        rw [e3] at d3
        have hl3 := s3 _ _ hl
        refine ⟨_, .inl (SqL.of hl3), ⟨_, .inl (SqL.of hl3), ⟨_, .inl (SqL.of d3), ?_⟩⟩⟩
        have hmem : ∀ c ∈ knownOf cs, c ∈ cs ∧ c ≠ .non := fun c hc => by
          unfold knownOf at hc
          rw [List.mem_filter] at hc
          exact ⟨hc.1, of_decide_eq_true hc.2⟩
        have fin : ∀ v1 v2 : V, ∀ p, H3 p = none → Q (.ref p) (upd H3 p (.tup [.int ((cs.map cv).length : Nat), .int (((cs.map cv).length : Nat) - (((knownOf cs).map cv).length : Nat)), v1, v2])) := fun v1 v2 p hp => h _ p (same_new (s3.free hp) s3) (s3.free hp)
        rcases hk with hk | hk
        · have ei : (knownOf cs).map cv = ((knownOf cs).map Cell.toInt).map V.int := cv_toInt (by
            unfold allInt
            rw [List.all_eq_true]
            exact fun c hc => (hk c (hmem c hc).1).resolve_left (hmem c hc).2)
          refine ⟨_, SqL.of d3, .inl ⟨_, ei, ⟨_, SqL.of d3, .inl ⟨_, ei, ⟨len4, fin _ _⟩⟩⟩⟩⟩
        · have ei : (knownOf cs).map cv = ((knownOf cs).map strOf).map V.str := by
            rw [List.map_map]
            refine List.map_congr_left fun c hc => ?_
            obtain ⟨l, rfl⟩ := (hk c (hmem c hc).1).resolve_left (hmem c hc).2
            rfl
          refine ⟨_, SqL.of d3, .inr ⟨_, ei, fun _ => ?_, fun y _ => ?_⟩⟩
          · exact ⟨_, SqL.of d3, .inr ⟨_, ei, fun _ => ⟨len4, fin _ _⟩, fun y _ => ⟨len4, fin _ _⟩⟩⟩
          · exact ⟨_, SqL.of d3, .inr ⟨_, ei, fun _ => ⟨len4, fin _ _⟩, fun y _ => ⟨len4, fin _ _⟩⟩⟩
    · exact h.elim
end
end K90
namespace K90
open PySem PySem.Spec PyProof.Rows L2 RT RZ
theorem rgc_up {n c : Nat} (hc : 1 ≤ c) (hc2 : c ≤ 1000) (hn : n ≤ 100000) : RgC 0 n c ((n + c - 1) / c) := by
  refine ⟨by omega, by omega, ?_, ?_⟩
  · have e : Builtin.Range.rangeSize 0 n c = (((n + c - 1) / c : Nat) : Int) := by
      rw [PyProof.Rows.rangeSize_pos (by omega) (by omega)]
      have : (n : Int) + (c : Int) - 1 = ((n + c - 1 : Nat) : Int) := by omega
      rw [this]
      rfl
    have h2 : (n + c - 1) / c ≤ n + c - 1 := Nat.div_le_self _ _
    unfold Builtin.Range.small
    rw [e]
    simp only [Builtin.Range.rangeFitsLong, Bool.and_eq_true, Bool.or_eq_true, decide_eq_true_eq, beq_iff_eq]
    have h3 : ((((n + c - 1) / c : Nat) : Int)) ≤ (n + c - 1 : Nat) := by exact_mod_cast h2
    have h4 := Int.natCast_nonneg ((n + c - 1) / c)
    generalize (n + c - 1) / c = q at *
    refine ⟨⟨⟨⟨by decide, by omega, by omega⟩, by omega, by omega⟩, by omega, by omega⟩, .inr ?_⟩
    rw [if_pos (by omega)]
    simp only [Bool.and_eq_true, decide_eq_true_eq]
    omega
  · rw [PyProof.Rows.rangeSize_pos (by omega) (by omega)]
    have : (n : Int) + (c : Int) - 1 = ((n + c - 1 : Nat) : Int) := by omega
    rw [this]
    rfl
def chunkN (n long : Nat) : Nat := (n + long - 1) / long
def chunk (long : Nat) (cs : List Cell) (i : Nat) : List Cell := (cs.drop (i * long)).take long
def chunks (long : Nat) (cs : List Cell) : List (List Cell) := (List.range (chunkN cs.length long)).map (chunk long cs)
theorem cut_map {f : Cell → V} {bs : List Cell} {n m : Nat} : cutV (bs.map f) (some (n : Int)) (some ((n + m : Nat) : Int)) = ((bs.drop n).take m).map f := by
  unfold cutV
  rw [HT.sIx_nat, HT.sIx_nat, List.map_take, List.map_drop, List.length_map]
  by_cases hn : n ≤ bs.length
  · rw [Nat.min_eq_left hn]
    by_cases hm : n + m ≤ bs.length
    · rw [Nat.min_eq_left hm]
      congr 1
      omega
    · rw [Nat.min_eq_right (by omega)]
      rw [List.take_of_length_le (by simp), List.take_of_length_le (by simp; omega)]
  · rw [Nat.min_eq_right (by omega)]
    rw [List.drop_eq_nil_of_le (by rw [List.length_map]; omega), List.drop_eq_nil_of_le (by rw [List.length_map]; omega)]
    simp
theorem chunk_lt {n long i : Nat} (hl : 1 ≤ long) (hi : i < chunkN n long) : i * long < n := by
  unfold chunkN at hi
  have h := (Nat.le_div_iff_mul_le (show 0 < long by omega)).mp (Nat.succ_le_of_lt hi)
  rw [Nat.succ_mul] at h
  omega
theorem chunk_good {long : Nat} {cs : List Cell} {i : Nat} (hl : 1 ≤ long) (hl2 : long ≤ 64) (hf : ∀ c ∈ cs, c.fit) (hi : i < chunkN cs.length long) : Good (chunk long cs i) := by
  have h := chunk_lt hl hi
  refine ⟨?_, ?_, fun c hc => hf c (List.mem_of_mem_drop (List.mem_of_mem_take hc))⟩
  · unfold chunk
    rw [List.length_take, List.length_drop]
    omega
  · unfold chunk
    rw [List.length_take]
    omega
theorem hid_upd2 {H0 : Hp} {D b : Addr} {H : Hp} {o : HO} (h : H0 b ≠ none) : hid H0 D (upd H b o) = hid H0 D H := by
  funext x
  unfold hid
  by_cases z : x = D ∨ H0 x ≠ none
  · rw [if_pos z, if_pos z]
  · rw [if_neg z, if_neg z, upd_ne fun q => z (.inr (by rw [q]; exact h))]
open Classical in
/-- a and what is new since H0 -/
noncomputable def vis (H0 : Hp) (a : Addr) (H : Hp) : Hp := fun b => if b = a ∨ H0 b = none then H b else none
theorem vis_at {H0 H : Hp} {a : Addr} : vis H0 a H a = H a := if_pos (.inl rfl)
theorem vis_new {H0 H : Hp} {a b : Addr} (h : H0 b = none) : vis H0 a H b = H b := if_pos (.inr h)
theorem vis_some {H0 H : Hp} {a b : Addr} {o : HO} (h : vis H0 a H b = some o) : (b = a ∨ H0 b = none) ∧ H b = some o := by
  unfold vis at h
  by_cases z : b = a ∨ H0 b = none
  · rw [if_pos z] at h
    exact ⟨z, h⟩
  · rw [if_neg z] at h
    cases h
/-- all but two are kept -/
def SB2 (m k : Addr) (H H' : Hp) : Prop := ∀ b o, b ≠ m → b ≠ k → H b = some o → H' b = some o
theorem SB2.same {m k : Addr} {H H1 H2 : Hp} (a : SB2 m k H H1) (s : Same H1 H2) : SB2 m k H H2 := fun b o h1 h2 e => s _ _ (a b o h1 h2 e)
theorem SB2.put1 {m k : Addr} {H H1 : Hp} {o : HO} (a : SB2 m k H H1) : SB2 m k H (upd H1 m o) := fun b u h1 h2 e => (upd_ne h1).trans (a b u h1 h2 e)
theorem SB2.put2 {m k : Addr} {H H1 : Hp} {o : HO} (a : SB2 m k H H1) : SB2 m k H (upd H1 k o) := fun b u h1 h2 e => (upd_ne h2).trans (a b u h1 h2 e)
theorem SB2.free {m k p : Addr} {H H1 : Hp} {x y : HO} (a : SB2 m k H H1) (hm : H1 m = some x) (hk : H1 k = some y) (h : H1 p = none) : H p = none := by
  cases e : H p with
  | none => rfl
  | some o =>
    by_cases h1 : p = m
    · rw [h1, hm] at h
      cases h
    · by_cases h2 : p = k
      · rw [h2, hk] at h
        cases h
      · rw [a p o h1 h2 e] at h
        cases h
theorem onekind_chunk {cs : List Cell} (h : OneKind cs) (long i : Nat) : OneKind (chunk long cs i) := h.imp (fun h c hc => h c (List.mem_of_mem_drop (List.mem_of_mem_take hc))) (fun h c hc => h c (List.mem_of_mem_drop (List.mem_of_mem_take hc)))
/-- a pillar -/
def PillarAt (K : PySem.W.Frag) (H : Hp) (x : Addr) (long : Nat) (cs : List Cell) : Prop := ∃ dx rl nl ps, H x = some (.ins (He.ga K "Pillar") dx [("each", .int (long : Nat)), ("so_many", .int (cs.length : Nat)), ("own_rows", .ref rl), ("own_notes", .ref nl)]) ∧ H rl = some (.lst (ps.map V.ref)) ∧ LRows H ps ((chunks long cs).map pressed)
theorem PillarAt.same {K : PySem.W.Frag} {H H' : Hp} {x : Addr} {long : Nat} {cs : List Cell} (s : Same H H') (h : PillarAt K H x long cs) : PillarAt K H' x long cs := by
  obtain ⟨dx, rl, nl, ps, h1, h2, h3⟩ := h
  exact ⟨dx, rl, nl, ps, s _ _ h1, s _ _ h2, LRows.same s h3⟩
section
variable {P : Program} {w : World} {K : PySem.W.Frag} {mg : Str → Option Value} {base : Heap}
def sp_Pillar_init (K : PySem.W.Frag) : Sp := fun vs H Q E => match vs with
  | [.ref a, .int lg, .ref l] => ∃ (dx : Addr) (cs : List Cell) (long : Nat), lg = long ∧ 1 ≤ long ∧ long ≤ 64 ∧ H a = some (.ins (He.ga K "Pillar") dx []) ∧ H l = some (.lst (cs.map cv)) ∧ cs.length ≤ 100000 ∧ (∀ c ∈ cs, c.fit) ∧ OneKind cs ∧
      ∀ H', SB a H H' → PillarAt K (vis H a H') a long cs → Q .non H'
  | _ => False
theorem sc_Pillar_init : FnScope ["self", "long", "cells", "begin", "some"] ["self", "long", "cells"] (defScope s_Pillar_init) := ⟨rfl, rfl, rfl, by decide +kernel, rfl, by decide +kernel, by decide +kernel⟩
theorem ok_Pillar_init (T : Txt K mg) : CalC P w K mg base 13 "Pillar" (He.ga K "Pillar") (sp_Pillar_init K) := by
  obtain ⟨fd, F⟩ := D_Pillar_init T
  refine calC_mk (gc_Pillar T) (mk_Pillar T) F sc_Pillar_init (fun _ _ _ _ _ _ us hl => match us, hl with | [_, _, _], _ => rfl) (fun vs H Q E h => ?len) (fun cdv A outer s H vs Q E hr h => ⟨_, (pss_cons (us_fld (uv 0) (uv 1) rfl)
      (pss_cons (us_fld (uv 0) (pe_callB (q_len (K := K)) rfl (b_len T) (by decide +kernel) (pa_cons (uv 2) pa_nil)) rfl)
      (pss_cons (us_fld (uv 0) (pe_lst pa_nil) rfl)
      (pss_cons (us_fld (uv 0) (pe_lst pa_nil) rfl)
      (pss_one (us_for (passes_of rfl) rfl (j_rng3 (b_range T) (pa_cons pe_int (pa_cons (pe_callB (q_len (K := K)) rfl (b_len T) (by decide +kernel) (pa_cons (uv 2) pa_nil)) (pa_cons (uv 1) pa_nil)))) (pg_name (i := 3) sc_Pillar_init.nd rfl (by first | exact Or.inl rfl | exact Or.inr rfl)) (pss_cons (ps_set (i := 4) sc_Pillar_init.nd rfl (by first | exact Or.inl rfl | exact Or.inr rfl) (pe_callTy (q_list (K := K)) rfl (b_list T) (by decide +kernel) (pa_cons (pe_slice (q_sl (K := K)) (uv 2) (u_some (uv 3)) (u_some (pe_op o_add (uv 3) (uv 1)))) pa_nil)))
      (pss_cons (ps_expr (pe_bm PySem.F.plainAttrs_list PySem.F.slot_list_append PySem.F.type_list_append m_append (u_fld (uv 0) rfl) (pa_cons (u_call (ok_pressed T) hr (by decide) (pa_cons (uv 4) pa_nil)) pa_nil)))
      (pss_one (ps_expr (pe_bm PySem.F.plainAttrs_list PySem.F.slot_list_append PySem.F.type_list_append m_append (u_fld (uv 0) rfl) (pa_cons (u_call (ok_note_of T) hr (by decide) (pa_cons (uv 4) pa_nil)) pa_nil)))))))))))), ?body⟩)
  case len => unfold sp_Pillar_init at h; (split at h) <;> first | rfl | exact h.elim
  case body =>
    unfold sp_Pillar_init at h
    split at h
    · rename_i a lg l
      obtain ⟨dx, cs, long, rfl, hl1, hl2, ha, hl, hn, hf, hk, h⟩ := h
      have hla : l ≠ a := fun z => by rw [z, ha] at hl; cases hl
      have hca := c_Pillar T
      refine ⟨_, dx, [], ha, hca, n_Pillar_each T, by show (0 : Nat) < 1000; decide, ?_⟩
      have hl1' := (upd_ne (o := .ins (He.ga K "Pillar") dx [("each", .int (long : Nat))]) hla).trans hl
      refine ⟨_, .inl (SqL.of hl1'), ⟨_, dx, _, upd_same, hca, n_Pillar_so_many T, by show (1 : Nat) < 1000; decide, ?_⟩⟩
      rw [List.length_map, upd_upd]
      refine ⟨by decide, fun rl hrl => ?_⟩
      have harl : a ≠ rl := ne_of_none upd_same hrl
      refine ⟨_, dx, _, (upd_ne harl).trans upd_same, hca, n_Pillar_own_rows T, by show (2 : Nat) < 1000; decide, ?_⟩
      refine ⟨by decide, fun nl hnl => ?_⟩
      have hanl : a ≠ nl := ne_of_none upd_same hnl
      refine ⟨_, dx, _, (upd_ne hanl).trans upd_same, hca, n_Pillar_own_notes T, by show (3 : Nat) < 1000; decide, ?_⟩
      have hrln : rl ≠ nl := fun z => by
        rw [← z, upd_ne (Ne.symm harl), upd_same] at hnl
        cases hnl
      have hlrl : l ≠ rl := ne_of_none hl1' (by
        rw [upd_ne (Ne.symm harl)] at hrl ⊢
        exact hrl)
      have hlnl : l ≠ nl := fun z => by
        rw [← z, upd_ne hla, upd_ne hlrl, upd_ne hla, hl] at hnl
        cases hnl
      rw [upd_ne (Ne.symm harl)] at hrl
      rw [upd_ne (Ne.symm hanl), upd_ne (Ne.symm hrln), upd_ne (Ne.symm hanl)] at hnl
      have dl0 := (((upd_ne (o := HO.ins (He.ga K "Pillar") dx (putF "own_notes" (V.ref nl) (putF "own_rows" (V.ref rl) (putF "so_many" (V.int (cs.length : Nat)) (putF "each" (V.int (long : Nat)) []))))) hla).trans ((upd_ne (o := .lst []) hlnl).trans ((upd_ne (o := HO.ins (He.ga K "Pillar") dx (putF "own_rows" (V.ref rl) (putF "so_many" (V.int (cs.length : Nat)) (putF "each" (V.int (long : Nat)) [])))) hla).trans ((upd_ne (o := .lst []) hlrl).trans ((upd_ne (o := HO.ins (He.ga K "Pillar") dx (putF "so_many" (V.int (cs.length : Nat)) (putF "each" (V.int (long : Nat)) []))) hla).trans hl))))))
      have dr0 := ((upd_ne (H := _) (o := HO.ins (He.ga K "Pillar") dx (putF "own_notes" (V.ref nl) (putF "own_rows" (V.ref rl) (putF "so_many" (V.int (cs.length : Nat)) (putF "each" (V.int (long : Nat)) []))))) (Ne.symm harl)).trans ((upd_ne (o := .lst []) hrln).trans ((upd_ne (o := HO.ins (He.ga K "Pillar") dx (putF "own_rows" (V.ref rl) (putF "so_many" (V.int (cs.length : Nat)) (putF "each" (V.int (long : Nat)) [])))) (Ne.symm harl)).trans (upd_same (H := upd H a (HO.ins (He.ga K "Pillar") dx (putF "so_many" (V.int (cs.length : Nat)) (putF "each" (V.int (long : Nat)) [])))) (o := .lst [])))))
      have dn0 := ((upd_ne (o := HO.ins (He.ga K "Pillar") dx (putF "own_notes" (V.ref nl) (putF "own_rows" (V.ref rl) (putF "so_many" (V.int (cs.length : Nat)) (putF "each" (V.int (long : Nat)) []))))) (Ne.symm hanl)).trans (upd_same (H := upd (upd (upd H a (HO.ins (He.ga K "Pillar") dx (putF "so_many" (V.int (cs.length : Nat)) (putF "each" (V.int (long : Nat)) [])))) rl (.lst [])) a (HO.ins (He.ga K "Pillar") dx (putF "own_rows" (V.ref rl) (putF "so_many" (V.int (cs.length : Nat)) (putF "each" (V.int (long : Nat)) []))))) (o := .lst [])))
      generalize hH1 : upd (upd (upd (upd (upd H a (HO.ins (He.ga K "Pillar") dx (putF "so_many" (V.int (cs.length : Nat)) (putF "each" (V.int (long : Nat)) [])))) rl (.lst [])) a (HO.ins (He.ga K "Pillar") dx (putF "own_rows" (V.ref rl) (putF "so_many" (V.int (cs.length : Nat)) (putF "each" (V.int (long : Nat)) []))))) nl (.lst [])) a (HO.ins (He.ga K "Pillar") dx (putF "own_notes" (V.ref nl) (putF "own_rows" (V.ref rl) (putF "so_many" (V.int (cs.length : Nat)) (putF "each" (V.int (long : Nat)) []))))) = H1 at *
      have sb0 : SB a H H1 := fun b o hb e => by
        have h1 : b ≠ rl := ne_of_none e hrl
        have h2 : b ≠ nl := ne_of_none e hnl
        rw [← hH1, upd_ne hb, upd_ne h2, upd_ne hb, upd_ne h1, upd_ne hb]
        exact e
      have da0 : H1 a = some (.ins (He.ga K "Pillar") dx [("each", .int (long : Nat)), ("so_many", .int (cs.length : Nat)), ("own_rows", .ref rl), ("own_notes", .ref nl)]) := by
        rw [← hH1]
        exact upd_same
      refine ⟨_, .inl (SqL.of dl0), ⟨chunkN cs.length long, by rw [List.length_map]; exact rgc_up hl1 (by omega) hn, ?_⟩⟩
      have hcl : chunkN cs.length long ≤ 100000 + 64 := by
        unfold chunkN
        have := Nat.div_le_self (cs.length + long - 1) long
        omega
      refine ForGoes.by .rangeC (fun i σ H' => ∃ (ps : List Addr) (ns : List V) (x y : Option V), σ = [some (.ref a), some (.int (long : Nat)), some (.ref l), x, y] ∧ SB2 rl nl H1 H' ∧ H' rl = some (.lst (ps.map V.ref)) ∧ H' nl = some (.lst ns) ∧ ns.length = i ∧ LRows (hid H1 a H') ps ((List.range i).map fun i => pressed (chunk long cs i))) ⟨[], [], none, none, rfl, fun b o _ _ h => h, dr0, dn0, rfl, trivial⟩ (fun _ _ _ _ _ => trivial) ?_ ?_
      · rintro i _ _ H2 _ hi ⟨ps, ns, x, y, rfl, s2, dr, dn, ln, hps⟩ ⟨rfl, rfl⟩
        have hi : i < chunkN cs.length long := hi
        have hpl := LRows.len hps
        rw [List.length_map, List.length_range] at hpl
        have ecut : cutV (cs.map cv) (some (0 + (i : Nat) * (long : Int))) (some (0 + (i : Nat) * (long : Int) + (long : Int))) = (chunk long cs i).map cv := by
          have e1 : (0 + (i : Nat) * (long : Int)) = ((i * long : Nat) : Int) := by simp
          have e2 : (0 + (i : Nat) * (long : Int) + (long : Int)) = ((i * long + long : Nat) : Int) := by simp
          rw [e1, show ((i * long : Nat) : Int) + (long : Int) = ((i * long + long : Nat) : Int) by simp]
          exact cut_map
        have hg := chunk_good hl1 hl2 hf hi
        have dl2 := s2 _ _ hlrl hlnl dl0
        have da2 := s2 _ _ harl hanl da0
        refine .inl ⟨_, SqL.of dl2, fun p hp => ?_⟩
        rw [ecut]
        refine ⟨_, .inl (SqL.of upd_same), fun q hq => ?_⟩
        have s3 : Same H2 (upd (upd H2 p (.lst ((chunk long cs i).map cv))) q (.lst ((chunk long cs i).map cv))) := (same_new hp (Same.refl _)).trans (same_new hq (Same.refl _))
        have dq := upd_same (H := upd H2 p (.lst ((chunk long cs i).map cv))) (a := q) (o := .lst ((chunk long cs i).map cv))
        generalize upd (upd H2 p (.lst ((chunk long cs i).map cv))) q (.lst ((chunk long cs i).map cv)) = H3 at *
        refine ⟨_, dx, _, .ref rl, s3 _ _ da2, hca, n_Pillar_own_rows T, rfl, ⟨ty_l (s3 _ _ dr), ⟨_, dq, hg, fun H4 p4 s4 hp4 d4 => ?_⟩⟩⟩
        have s24 := s3.trans s4
        have dr4 := s24 _ _ dr
        refine ⟨_, dr4, by rw [sizeLine_eq, List.length_map]; omega, ?_⟩
        have dn4 := s24 _ _ dn
        have da4 := s24 _ _ da2
        have dq4 := s4 _ _ dq
        have hqr : q ≠ rl := fun z => by
          have := s3 _ _ dr
          rw [z] at hq
          rw [upd_ne] at hq
          · rw [dr] at hq
            cases hq
          · exact ne_of_none dr hp
        refine ⟨_, dx, _, .ref nl, (upd_ne harl).trans da4, hca, n_Pillar_own_notes T, rfl, ⟨ty_l ((upd_ne (Ne.symm hrln)).trans dn4), ⟨_, (upd_ne hqr).trans dq4, by have := hg.len; omega, onekind_chunk hk long i, fun H5 p5 s5 hp5 => ?_⟩⟩⟩
        have dn5 := s5 _ _ ((upd_ne (Ne.symm hrln)).trans dn4)
        have dr5 := s5 _ _ (upd_same (H := H4) (a := rl) (o := .lst (ps.map V.ref ++ [V.ref p4])))
        refine ⟨_, dn5, by rw [sizeLine_eq]; omega, ?_⟩
        have hp40 : H1 p4 = none := s2.free dr dn (s3.free hp4)
        have hp4a : p4 ≠ a := fun z => by rw [z, da0] at hp40; cases hp40
        refine ⟨ps ++ [p4], ns ++ [.ref p5], some (.int (0 + (i : Nat) * (long : Int))), some (.ref q), rfl, ((((s2.same s24).put1).same s5).put2), ?_, upd_same, by simp [ln], ?_⟩
        · rw [upd_ne hrln, dr5]
          simp
        · rw [hid_upd2 (by rw [dn0]; simp), List.range_succ, List.map_append]
          refine LRows.same (hid_same s5) ?_
          rw [hid_upd2 (by rw [dr0]; simp)]
          exact LRows.snoc ((hid_eq hp4a hp40).trans d4) (LRows.same (hid_same s24) hps)
      · rintro _ H2 ⟨ps, ns, x, y, rfl, s2, dr, dn, ln, hps⟩
        refine h _ (fun b o hb e => ?_) ⟨dx, rl, nl, ps, vis_at.trans (s2 _ _ harl hanl da0), (vis_new hrl).trans dr, ?_⟩
        · exact s2 _ _ (ne_of_none e hrl) (ne_of_none e hnl) (sb0 b o hb e)
        · have := LRows.same (H' := vis H a H2) (fun b o e => by
            have e1 := hid_new e
            have e2 := hid_le _ _ e
            rw [vis_new]
            · exact e2
            · cases q : H b with
              | none => rfl
              | some u =>
                by_cases hb : b = a
                · rw [hb, da0] at e1
                  cases e1
                · rw [sb0 b u hb q] at e1
                  cases e1) hps
          unfold chunks
          rw [List.map_map]
          exact this
    · exact h.elim
def sp_Pillar_many (K : PySem.W.Frag) : Sp := fun vs H Q E => match vs with
  | [.ref a] => ∃ long cs, PillarAt K H a long cs ∧ Q (.int (cs.length : Nat)) H
  | _ => False
theorem sc_Pillar_many : FnScope ["self"] ["self"] (defScope s_Pillar_many) := ⟨rfl, rfl, rfl, by decide +kernel, rfl, by decide +kernel, by decide +kernel⟩
theorem ok_Pillar_many (T : Txt K mg) : CalM P w K mg base 3 (He.ga K "Pillar") "many" (sp_Pillar_many K) := by
  obtain ⟨fd, F⟩ := D_Pillar_many T
  refine calM_mk (c_Pillar T) (m_Pillar_many T) F sc_Pillar_many (fun _ _ _ _ _ _ us hl => match us, hl with | [_], _ => rfl) (fun vs H Q E h => ?len) (fun cdv A outer s H vs Q E hr h => ⟨_, (pss_one (ps_ret (u_fld (uv 0) rfl))), ?body⟩)
  case len => unfold sp_Pillar_many at h; (split at h) <;> first | rfl | exact h.elim
  case body =>
    unfold sp_Pillar_many at h
    split at h
    · rename_i a
      obtain ⟨long, cs, ⟨dx, rl, nl, ps, h1, h2, h3⟩, h⟩ := h
      exact ⟨_, dx, _, .int (cs.length : Nat), h1, c_Pillar T, n_Pillar_so_many T, rfl, h⟩
    · exact h.elim
def sp_Pillar_rows (K : PySem.W.Frag) : Sp := fun vs H Q E => match vs with
  | [.ref a] => ∃ long cs, PillarAt K H a long cs ∧ cs.length ≤ 100000 ∧ long ≤ 64 ∧ ∀ H' l ps, Same H H' → H l = none → H' l = some (.lst (ps.map V.ref)) → LRows (hid H l H') ps ((chunks long cs).map pressed) → Q (.ref l) H'
  | _ => False
theorem LRows.get {H : Hp} : ∀ {vs : List Addr} {os : List (List Int)} {i : Nat} {p : Addr}, LRows H vs os → vs[i]? = some p → ∃ bs, os[i]? = some bs ∧ H p = some (.lst (bs.map V.int))
  | v :: r, o :: q, 0, p, ⟨d, h⟩, g => by
    have g : v = p := by simpa using g
    subst g
    exact ⟨o, rfl, d⟩
  | v :: r, o :: q, i + 1, p, ⟨x, h⟩, g => by
    have := LRows.get (i := i) h (by simpa using g)
    simpa using this
  | [], [], _, _, _, g => by simp at g
  | [], _ :: _, _, _, h, _ => h.elim
  | _ :: _, [], _, _, h, _ => h.elim
theorem sc_Pillar_rows : FnScope ["self", "row"] ["self"] (defScope s_Pillar_rows) := ⟨rfl, rfl, rfl, by decide +kernel, rfl, by decide +kernel, by decide +kernel⟩
theorem ok_Pillar_rows (T : Txt K mg) : CalM P w K mg base 3 (He.ga K "Pillar") "rows" (sp_Pillar_rows K) := by
  obtain ⟨fd, F⟩ := D_Pillar_rows T
  refine calM_mk (c_Pillar T) (m_Pillar_rows T) F sc_Pillar_rows (fun _ _ _ _ _ _ us hl => match us, hl with | [_], _ => rfl) (fun vs H Q E h => ?len) (fun cdv A outer s H vs Q E hr h => ⟨_, (pss_one (ps_ret (ue_lc (own := [("row", 1)]) rfl sc_Pillar_rows.nd (j_list (u_fld (uv 0) rfl)) rfl (fun _ _ _ _ _ => (pg_name (i := 1) sc_Pillar_rows.nd rfl (by first | exact Or.inl rfl | exact Or.inr rfl))) (fun _ _ _ _ _ => pts_nil) (fun _ _ _ _ _ => (pe_callTy (q_list (K := K)) rfl (b_list T) (by decide +kernel) (pa_cons (uv 1) pa_nil)))))), ?body⟩)
  case len => unfold sp_Pillar_rows at h; (split at h) <;> first | rfl | exact h.elim
  case body =>
    unfold sp_Pillar_rows at h
    split at h
    · rename_i a
      obtain ⟨long, cs, ⟨dx, rl, nl, ps, h1, h2, h3⟩, hn, hl2, h⟩ := h
      refine ⟨_, dx, _, .ref rl, h1, c_Pillar T, n_Pillar_own_rows T, rfl, ⟨⟨_, SqL.of h2⟩, fun D hD => ?_⟩⟩
      have hpl := LRows.len h3
      have hcl : chunkN cs.length long ≤ 100000 + 64 := by
        unfold chunkN
        have := Nat.div_le_self (cs.length + long - 1) long
        omega
      have hpl2 : ps.length = chunkN cs.length long := by
        rw [hpl]
        unfold chunks
        simp
      refine LcGoes.by (.list (xs := ps.map V.ref)) hD (fun i out H' => ∃ qs : List Addr, out = qs.map V.ref ∧ LRows (hid H D H') qs (((chunks long cs).map pressed).take i)) ⟨[], rfl, trivial⟩ (fun i out H' _ s' _ _ => SqL.of (s' _ _ h2)) (fun i out v H3 _ hi ha3 s3 d3 e3 it => ?_) (fun out H3 ha3 s3 d3 e3 => ?_)
      · obtain ⟨hv, rfl⟩ := it
        obtain ⟨qs, rfl, hqs⟩ := e3
        rw [List.getElem?_map] at hv
        cases ep : ps[i]? with
        | none =>
          rw [ep] at hv
          cases hv
        | some p =>
          rw [ep] at hv
          cases hv
          obtain ⟨bs, hbs, dp⟩ := LRows.get h3 ep
          refine ⟨rfl, ⟨fun _ => ⟨_, .inl (SqL.of (s3 _ _ dp)), fun q hq => ?_⟩, (nomatch ·)⟩⟩
          have hDq := ne_of_none d3 hq
          refine LcP.put hD (by rw [sizeLine_eq]; rw [List.length_map] at hi; omega) ha3 (same_new (s3.free hq) s3) ((upd_ne hDq).trans d3) ⟨qs ++ [q], by simp, ?_⟩
          rw [hid_upd, take_snoc hbs]
          refine LRows.snoc ?_ (LRows.same (hid_same (same_new hq (Same.refl _))) hqs)
          rw [hid_eq (Ne.symm hDq) (s3.free hq)]
          exact upd_same
      · obtain ⟨qs, rfl, hqs⟩ := e3
        have et : ((chunks long cs).map pressed).take (ps.map V.ref).length = (chunks long cs).map pressed := List.take_of_length_le (by rw [List.length_map] at hpl; rw [List.length_map, List.length_map]; omega)
        rw [et] at hqs
        exact h _ D qs s3 hD d3 hqs
    · exact h.elim
end
end K90
namespace K90
open PySem PySem.Spec PyProof.Rows L2 RT RZ
/-! ### sums -/
def sumTerms (row : List Int) : List Int := row.zipIdx.map fun p => ((p.2 : Int) + 1) * (p.1 + 1)
def sumOf (row : List Int) : List Int := bytesOf 4 ((sumTerms row).sum % 4294967296)
def summed (row : List Int) : List Int := row ++ sumOf row
theorem zipIdx_get {row : List Int} {i : Nat} {b : Int} (h : row[i]? = some b) : (sumTerms row)[i]? = some (((i : Int) + 1) * (b + 1)) := by
  unfold sumTerms
  rw [List.getElem?_map, List.getElem?_zipIdx, h]
  simp
theorem sumTerms_len (row : List Int) : (sumTerms row).length = row.length := by simp [sumTerms]
/-! ### entries -/
structure Entry where
  num : Int
  cnt : Int
  row : List Cell
def EntAt (H : Hp) (e : Addr) (x : Entry) : Prop := ∃ t, H e = some (.tup [.int x.num, .int x.cnt, .ref t]) ∧ H t = some (.tup (x.row.map cv))
theorem EntAt.same {H H' : Hp} (s : Same H H') {e : Addr} {x : Entry} (h : EntAt H e x) : EntAt H' e x := by
  obtain ⟨t, h1, h2⟩ := h
  exact ⟨t, s _ _ h1, s _ _ h2⟩
/-- pointwise -/
def Pts {α : Type} (F : Hp → Addr → α → Prop) (H : Hp) : List Addr → List α → Prop
  | [], [] => True
  | p :: r, x :: q => F H p x ∧ Pts F H r q
  | _, _ => False
section
variable {α : Type} {F : Hp → Addr → α → Prop} {H H' : Hp}
theorem Pts.mono (s : ∀ p x, F H p x → F H' p x) : ∀ {vs : List Addr} {os : List α}, Pts F H vs os → Pts F H' vs os
  | [], [], _ => trivial
  | v :: r, o :: q, ⟨d, h⟩ => ⟨s _ _ d, Pts.mono s h⟩
  | [], _ :: _, h => h.elim
  | _ :: _, [], h => h.elim
theorem Pts.snoc {p : Addr} {x : α} (d : F H p x) : ∀ {vs : List Addr} {os : List α}, Pts F H vs os → Pts F H (vs ++ [p]) (os ++ [x])
  | [], [], _ => ⟨d, trivial⟩
  | v :: r, o' :: q, ⟨x, h⟩ => ⟨x, Pts.snoc d h⟩
  | [], _ :: _, h => h.elim
  | _ :: _, [], h => h.elim
theorem Pts.len : ∀ {vs : List Addr} {os : List α}, Pts F H vs os → vs.length = os.length
  | [], [], _ => rfl
  | v :: r, o' :: q, ⟨x, h⟩ => by simp [Pts.len h]
  | [], _ :: _, h => h.elim
  | _ :: _, [], h => h.elim
theorem Pts.get : ∀ {vs : List Addr} {os : List α} {i : Nat} {p : Addr}, Pts F H vs os → vs[i]? = some p → ∃ x, os[i]? = some x ∧ F H p x
  | v :: r, o :: q, 0, p, ⟨d, h⟩, g => by
    have g : v = p := by simpa using g
    subst g
    exact ⟨o, rfl, d⟩
  | v :: r, o :: q, i + 1, p, ⟨x, h⟩, g => by
    have := Pts.get (i := i) h (by simpa using g)
    simpa using this
  | [], [], _, _, _, g => by simp at g
  | [], _ :: _, _, _, h, _ => h.elim
  | _ :: _, [], _, _, h, _ => h.elim
theorem Pts.at : ∀ {vs : List Addr} {os : List α} {i : Nat} {x : α}, Pts F H vs os → os[i]? = some x → ∃ p, vs[i]? = some p ∧ F H p x
  | v :: r, o :: q, 0, p, ⟨d, h⟩, g => by
    have g : o = p := by simpa using g
    subst g
    exact ⟨v, rfl, d⟩
  | v :: r, o :: q, i + 1, p, ⟨x, h⟩, g => by
    have := Pts.at (i := i) h (by simpa using g)
    simpa using this
  | [], [], _, _, _, g => by simp at g
  | [], _ :: _, _, _, h, _ => h.elim
  | _ :: _, [], _, _, h, _ => h.elim
end
def EntsAt (H : Hp) (l : Addr) (es : List Entry) : Prop := ∃ ps : List Addr, H l = some (.lst (ps.map V.ref)) ∧ Pts EntAt H ps es
theorem EntsAt.same {H H' : Hp} (s : Same H H') {l : Addr} {es : List Entry} (h : EntsAt H l es) : EntsAt H' l es := by
  obtain ⟨ps, h1, h2⟩ := h
  exact ⟨ps, s _ _ h1, Pts.mono (fun p x h => EntAt.same s h) h2⟩
/-- a column -/
def ColAt (H : Hp) (p : Addr) (cs : List Cell) : Prop := H p = some (.lst (cs.map cv))
def colN (es : List Entry) : List Cell := es.map fun e => .int e.num
def colC (es : List Entry) : List Cell := es.map fun e => .int e.cnt
def colR (es : List Entry) (j : Nat) : List Cell := es.map fun e => (e.row[j]?).getD .non
def columns (m : Nat) (es : List Entry) : List (List Cell) := colN es :: colC es :: (List.range m).map (colR es)
def rowPart (long : Nat) (cs : List Cell) : List Int := ((chunks long cs).map fun c => numberBytes (pressed c).length ++ pressed c).flatten
def heapBody (kinds : List Bool) (long : Nat) (es : List Entry) : List Int := 72 :: numberBytes kinds.length ++ (kinds.map fun t => if t then (1 : Int) else 0) ++ ((long : Int) :: numberBytes es.length) ++ ((columns kinds.length es).map (rowPart long)).flatten
def heapBytes (kinds : List Bool) (long : Nat) (es : List Entry) : List Int := summed (heapBody kinds long es)
section
variable {P : Program} {w : World} {K : PySem.W.Frag} {mg : Str → Option Value} {base : Heap}
def sp_sum_of (K : PySem.W.Frag) : Sp := fun vs H Q E => match vs with
  | [.ref l] => ∃ bs : List Int, H l = some (.lst (bs.map V.int)) ∧ bs.length ≤ 16777000 ∧ NewI H (sumOf bs) Q
  | _ => False
theorem sc_sum_of : FnScope ["row", "total", "told", "turn", "place", "byte"] ["row"] (defScope s_sum_of) := ⟨rfl, rfl, rfl, by decide +kernel, rfl, by decide +kernel, by decide +kernel⟩
theorem ok_sum_of (T : Txt K mg) : Cal P w K mg base 3 "sum_of" (sp_sum_of K) := by
  obtain ⟨fd, F⟩ := D_sum_of T
  refine cal_mk (g_sum_of T) F sc_sum_of (fun _ _ _ _ _ _ us hl => match us, hl with | [_], _ => rfl) (fun vs H Q E h => ?len) (fun cdv A outer s H vs Q E hr h => ⟨_, (pss_cons (ps_set (i := 1) sc_sum_of.nd rfl (by first | exact Or.inl rfl | exact Or.inr rfl) (pe_op o_mod (pe_callB c_sum rfl (b_sum T) (by decide +kernel) (pa_cons (ue_lc (own := [("place", 4), ("byte", 5)]) rfl sc_sum_of.nd (j_enum (b_enumerate T) (pa_cons (uv 0) pa_nil)) rfl (fun _ _ _ _ _ => (q_tup (K := K) (n := 2) rfl (hg_cons (pg_name (i := 4) sc_sum_of.nd rfl (by first | exact Or.inl rfl | exact Or.inr rfl)) (hg_cons (pg_name (i := 5) sc_sum_of.nd rfl (by first | exact Or.inl rfl | exact Or.inr rfl)) hg_nil)))) (fun _ _ _ _ _ => pts_nil) (fun _ _ _ _ _ => (pe_op o_mul (pe_op o_add (uv 4) pe_int) (pe_op o_add (uv 5) pe_int)))) pa_nil)) (u_int (i_SUM_BOUND T))))
      (pss_cons (ps_set (i := 2) sc_sum_of.nd rfl (by first | exact Or.inl rfl | exact Or.inr rfl) (pe_lst pa_nil))
      (pss_cons (us_for (passes_of rfl) rfl (j_rng (b_range T) (pa_cons (u_int (i_SUM_BYTES T)) pa_nil)) (pg_name (i := 3) sc_sum_of.nd rfl (by first | exact Or.inl rfl | exact Or.inr rfl)) (pss_cons (ps_expr (pe_bm PySem.F.plainAttrs_list PySem.F.slot_list_append PySem.F.type_list_append m_append (uv 2) (pa_cons (pe_op o_mod (uv 1) pe_int) pa_nil)))
      (pss_one (ps_set (i := 1) sc_sum_of.nd rfl (by first | exact Or.inl rfl | exact Or.inr rfl) (pe_op o_div (uv 1) pe_int)))))
      (pss_one (ps_ret (uv 2)))))), ?body⟩)
  case len => unfold sp_sum_of at h; (split at h) <;> first | rfl | exact h.elim
  case body =>
    unfold sp_sum_of at h
    split at h
    · rename_i l
      obtain ⟨bs, hl, hn, h⟩ := h
      refine ⟨⟨_, SqL.of hl⟩, fun D hD => ?_⟩
      refine LcGoes.by (.enum (xs := bs.map V.int)) hD (fun i acc H' => acc = ((sumTerms bs).take i).map V.int) rfl (fun i acc H' _ s' _ _ => SqL.of (s' _ _ hl)) (fun i acc v H3 _ hi ha s3 d3 e3 it => ?_) (fun acc H3 ha s3 d3 e3 => ?_)
      · obtain ⟨T0, x, rfl, hT, rfl, hx⟩ := it
        rw [List.getElem?_map] at hx
        cases ep : bs[i]? with
        | none =>
          rw [ep] at hx
          cases hx
        | some b =>
          rw [ep] at hx
          cases hx
          rw [List.length_map] at hi
          refine ⟨_, SqT.of upd_same, rfl, ⟨rfl, ⟨fun _ => ⟨.inl ⟨by omega, by omega⟩, ?_⟩, (nomatch ·)⟩⟩⟩
          refine LcP.put hD (by rw [sizeLine_eq]; omega) ha (same_new (s3.free hT) s3) ((upd_ne (ne_of_none d3 hT)).trans d3) ?_
          rw [e3, take_snoc (zipIdx_get ep)]
          simp
      · have e4 : (sumTerms bs).take (bs.map V.int).length = sumTerms bs := List.take_of_length_le (by rw [sumTerms_len, List.length_map]; exact Nat.le_refl _)
        rw [e4] at e3
        rw [e3] at d3
        refine ⟨_, SqL.of d3, ⟨by show (0 : Int) < 4294967296; decide, ?_⟩⟩
        refine ⟨by decide, fun told ht => ?_⟩
        refine ⟨by decide, by decide, ?_⟩
        refine ForGoes.by .range (fun i σ H' => ∃ (acc : List Int) (rest : Int) (z x y : Option V), σ = [some (.ref l), some (.int rest), some (.ref told), z, x, y] ∧ Same H3 H' ∧ H' told = some (.lst (acc.map V.int)) ∧ acc.length = i ∧ acc ++ bytesOf (4 - i) rest = sumOf bs) ⟨[], _, none, none, none, rfl, same_new ht (Same.refl _), upd_same, rfl, rfl⟩ (fun _ _ _ _ _ => trivial) ?_ ?_
        · rintro i _ _ H4 _ hi ⟨acc, rest, z, x, y, rfl, s4, d4, la, e1⟩ ⟨rfl, rfl⟩
          have hi : i < 4 := hi
          refine ⟨ty_l d4, ⟨by show (0 : Int) < 256; decide, ⟨_, d4, by rw [sizeLine_eq, List.length_map]; omega, ?_⟩⟩⟩
          refine ⟨⟨by decide, by decide⟩, ?_⟩
          obtain ⟨f, hf⟩ : ∃ f, 4 - i = f + 1 := ⟨4 - i - 1, by omega⟩
          have ef : 4 - (i + 1) = f := by omega
          rw [hf, bytesOf_succ] at e1
          refine ⟨acc ++ [rest % 256], rest / 256, some (.int (0 + (i : Int))), x, y, rfl, same_new ht s4, ?_, by simp [la], by rw [ef, ← e1]; simp⟩
          rw [upd_same, ← map_snoc]
        · rintro _ H4 ⟨acc, rest, z, x, y, rfl, s4, d4, la, e1⟩
          have e1 : acc ++ bytesOf (4 - 4) rest = sumOf bs := e1
          rw [Nat.sub_self] at e1
          refine h H4 told (s3.trans s4) (s3.free ht) ?_
          rw [d4, ← e1]
          simp [bytesOf]
    · exact h.elim
def sp_summed (K : PySem.W.Frag) : Sp := fun vs H Q E => match vs with
  | [.ref l] => ∃ bs : List Int, H l = some (.lst (bs.map V.int)) ∧ bs.length ≤ 16777000 ∧ NewI H (summed bs) Q
  | _ => False
theorem sc_summed : FnScope ["row"] ["row"] (defScope s_summed) := ⟨rfl, rfl, rfl, by decide +kernel, rfl, by decide +kernel, by decide +kernel⟩
theorem ok_summed (T : Txt K mg) : Cal P w K mg base 4 "summed" (sp_summed K) := by
  obtain ⟨fd, F⟩ := D_summed T
  refine cal_mk (g_summed T) F sc_summed (fun _ _ _ _ _ _ us hl => match us, hl with | [_], _ => rfl) (fun vs H Q E h => ?len) (fun cdv A outer s H vs Q E hr h => ⟨_, (pss_one (ps_ret (pe_op o_add (uv 0) (u_call (ok_sum_of T) hr (by decide) (pa_cons (uv 0) pa_nil))))), ?body⟩)
  case len => unfold sp_summed at h; (split at h) <;> first | rfl | exact h.elim
  case body =>
    unfold sp_summed at h
    split at h
    · rename_i l
      obtain ⟨bs, hl, hn, h⟩ := h
      refine ⟨bs, hl, hn, fun H1 p s1 hp d1 => ?_⟩
      have h4 : (sumOf bs).length = 4 := bytesOf_len _ _
      refine ⟨_, _, s1 _ _ hl, d1, by rw [sizeLine_eq, List.length_map, List.length_map]; omega, fun t ht => ?_⟩
      rw [← List.map_append]
      exact NewI.upd (xs := summed bs) h s1 t ht
    · exact h.elim
end
end K90
namespace K90
open PySem PySem.Spec PyProof.Rows L2 RT RZ
section
variable {P : Program} {w : World} {K : PySem.W.Frag} {mg : Str → Option Value} {base : Heap}
def sp_columns_of (K : PySem.W.Frag) : Sp := fun vs H Q E => match vs with
  | [.ref k, .ref l] => ∃ (xs : List V) (es : List Entry), H k = some (.lst xs) ∧ xs.length ≤ 100 ∧ EntsAt H l es ∧ es.length ≤ 100000 ∧ (∀ e ∈ es, xs.length ≤ e.row.length) ∧
      ∀ H' p qs, Same H H' → H p = none → H' p = some (.lst (qs.map V.ref)) → Pts ColAt (hid H p H') qs (columns xs.length es) → Q (.ref p) H'
  | _ => False
theorem colR_get {es : List Entry} {i j : Nat} {e : Entry} (h : es[i]? = some e) : (colR es j)[i]? = some ((e.row[j]?).getD .non) := by
  unfold colR
  rw [List.getElem?_map, h]
  rfl
theorem col_len (es : List Entry) (f : Entry → Cell) : (es.map f).length = es.length := List.length_map _
theorem sc_columns_of : FnScope ["kinds", "entries", "columns", "place", "entry"] ["kinds", "entries"] (defScope s_columns_of) := ⟨rfl, rfl, rfl, by decide +kernel, rfl, by decide +kernel, by decide +kernel⟩
theorem ok_columns_of (T : Txt K mg) : Cal P w K mg base 3 "columns_of" (sp_columns_of K) := by
  obtain ⟨fd, F⟩ := D_columns_of T
  refine cal_mk (g_columns_of T) F sc_columns_of (fun _ _ _ _ _ _ us hl => match us, hl with | [_, _], _ => rfl) (fun vs H Q E h => ?len) (fun cdv A outer s H vs Q E hr h => ⟨_, (pss_cons (ps_set (i := 2) sc_columns_of.nd rfl (by first | exact Or.inl rfl | exact Or.inr rfl) (pe_lst (pa_cons (ue_lc (own := [("entry", 4)]) rfl sc_columns_of.nd (j_list (uv 1)) rfl (fun _ _ _ _ _ => (pg_name (i := 4) sc_columns_of.nd rfl (by first | exact Or.inl rfl | exact Or.inr rfl))) (fun _ _ _ _ _ => pts_nil) (fun _ _ _ _ _ => (pe_ix (q_seq (K := K)) (uv 4) pe_int (fun _ _ => rfl)))) (pa_cons (ue_lc (own := [("entry", 4)]) rfl sc_columns_of.nd (j_list (uv 1)) rfl (fun _ _ _ _ _ => (pg_name (i := 4) sc_columns_of.nd rfl (by first | exact Or.inl rfl | exact Or.inr rfl))) (fun _ _ _ _ _ => pts_nil) (fun _ _ _ _ _ => (pe_ix (q_seq (K := K)) (uv 4) pe_int (fun _ _ => rfl)))) pa_nil))))
      (pss_cons (us_for (passes_of rfl) rfl (j_rng (b_range T) (pa_cons (pe_callB (q_len (K := K)) rfl (b_len T) (by decide +kernel) (pa_cons (uv 0) pa_nil)) pa_nil)) (pg_name (i := 3) sc_columns_of.nd rfl (by first | exact Or.inl rfl | exact Or.inr rfl)) (pss_one (ps_expr (pe_bm PySem.F.plainAttrs_list PySem.F.slot_list_append PySem.F.type_list_append m_append (uv 2) (pa_cons (ue_lc (own := [("entry", 4)]) rfl sc_columns_of.nd (j_list (uv 1)) rfl (fun _ _ _ _ _ => (pg_name (i := 4) sc_columns_of.nd rfl (by first | exact Or.inl rfl | exact Or.inr rfl))) (fun _ _ _ _ _ => pts_nil) (fun _ _ _ _ _ => (pe_ix (q_seq (K := K)) (pe_ix (q_seq (K := K)) (uv 4) pe_int (fun _ _ => rfl)) (uv 3) (fun _ _ => rfl)))) pa_nil)))))
      (pss_one (ps_ret (uv 2))))), ?body⟩)
  case len => unfold sp_columns_of at h; (split at h) <;> first | rfl | exact h.elim
  case body =>
    unfold sp_columns_of at h
    split at h
    · rename_i k l
      obtain ⟨xs, es, hk, hx, ⟨ps, hl, hps⟩, hn, hrow, h⟩ := h
      have hpl := Pts.len hps
      have get2 : ∀ {H2 : Hp}, Same H H2 → ∀ {i : Nat} {v : V}, (ps.map V.ref)[i]? = some v → ∃ e x t, v = .ref e ∧ es[i]? = some x ∧ H2 e = some (.tup [.int x.num, .int x.cnt, .ref t]) ∧ H2 t = some (.tup (x.row.map cv)) := fun {H2} s2 {i v} hv => by
        rw [List.getElem?_map] at hv
        cases ep : ps[i]? with
        | none =>
          rw [ep] at hv
          cases hv
        | some e =>
          rw [ep] at hv
          cases hv
          obtain ⟨x, hxi, t, h1, h2⟩ := Pts.get hps ep
          exact ⟨e, x, t, rfl, hxi, s2 _ _ h1, s2 _ _ h2⟩
      refine ⟨⟨_, SqL.of hl⟩, fun D1 hD1 => ?_⟩
      refine LcGoes.by (.list (xs := ps.map V.ref)) hD1 (fun i acc H' => acc = ((colN es).take i).map cv) rfl (fun i acc H' _ s' _ _ => SqL.of (s' _ _ hl)) (fun i acc v H3 _ hi ha s3 d3 e3 it => ?_) (fun acc H3 ha s3 d3 e3 => ?_)
      · obtain ⟨hv, rfl⟩ := it
        obtain ⟨e, x, t, rfl, hxi, h1, h2⟩ := get2 s3 hv
        have hc : (colN es)[i]? = some (.int x.num) := by
          unfold colN
          rw [List.getElem?_map, hxi]
          rfl
        refine ⟨rfl, ⟨fun _ => ⟨_, .int x.num, .inr (SqT.of h1), rfl, ?_⟩, (nomatch ·)⟩⟩
        refine LcP.put hD1 (by rw [sizeLine_eq]; rw [List.length_map] at hi; omega) ha s3 d3 ?_
        rw [e3, take_snoc hc]
        simp [cv]
      · have e4 : (colN es).take (ps.map V.ref).length = colN es := List.take_of_length_le (by unfold colN; rw [List.length_map, List.length_map]; omega)
        rw [e4] at e3
        rw [e3] at d3
        have hl3 := s3 _ _ hl
        refine ⟨⟨_, SqL.of hl3⟩, fun D2 hD2 => ?_⟩
        refine LcGoes.by (.list (xs := ps.map V.ref)) hD2 (fun i acc H' => acc = ((colC es).take i).map cv) rfl (fun i acc H' _ s' _ _ => SqL.of (s' _ _ hl3)) (fun i acc v H4 _ hi ha s4 d4 e4 it => ?_) (fun acc H4 ha s4 d4 e4 => ?_)
        · obtain ⟨hv, rfl⟩ := it
          obtain ⟨e, x, t, rfl, hxi, h1, h2⟩ := get2 (s3.trans s4) hv
          have hc : (colC es)[i]? = some (.int x.cnt) := by
            unfold colC
            rw [List.getElem?_map, hxi]
            rfl
          refine ⟨rfl, ⟨fun _ => ⟨_, .int x.cnt, .inr (SqT.of h1), rfl, ?_⟩, (nomatch ·)⟩⟩
          refine LcP.put hD2 (by rw [sizeLine_eq]; rw [List.length_map] at hi; omega) ha s4 d4 ?_
          rw [e4, take_snoc hc]
          simp [cv]
        · have e5 : (colC es).take (ps.map V.ref).length = colC es := List.take_of_length_le (by unfold colC; rw [List.length_map, List.length_map]; omega)
          rw [e5] at e4
          rw [e4] at d4
          have s04 := s3.trans s4
          refine ⟨len2, fun col hcol => ?_⟩
          have hk5 := (upd_ne (o := .lst [V.ref D1, V.ref D2]) (ne_of_none (s04 _ _ hk) hcol)).trans (s04 _ _ hk)
          have s05 : Same H (upd H4 col (.lst [V.ref D1, V.ref D2])) := same_new (s04.free hcol) s04
          refine ⟨_, .inl (SqL.of hk5), ⟨by omega, by omega, ?_⟩⟩
          have hcol0 := s04.free hcol
          have hD20 : H D2 = none := s3.free hD2
          have d14 := s4 _ _ d3
          refine ForGoes.by .range (fun i σ H' => ∃ (qs : List Addr) (x y : Option V), σ = [some (.ref k), some (.ref l), some (.ref col), x, y] ∧ Same H H' ∧ H' col = some (.lst (qs.map V.ref)) ∧ qs.length = i + 2 ∧ Pts ColAt (hid H col H') qs (colN es :: colC es :: (List.range i).map (colR es))) ⟨[D1, D2], none, none, rfl, s05, upd_same, rfl, ?_⟩ (fun _ _ _ _ _ => trivial) ?_ ?_
          · rw [hid_upd]
            refine ⟨?_, ?_, trivial⟩
            · exact (hid_eq (ne_of_none d14 hcol) hD1).trans d14
            · exact (hid_eq (ne_of_none d4 hcol) hD20).trans d4
          · rintro i _ _ H6 _ hi ⟨qs, x, y, rfl, s6, d6, lq, hqs⟩ ⟨rfl, rfl⟩
            have hi : i < xs.length := by simpa using hi
            have hl6 := s6 _ _ hl
            refine ⟨ty_l d6, ⟨⟨_, SqL.of hl6⟩, fun D3 hD3 => ?_⟩⟩
            refine LcGoes.by (.list (xs := ps.map V.ref)) hD3 (fun j acc H' => acc = ((colR es i).take j).map cv) rfl (fun j acc H' _ s' _ _ => SqL.of (s' _ _ hl6)) (fun j acc v H7 _ hj ha s7 d7 e7 it => ?_) (fun acc H7 ha s7 d7 e7 => ?_)
            · obtain ⟨hv, rfl⟩ := it
              obtain ⟨e, x, t, rfl, hxi, h1, h2⟩ := get2 (s6.trans s7) hv
              have hr := hrow x (List.mem_of_getElem? hxi)
              obtain ⟨c, hc⟩ := get_lt (l := x.row) (i := i) (by omega)
              have hcc := colR_get (j := i) hxi
              rw [hc] at hcc
              have e0 : (0 : Int) + (i : Nat) = ((i : Nat) : Int) := by omega
              refine ⟨rfl, ⟨fun _ => ⟨_, .ref t, .inr (SqT.of h1), rfl, ⟨_, cv c, .inr (SqT.of h2), ?_, ?_⟩⟩, (nomatch ·)⟩⟩
              · rw [e0]
                exact atN (by rw [List.getElem?_map, hc]; rfl)
              · refine LcP.put hD3 (by rw [sizeLine_eq]; rw [List.length_map] at hj; omega) ha s7 d7 ?_
                rw [e7, take_snoc hcc]
                simp
            · have e8 : (colR es i).take (ps.map V.ref).length = colR es i := List.take_of_length_le (by unfold colR; rw [List.length_map, List.length_map]; omega)
              rw [e8] at e7
              rw [e7] at d7
              have d67 := s7 _ _ d6
              refine ⟨_, d67, by rw [sizeLine_eq, List.length_map]; omega, ?_⟩
              refine ⟨qs ++ [D3], some (.int (0 + (i : Nat))), y, rfl, same_new hcol0 (s6.trans s7), by rw [upd_same]; simp, by simp [lq], ?_⟩
              rw [hid_upd, List.range_succ, List.map_append, ← List.cons_append, ← List.cons_append]
              refine Pts.snoc ?_ (Pts.mono (fun p x h => hid_same s7 _ _ h) hqs)
              exact (hid_eq (Ne.symm (ne_of_none d6 hD3)) (s6.free hD3)).trans d7
          · rintro _ H6 ⟨qs, x, y, rfl, s6, d6, lq, hqs⟩
            refine h _ col qs s6 hcol0 d6 ?_
            have e9 : ((xs.length : Nat) : Int).toNat = xs.length := Int.toNat_natCast _
            rw [e9] at hqs
            exact hqs
    · exact h.elim
end
end K90
namespace K90
open PySem PySem.Spec PyProof.Rows L2 RT RZ
/-- entries whose columns may be pressed -/
structure EntOk (m : Nat) (es : List Entry) : Prop where
  pos : 0 < es.length
  row : ∀ e ∈ es, m ≤ e.row.length
  fit : ∀ cs ∈ columns m es, ∀ c ∈ cs, c.fit
  kind : ∀ cs ∈ columns m es, OneKind cs
theorem columns_len (m : Nat) (es : List Entry) : (columns m es).length = m + 2 := by simp [columns]
theorem column_len {m : Nat} {es : List Entry} {cs : List Cell} (h : cs ∈ columns m es) : cs.length = es.length := by
  unfold columns at h
  rcases List.mem_cons.mp h with rfl | h
  · exact col_len _ _
  · rcases List.mem_cons.mp h with rfl | h
    · exact col_len _ _
    · obtain ⟨j, _, rfl⟩ := List.mem_map.mp h
      exact col_len _ _
theorem pts_col {H H' : Hp} (s : Same H H') {qs : List Addr} {css : List (List Cell)} (h : Pts ColAt H qs css) : Pts ColAt H' qs css := Pts.mono (fun p x h => s _ _ h) h
theorem pts_pil {K : PySem.W.Frag} {long : Nat} {H H' : Hp} (s : Same H H') {qs : List Addr} {css : List (List Cell)} (h : Pts (fun H x cs => PillarAt K H x long cs) H qs css) : Pts (fun H x cs => PillarAt K H x long cs) H' qs css := Pts.mono (fun p x h => PillarAt.same s h) h
theorem PillarAt.sub {K : PySem.W.Frag} {H H' : Hp} {x : Addr} {long : Nat} {cs : List Cell} (s : ∀ b o, H b = some o → H' b = some o) (h : PillarAt K H x long cs) : PillarAt K H' x long cs := PillarAt.same s h
section
variable {P : Program} {w : World} {K : PySem.W.Frag} {mg : Str → Option Value} {base : Heap}
def sp_pillars_of (K : PySem.W.Frag) : Sp := fun vs H Q E => match vs with
  | [.ref k, .int lg, .ref l] => ∃ (xs : List V) (es : List Entry) (long : Nat), lg = long ∧ 1 ≤ long ∧ long ≤ 64 ∧ H k = some (.lst xs) ∧ xs.length ≤ 100 ∧ EntsAt H l es ∧ es.length ≤ 100000 ∧ EntOk xs.length es ∧
      ∀ H' p qs, Same H H' → H p = none → H' p = some (.lst (qs.map V.ref)) → Pts (fun H x cs => PillarAt K H x long cs) (hid H p H') qs (columns xs.length es) → Q (.ref p) H'
  | _ => False
theorem sc_pillars_of : FnScope ["kinds", "long", "entries", "cells"] ["kinds", "long", "entries"] (defScope s_pillars_of) := ⟨rfl, rfl, rfl, by decide +kernel, rfl, by decide +kernel, by decide +kernel⟩
theorem ok_pillars_of (T : Txt K mg) : Cal P w K mg base 15 "pillars_of" (sp_pillars_of K) := by
  obtain ⟨fd, F⟩ := D_pillars_of T
  refine cal_mk (g_pillars_of T) F sc_pillars_of (fun _ _ _ _ _ _ us hl => match us, hl with | [_, _, _], _ => rfl) (fun vs H Q E h => ?len) (fun cdv A outer s H vs Q E hr h => ⟨_, (pss_one (ps_ret (ue_lc (own := [("cells", 3)]) rfl sc_pillars_of.nd (j_list (u_call (ok_columns_of T) hr (by decide) (pa_cons (uv 0) (pa_cons (uv 2) pa_nil)))) rfl (fun _ _ _ _ _ => (pg_name (i := 3) sc_pillars_of.nd rfl (by first | exact Or.inl rfl | exact Or.inr rfl))) (fun _ _ _ _ _ => pts_nil) (fun _ _ _ _ _ => (u_make (ok_Pillar_init T) hr (by decide) (pa_cons (uv 1) (pa_cons (uv 3) pa_nil))))))), ?body⟩)
  case len => unfold sp_pillars_of at h; (split at h) <;> first | rfl | exact h.elim
  case body =>
    unfold sp_pillars_of at h
    split at h
    · rename_i k lg l
      obtain ⟨xs, es, long, rfl, hl1, hl2, hk, hx, he, hn, hok, h⟩ := h
      refine ⟨xs, es, hk, hx, he, hn, hok.row, fun H1 p qs s1 hp d1 hqs => ?_⟩
      have hqs1 := pts_col hid_le hqs
      have hql := Pts.len hqs
      have hcl := columns_len xs.length es
      refine ⟨⟨_, SqL.of d1⟩, fun D hD => ?_⟩
      refine LcGoes.by (.list (xs := qs.map V.ref)) hD (fun i acc H' => ∃ rs : List Addr, acc = rs.map V.ref ∧ Pts (fun H x cs => PillarAt K H x long cs) (hid H D H') rs ((columns xs.length es).take i)) ⟨[], rfl, trivial⟩ (fun i acc H' _ s' _ _ => SqL.of (s' _ _ d1)) (fun i acc v H3 _ hi ha s3 d3 e3 it => ?_) (fun acc H3 ha s3 d3 e3 => ?_)
      · obtain ⟨hv, rfl⟩ := it
        obtain ⟨rs, rfl, hrs⟩ := e3
        rw [List.getElem?_map] at hv
        cases ep : qs[i]? with
        | none =>
          rw [ep] at hv
          cases hv
        | some c =>
          rw [ep] at hv
          cases hv
          obtain ⟨cs, hcs, hc1⟩ := Pts.get hqs1 ep
          have hcm := List.mem_of_getElem? hcs
          have hcn := column_len hcm
          refine ⟨rfl, ⟨fun _ => fun x dx hx hdx hne => ?_, (nomatch ·)⟩⟩
          have hc3 := s3 _ _ hc1
          have hcx : c ≠ x := ne_of_none hc3 hx
          have hcd : c ≠ dx := ne_of_none hc3 hdx
          refine ⟨dx, cs, long, rfl, hl1, hl2, upd_same, (upd_ne hcx).trans ((upd_ne hcd).trans hc3), by omega, hok.fit cs hcm, hok.kind cs hcm, fun H4 s4 hpil => ⟨rfl, ?_⟩⟩
          have s34 : Same H3 H4 := fun b o e => s4 b o (ne_of_none e hx) (by rw [upd_ne (ne_of_none e hx), upd_ne (ne_of_none e hdx)]; exact e)
          refine LcP.put hD (by rw [sizeLine_eq]; rw [List.length_map] at hi; omega) ha (s3.trans s34) (s34 _ _ d3) ⟨rs ++ [x], by simp, ?_⟩
          rw [hid_upd, take_snoc hcs]
          refine Pts.snoc ?_ (pts_pil (hid_same s34) hrs)
          refine PillarAt.sub (fun b o e => ?_) hpil
          obtain ⟨e1, e2⟩ := vis_some e
          have hb3 : H3 b = none := by
            rcases e1 with rfl | e1
            · exact hx
            · by_cases z : b = x
              · rw [z]
                exact hx
              · rw [upd_ne z] at e1
                by_cases z2 : b = dx
                · rw [z2]
                  exact hdx
                · rwa [upd_ne z2] at e1
          rw [hid_eq (Ne.symm (ne_of_none d3 hb3)) (s1.free (s3.free hb3))]
          exact e2
      · obtain ⟨rs, rfl, hrs⟩ := e3
        have et : (columns xs.length es).take (qs.map V.ref).length = columns xs.length es := List.take_of_length_le (by rw [List.length_map]; omega)
        rw [et] at hrs
        exact h _ D rs (s1.trans s3) (s1.free hD) d3 hrs
    · exact h.elim
theorem atK (T : Txt K mg) (H : Hp) : SqT K H (He.ga K "KINDS") (([Str.ofString "number", Str.ofString "text"] : List Str).map V.str) := kinds_at T H
end
end K90
namespace K90
open PySem PySem.Spec PyProof.Rows L2 RT RZ
def kindsV (kinds : List Bool) : List V := kinds.map fun t => V.str (kindS t)
def kindN (t : Bool) : Int := if t then 1 else 0
theorem rowPart_snoc (f : List Cell → List Int) (l : List (List Cell)) (c : List Cell) : ((l ++ [c]).map f).flatten = (l.map f).flatten ++ f c := by simp
theorem fold_mem {α : Type} (f : α → Nat) : ∀ (r : List α) (x : α), r.foldl (fun a y => if f y < f a then y else a) x = x ∨ r.foldl (fun a y => if f y < f a then y else a) x ∈ r
  | [], x => .inl rfl
  | y :: r, x => by
    rw [List.foldl_cons]
    rcases fold_mem f r (if f y < f x then y else x) with h | h
    · rw [h]
      by_cases c : f y < f x
      · rw [if_pos c]
        exact .inr (by simp)
      · rw [if_neg c]
        exact .inl rfl
    · exact .inr (List.mem_cons_of_mem _ h)
theorem pressed_by (cs : List Cell) : ∃ way, way < 5 ∧ pressBy way cs = some (pressed cs) := by
  have h3 := rowsOf_len cs
  have hm : pressed cs ∈ rowsOf cs := by
    unfold pressed
    cases e : rowsOf cs with
    | nil => rw [e] at h3; simp at h3
    | cons x r =>
      show r.foldl (fun a y => if y.length < a.length then y else a) x ∈ _
      rcases fold_mem List.length r x with h | h
      · rw [h]
        simp
      · exact List.mem_cons_of_mem _ h
  unfold rowsOf at hm
  obtain ⟨way, hw, e⟩ := List.mem_filterMap.mp hm
  exact ⟨way, List.mem_range.mp hw, e⟩
theorem pressed_len {cs : List Cell} (h : Good cs) : (pressed cs).length ≤ 4000 := by
  obtain ⟨way, _, e⟩ := pressed_by cs
  exact pressBy_len h e
theorem flat_take {α : Type} : ∀ {l : List (List α)} {i : Nat} {x : List α}, l[i]? = some x → (l.take i).flatten.length + x.length ≤ l.flatten.length
  | y :: r, 0, x, h => by
    have h : y = x := by simpa using h
    subst h
    simp
  | y :: r, i + 1, x, h => by
    have := flat_take (l := r) (i := i) (x := x) (by simpa using h)
    simp only [List.take_succ_cons, List.flatten_cons, List.length_append]
    omega
theorem flat_take_le {α : Type} (l : List (List α)) (i : Nat) : (l.take i).flatten.length ≤ l.flatten.length := by
  have : l.flatten = (l.take i).flatten ++ (l.drop i).flatten := by rw [← List.flatten_append, List.take_append_drop]
  rw [this, List.length_append]
  omega
def heapPre (kinds : List Bool) (long : Nat) (es : List Entry) : List Int := 72 :: numberBytes kinds.length ++ kinds.map kindN ++ ((long : Int) :: numberBytes es.length)
def rowBytes (c : List Cell) : List Int := numberBytes (pressed c).length ++ pressed c
theorem heapBody_eq (kinds : List Bool) (long : Nat) (es : List Entry) : heapBody kinds long es = heapPre kinds long es ++ ((columns kinds.length es).map (rowPart long)).flatten := rfl
theorem rowPart_eq (long : Nat) (cs : List Cell) : rowPart long cs = ((chunks long cs).map rowBytes).flatten := rfl
section
variable {P : Program} {w : World} {K : PySem.W.Frag} {mg : Str → Option Value} {base : Heap}
def sp_heap_bytes (K : PySem.W.Frag) : Sp := fun vs H Q E => match vs with
  | [.ref k, .int lg, .ref l] => ∃ (kinds : List Bool) (es : List Entry) (long : Nat), lg = long ∧ 1 ≤ long ∧ long ≤ 64 ∧ H k = some (.lst (kindsV kinds)) ∧ kinds.length ≤ 100 ∧ EntsAt H l es ∧ es.length ≤ 100000 ∧ EntOk kinds.length es ∧ (heapBody kinds long es).length ≤ 16776000 ∧ NewI H (heapBytes kinds long es) Q
  | _ => False
theorem sc_heap_bytes : FnScope ["kinds", "long", "entries", "made", "pillar", "row", "kind"] ["kinds", "long", "entries"] (defScope s_heap_bytes) := ⟨rfl, rfl, rfl, by decide +kernel, rfl, by decide +kernel, by decide +kernel⟩
theorem ok_heap_bytes (T : Txt K mg) : Cal P w K mg base 16 "heap_bytes" (sp_heap_bytes K) := by
  obtain ⟨fd, F⟩ := D_heap_bytes T
  refine cal_mk (g_heap_bytes T) F sc_heap_bytes (fun _ _ _ _ _ _ us hl => match us, hl with | [_, _, _], _ => rfl) (fun vs H Q E h => ?len) (fun cdv A outer s H vs Q E hr h => ⟨_, (pss_cons (ps_set (i := 3) sc_heap_bytes.nd rfl (by first | exact Or.inl rfl | exact Or.inr rfl) (pe_op o_add (pe_op o_add (pe_lst (pa_cons (u_int (i_MARK T)) pa_nil)) (u_call (ok_number_bytes T) hr (by decide) (pa_cons (pe_callB (q_len (K := K)) rfl (b_len T) (by decide +kernel) (pa_cons (uv 0) pa_nil)) pa_nil))) (ue_lc (own := [("kind", 6)]) rfl sc_heap_bytes.nd (j_list (uv 0)) rfl (fun _ _ _ _ _ => (pg_name (i := 6) sc_heap_bytes.nd rfl (by first | exact Or.inl rfl | exact Or.inr rfl))) (fun _ _ _ _ _ => pts_nil) (fun _ _ _ _ _ => (q_indexT (K := K) (u_ref (gt_KINDS T)) (pa_cons (uv 6) pa_nil))))))
      (pss_cons (ps_set (i := 3) sc_heap_bytes.nd rfl (by first | exact Or.inl rfl | exact Or.inr rfl) (pe_op o_add (pe_op o_add (uv 3) (pe_lst (pa_cons (uv 1) pa_nil))) (u_call (ok_number_bytes T) hr (by decide) (pa_cons (pe_callB (q_len (K := K)) rfl (b_len T) (by decide +kernel) (pa_cons (uv 2) pa_nil)) pa_nil))))
      (pss_cons (us_for (passes_of rfl) rfl (j_list (u_call (ok_pillars_of T) hr (by decide) (pa_cons (uv 0) (pa_cons (uv 1) (pa_cons (uv 2) pa_nil))))) (pg_name (i := 4) sc_heap_bytes.nd rfl (by first | exact Or.inl rfl | exact Or.inr rfl)) (pss_one (us_for (passes_of rfl) rfl (j_list (u_meth0 (ok_Pillar_rows T) hr (by decide) (uv 4))) (pg_name (i := 5) sc_heap_bytes.nd rfl (by first | exact Or.inl rfl | exact Or.inr rfl)) (pss_one (ps_expr (pe_bm PySem.F.plainAttrs_list PySem.F.slot_list_extend PySem.F.type_list_extend m_extend (uv 3) (pa_cons (pe_op o_add (u_call (ok_number_bytes T) hr (by decide) (pa_cons (pe_callB (q_len (K := K)) rfl (b_len T) (by decide +kernel) (pa_cons (uv 5) pa_nil)) pa_nil)) (uv 5)) pa_nil)))))))
      (pss_one (ps_ret (u_call (ok_summed T) hr (by decide) (pa_cons (uv 3) pa_nil))))))), ?body⟩)
  case len => unfold sp_heap_bytes at h; (split at h) <;> first | rfl | exact h.elim
  case body =>
    unfold sp_heap_bytes at h
    split at h
    · rename_i k lg l
      obtain ⟨kinds, es, long, rfl, hl1, hl2, hk, hx, he, hn, hok, hsz, h⟩ := h
      have hkl : (kindsV kinds).length = kinds.length := by simp [kindsV]
      have hkl2 : ((kindsV kinds).length : Int) = ((kinds.length : Nat) : Int) := by rw [hkl]
      have hnb := numberBytes_len (n := ((kinds.length : Nat) : Int)) (by omega) (by omega)
      have hnb2 := numberBytes_len (n := ((es.length : Nat) : Int)) (by omega) (by omega)
      refine ⟨len1, fun p0 hp0 => ⟨_, .inl (SqL.of ((upd_ne (ne_of_none hk hp0)).trans hk)), ?_⟩⟩
      rw [hkl2]
      refine ⟨by omega, fun H1 p1 s1 hp1 d1 => ⟨_, _, s1 _ _ upd_same, d1, by rw [sizeLine_eq, List.length_map]; simp only [List.length_cons, List.length_nil]; omega, fun p2 hp2 => ?_⟩⟩
      have s01 : Same H H1 := (same_new hp0 (Same.refl _)).trans s1
      have s02 : Same H (upd H1 p2 (.lst ([V.int 72] ++ (numberBytes kinds.length).map V.int))) := same_new (s01.free hp2) s01
      have hk2 := s02 _ _ hk
      refine ⟨⟨_, SqL.of hk2⟩, fun D hD => ?_⟩
      refine LcGoes.by (.list (xs := kindsV kinds)) hD (fun i acc H' => acc = ((kinds.take i).map kindN).map V.int) rfl (fun i acc H' _ s' _ _ => SqL.of (s' _ _ hk2)) (fun i acc v H3 _ hi ha s3 d3 e3 it => ?_) (fun acc H3 ha s3 d3 e3 => ?_)
      · obtain ⟨hv, rfl⟩ := it
        unfold kindsV at hv
        rw [List.getElem?_map] at hv
        cases ep : kinds[i]? with
        | none =>
          rw [ep] at hv
          cases hv
        | some t =>
          rw [ep] at hv
          cases hv
          have put : LcPut D (LcP _ D (fun i acc H' => acc = ((kinds.take i).map kindN).map V.int) (i + 1)) (V.int (kindN t)) H3 := LcP.put hD (by rw [sizeLine_eq]; omega) ha s3 d3 (by
            rw [e3, take_snoc ep]
            simp)
          refine ⟨rfl, ⟨fun _ => ⟨.inr (.inl ⟨rfl, kinds_obj T⟩), ?_⟩, (nomatch ·)⟩⟩
          cases t with
          | false => exact ⟨_, 0, atK T _, rfl, fun m hm => absurd hm (Nat.not_lt_zero _), put⟩
          | true => exact ⟨_, 1, atK T _, rfl, fun m hm => by
              have : m = 0 := by omega
              subst this
              decide, put⟩
      · have e4 : kinds.take (kindsV kinds).length = kinds := List.take_of_length_le (by omega)
        rw [e4] at e3
        rw [e3] at d3
        have s03 := s02.trans s3
        have d2 := s3 _ _ (upd_same (H := H1) (a := p2) (o := .lst ([V.int 72] ++ (numberBytes kinds.length).map V.int)))
        refine ⟨_, _, d2, d3, by rw [sizeLine_eq]; simp only [List.length_map, List.length_cons, List.length_nil, List.length_append]; omega, fun p3 hp3 => ?_⟩
        refine ⟨len1, fun p4 hp4 => ⟨_, _, (upd_ne (ne_of_none upd_same hp4)).trans upd_same, upd_same, by rw [sizeLine_eq]; simp only [List.length_map, List.length_cons, List.length_nil, List.length_append]; omega, fun p5 hp5 => ?_⟩⟩
        have s05 := s03.trans ((same_new (o := .lst ([V.int 72] ++ (numberBytes kinds.length).map V.int ++ (kinds.map kindN).map V.int)) hp3 (Same.refl _)).trans ((same_new (o := .lst [V.int (long : Nat)]) hp4 (Same.refl _)).trans (same_new (o := .lst ([V.int 72] ++ (numberBytes kinds.length).map V.int ++ (kinds.map kindN).map V.int ++ [V.int (long : Nat)])) hp5 (Same.refl _))))
        have d5 := upd_same (H := upd (upd H3 p3 (.lst ([V.int 72] ++ (numberBytes kinds.length).map V.int ++ (kinds.map kindN).map V.int))) p4 (.lst [V.int (long : Nat)])) (a := p5) (o := .lst ([V.int 72] ++ (numberBytes kinds.length).map V.int ++ (kinds.map kindN).map V.int ++ [V.int (long : Nat)]))
        generalize upd (upd (upd H3 p3 (.lst ([V.int 72] ++ (numberBytes kinds.length).map V.int ++ (kinds.map kindN).map V.int))) p4 (.lst [V.int (long : Nat)])) p5 (.lst ([V.int 72] ++ (numberBytes kinds.length).map V.int ++ (kinds.map kindN).map V.int ++ [V.int (long : Nat)])) = H5 at *
        obtain ⟨pe, hle, hpe⟩ := EntsAt.same s05 he
        have hpel := Pts.len hpe
        have elen : ((pe.map V.ref).length : Int) = ((es.length : Nat) : Int) := by rw [List.length_map, hpel]
        refine ⟨_, .inl (SqL.of hle), ?_⟩
        rw [elen]
        refine ⟨by omega, fun H6 p6 s6 hp6 d6 => ⟨_, _, s6 _ _ d5, d6, by rw [sizeLine_eq]; simp only [List.length_map, List.length_cons, List.length_nil, List.length_append]; omega, fun md hmd => ?_⟩⟩
        have s06 := s05.trans s6
        have s07 := s06.trans (same_new (o := .lst ([V.int 72] ++ (numberBytes kinds.length).map V.int ++ (kinds.map kindN).map V.int ++ [V.int (long : Nat)] ++ (numberBytes es.length).map V.int)) hmd (Same.refl _))
        have hmd0 := s06.free hmd
        have dmd : upd H6 md (.lst ([V.int 72] ++ (numberBytes kinds.length).map V.int ++ (kinds.map kindN).map V.int ++ [V.int (long : Nat)] ++ (numberBytes es.length).map V.int)) md = some (.lst ((heapPre kinds long es).map V.int)) := by
          rw [upd_same]
          unfold heapPre
          simp
        generalize upd H6 md (.lst ([V.int 72] ++ (numberBytes kinds.length).map V.int ++ (kinds.map kindN).map V.int ++ [V.int (long : Nat)] ++ (numberBytes es.length).map V.int)) = H7 at *
        refine ⟨_, es, long, rfl, hl1, hl2, s07 _ _ hk, by omega, EntsAt.same s07 he, hn, by rw [hkl]; exact hok, fun H8 pl qs s8 hpl d8 hqs => ?_⟩
        rw [hkl] at hqs
        have hql := Pts.len hqs
        have hcl := columns_len kinds.length es
        have hmdpl : pl ≠ md := fun z => by rw [z, dmd] at hpl; cases hpl
        refine ⟨⟨_, SqL.of d8⟩, ?_⟩
        have hsz' := hsz
        rw [heapBody_eq, List.length_append] at hsz'
        have vis8 : ∀ {H9 : Hp}, SB md H8 H9 → ∀ b o, hid H7 pl H8 b = some o → H9 b = some o := fun {H9} s9 b o e => by
          have e1 := hid_new e
          exact s9 b o (fun z => by rw [z, dmd] at e1; cases e1) (hid_le _ _ e)
        refine ForGoes.by (.list (xs := qs.map V.ref)) (fun i σ H' => ∃ (x y z : Option V), σ = [some (.ref k), some (.int (long : Nat)), some (.ref l), some (.ref md), x, y, z] ∧ SB md H8 H' ∧ H' md = some (.lst ((heapPre kinds long es ++ (((columns kinds.length es).map (rowPart long)).take i).flatten).map V.int))) ⟨none, none, none, rfl, fun b o _ h => h, by rw [s8 _ _ dmd]; simp⟩ ?_ ?_ ?_
        · rintro i _ H9 _ ⟨x, y, z, rfl, s9, d9⟩
          exact SqL.of (s9 _ _ hmdpl d8)
        · rintro i v _ H9 _ hi ⟨x, y, z, rfl, s9, d9⟩ ⟨hv, rfl⟩
          rw [List.getElem?_map] at hv
          cases ep : qs[i]? with
          | none =>
            rw [ep] at hv
            cases hv
          | some q =>
            rw [ep] at hv
            cases hv
            obtain ⟨cs, hcs, hpil⟩ := Pts.get hqs ep
            have hcm := List.mem_of_getElem? hcs
            have hcn := column_len hcm
            have hfit := hok.fit cs hcm
            have hp9 : PillarAt K H9 q long cs := PillarAt.sub (vis8 s9) hpil
            have hp9' := hp9
            obtain ⟨dx, rl, nl, ps0, hins, _, _⟩ := hp9'
            have hrp : ((columns kinds.length es).map (rowPart long))[i]? = some (rowPart long cs) := by rw [List.getElem?_map, hcs]; rfl
            have hft := flat_take hrp
            refine ⟨dx, _, hins, rfl, ⟨long, cs, hp9, by omega, hl2, fun H10 rr ps s10 hrr d10 hps => ?_⟩⟩
            refine ⟨⟨_, SqL.of d10⟩, ?_⟩
            have hpsl := LRows.len hps
            have hrm : rr ≠ md := fun z => by rw [z, d9] at hrr; cases hrr
            have d910 := s10 _ _ d9
            refine ForGoes.by (.list (xs := ps.map V.ref)) (fun j σ H' => ∃ (x z : Option V), σ = [some (.ref k), some (.int (long : Nat)), some (.ref l), some (.ref md), some (.ref q), x, z] ∧ SB md H10 H' ∧ H' md = some (.lst ((heapPre kinds long es ++ (((columns kinds.length es).map (rowPart long)).take i).flatten ++ (((chunks long cs).map rowBytes).take j).flatten).map V.int))) ⟨y, z, rfl, fun b o _ h => h, by rw [d910]; simp⟩ ?_ ?_ ?_
            · rintro j _ H11 _ ⟨x, z, rfl, s11, d11⟩
              exact SqL.of (s11 _ _ hrm d10)
            · rintro j v _ H11 _ hj ⟨x, z, rfl, s11, d11⟩ ⟨hv, rfl⟩
              rw [List.getElem?_map] at hv
              cases eq : ps[j]? with
              | none =>
                rw [eq] at hv
                cases hv
              | some r =>
                rw [eq] at hv
                cases hv
                obtain ⟨bs, hbs, hr⟩ := LRows.get hps eq
                rw [List.getElem?_map] at hbs
                cases ec : (chunks long cs)[j]? with
                | none =>
                  rw [ec] at hbs
                  cases hbs
                | some c =>
                  rw [ec] at hbs
                  cases hbs
                  have hgc : Good c := by
                    unfold chunks at ec
                    rw [List.getElem?_map] at ec
                    cases er : (List.range (chunkN cs.length long))[j]? with
                    | none =>
                      rw [er] at ec
                      cases ec
                    | some j' =>
                      rw [er] at ec
                      cases ec
                      have : j' ∈ List.range (chunkN cs.length long) := List.mem_of_getElem? er
                      exact chunk_good hl1 hl2 hfit (List.mem_range.mp this)
                  have hprl := pressed_len hgc
                  have hr10 := hid_le _ _ hr
                  have hrmd : r ≠ md := fun z => by
                    have := hid_new hr
                    rw [z, d9] at this
                    cases this
                  have hr11 := s11 _ _ hrmd hr10
                  have erl : ((List.map V.int (pressed c)).length : Int) = (((pressed c).length : Nat) : Int) := by rw [List.length_map]
                  have hnr := numberBytes_len (n := (((pressed c).length : Nat) : Int)) (by omega) (by omega)
                  have hrb : ((chunks long cs).map rowBytes)[j]? = some (rowBytes c) := by rw [List.getElem?_map, ec]; rfl
                  have hft2 := flat_take hrb
                  rw [← rowPart_eq] at hft2
                  have hrbl : (rowBytes c).length = (numberBytes (pressed c).length).length + (pressed c).length := List.length_append
                  refine ⟨ty_l d11, ⟨_, .inl (SqL.of hr11), ?_⟩⟩
                  rw [erl]
                  refine ⟨by omega, fun H12 p12 s12 hp12 d12 => ⟨_, _, d12, s12 _ _ hr11, by rw [sizeLine_eq, List.length_map, List.length_map]; omega, fun p13 hp13 => ?_⟩⟩
                  have d11' := s12 _ _ d11
                  refine ⟨_, _, (upd_ne (ne_of_none d11' hp13)).trans d11', upd_same, ?_, ?_⟩
                  · rw [sizeLine_eq]
                    simp only [List.length_append, List.length_map]
                    omega
                  · refine ⟨_, z, rfl, ((s11.same s12).same (same_new hp13 (Same.refl _))).put, ?_⟩
                    rw [upd_same, take_snoc hrb]
                    unfold rowBytes
                    simp
            · rintro _ H11 ⟨x, z, rfl, s11, d11⟩
              have et : ((chunks long cs).map rowBytes).take (ps.map V.ref).length = (chunks long cs).map rowBytes := List.take_of_length_le (by rw [List.length_map] at hpsl ⊢; rw [List.length_map]; omega)
              rw [et, ← rowPart_eq] at d11
              refine ⟨_, _, z, rfl, fun b o hb e => s11 b o hb (s10 _ _ (s9 b o hb e)), ?_⟩
              rw [d11, take_snoc hrp]
              simp
        · rintro _ H9 ⟨x, y, z, rfl, s9, d9⟩
          have et : ((columns kinds.length es).map (rowPart long)).take (qs.map V.ref).length = (columns kinds.length es).map (rowPart long) := List.take_of_length_le (by rw [List.length_map, List.length_map]; omega)
          rw [et, ← heapBody_eq] at d9
          refine ⟨_, d9, by omega, fun H10 q s10 hq d10 => ?_⟩
          have s79 : Same H H10 := fun b o e => s10 _ _ (s9 b o (ne_of_none e hmd0) (s8 _ _ (s07 _ _ e)))
          exact h _ q s79 (s07.free (s8.free (by
            by_cases z : q = md
            · rw [z, d9] at hq
              cases hq
            · cases e : H8 q with
              | none => rfl
              | some o =>
                rw [s9 q o z e] at hq
                cases hq))) d10
    · exact h.elim
end
end K90
namespace K90
open PySem PySem.Spec PyProof.Rows L2 RT RZ
def over : Option Int → Int → Bool
  | some m, x => decide (m < x)
  | none, _ => false
def takeBounded (least : Int) (most : Option Int) (l : List Int) : Option (Int × Nat) := (takeNumber l).bind fun x => if (decide (x.1 < least) || over most x.1) = true then none else some x
def takeKindsN : Nat → List Int → Option (List Bool × Nat)
  | 0, _ => some ([], 0)
  | n + 1, l => (takeByte l).bind fun x => if 2 ≤ x.1 then none else (takeKindsN n (l.drop x.2)).map fun y => (decide (x.1 = 1) :: y.1, x.2 + y.2)
def takeKinds (l : List Int) : Option (List Bool × Nat) := (takeBounded 1 (some 8) l).bind fun x => (takeKindsN x.1.toNat (l.drop x.2)).map fun y => (y.1, x.2 + y.2)
theorem takeBounded_le {a : Int} {m : Option Int} {l : List Int} {x : Int × Nat} (h : takeBounded a m l = some x) : a ≤ x.1 ∧ (∀ b, m = some b → x.1 ≤ b) ∧ 0 < x.2 ∧ x.2 ≤ l.length := by
  unfold takeBounded at h
  rw [Option.bind_eq_some_iff] at h
  obtain ⟨y, e, h⟩ := h
  have := takeNumber_le e
  by_cases c : (decide (y.1 < a) || over m y.1) = true
  · rw [if_pos c] at h
    cases h
  · rw [if_neg c] at h
    cases h
    rw [Bool.or_eq_true, not_or] at c
    refine ⟨by have := c.1; simp at this; omega, fun b hb => ?_, this⟩
    subst hb
    have := c.2
    simp [over] at this
    omega
theorem take_kinds_succ (n : Nat) (l : List Int) : takeKindsN (n + 1) l = (takeByte l).bind fun x => if 2 ≤ x.1 then none else (takeKindsN n (l.drop x.2)).map fun y => (decide (x.1 = 1) :: y.1, x.2 + y.2) := rfl
theorem kindsV_snoc (l : List Bool) (t : Bool) : kindsV l ++ [V.str (kindS t)] = kindsV (l ++ [t]) := by simp [kindsV]
section
variable {P : Program} {w : World} {K : PySem.W.Frag} {mg : Str → Option Value} {base : Heap}
def sp_take_bounded (K : PySem.W.Frag) : Sp := fun vs H Q E => match vs with
  | [.ref r, .int a, .int least, .non] => ∃ (bs : List Int) (n : Nat), a = n ∧ RowAt H r bs ∧ ok (takeBounded least none (bs.drop n)) (fun x => NewT H [.int x.1, .int ((n + x.2 : Nat) : Int)] Q) (Refuse K H E)
  | [.ref r, .int a, .int least, .int m] => ∃ (bs : List Int) (n : Nat), a = n ∧ RowAt H r bs ∧ ok (takeBounded least (some m) (bs.drop n)) (fun x => NewT H [.int x.1, .int ((n + x.2 : Nat) : Int)] Q) (Refuse K H E)
  | _ => False
theorem sc_take_bounded : FnScope ["row", "at", "least", "most", "number"] ["row", "at", "least", "most"] (defScope s_take_bounded) := ⟨rfl, rfl, rfl, by decide +kernel, rfl, by decide +kernel, by decide +kernel⟩
theorem ok_take_bounded (T : Txt K mg) : Cal P w K mg base 5 "take_bounded" (sp_take_bounded K) := by
  obtain ⟨fd, F⟩ := D_take_bounded T
  refine cal_mk (g_take_bounded T) F sc_take_bounded (fun _ _ _ _ _ _ us hl => match us, hl with | [_, _, _, _], _ => rfl) (fun vs H Q E h => ?len) (fun cdv A outer s H vs Q E hr h => ⟨_, (pss_cons (ps_asg (u_callX (ok_take_number T) (takes_of rfl rfl rfl rfl) hr (by decide) (pa_cons (uv 0) (pa_cons (uv 1) pa_nil))) (q_tup (K := K) (n := 2) rfl (hg_cons (pg_name (i := 4) sc_take_bounded.nd rfl (by first | exact Or.inl rfl | exact Or.inr rfl)) (hg_cons (pg_name (i := 1) sc_take_bounded.nd rfl (by first | exact Or.inl rfl | exact Or.inr rfl)) hg_nil))))
      (pss_cons (us_if (PW.pt (uw_or (ut_cmp o_lt (uv 4) (uv 2) (nomark _)) (pw_or1 (PW.pt (uw_and (ut_cmp o_isnot (uv 3) pe_non (nomark _)) (pw_and1 (ut_cmp o_gt (uv 4) (uv 3) (nomark _)))))))) (pss_one (us_bad T (ok_BadBytes T) hr (by decide) (takes_of rfl rfl rfl rfl))) pss_nil)
      (pss_one (ps_ret (pe_tup (pa_cons (uv 4) (pa_cons (uv 1) pa_nil))))))), ?body⟩)
  case len => unfold sp_take_bounded at h; (split at h) <;> first | rfl | exact h.elim
  case body =>
    unfold sp_take_bounded at h
    split at h
    · rename_i r a least
      obtain ⟨bs, n, rfl, hR, h⟩ := h
      unfold takeBounded at h
      rw [ok_bind] at h
      refine ⟨bs, n, rfl, hR, ok_imp h (fun x _ hx H1 p s1 hp d1 => ?_) id⟩
      refine ⟨_, SqT.of d1, rfl, ⟨fun c => ?_, fun c => ⟨fun e => absurd e (by decide), fun _ => ⟨(nomatch ·), fun _ => ⟨len2, ?_⟩⟩⟩⟩⟩
      · have c : x.1 < least := of_decide_eq_true c
        rw [if_pos (by simp [c])] at hx
        exact ⟨fun _ => Refuse.mono hx s1, (nomatch ·)⟩
      · have c : ¬ x.1 < least := of_decide_eq_false c
        rw [if_neg (by simp [c, over])] at hx
        exact NewT.upd hx s1
    · rename_i r a least m
      obtain ⟨bs, n, rfl, hR, h⟩ := h
      unfold takeBounded at h
      rw [ok_bind] at h
      refine ⟨bs, n, rfl, hR, ok_imp h (fun x _ hx H1 p s1 hp d1 => ?_) id⟩
      refine ⟨_, SqT.of d1, rfl, ⟨fun c => ?_, fun c => ⟨fun _ => ⟨fun c2 => ?_, fun c2 => ⟨len2, ?_⟩⟩, fun e => absurd e (by simp)⟩⟩⟩
      · have c : x.1 < least := of_decide_eq_true c
        rw [if_pos (by simp [c])] at hx
        exact ⟨fun _ => Refuse.mono hx s1, (nomatch ·)⟩
      · have c2 : m < x.1 := of_decide_eq_true c2
        rw [if_pos (by simp [c2, over])] at hx
        exact Refuse.mono hx s1
      · have c : ¬ x.1 < least := of_decide_eq_false c
        have c2 : ¬ m < x.1 := of_decide_eq_false c2
        rw [if_neg (by simp [c, c2, over])] at hx
        exact NewT.upd hx s1
    · exact h.elim
def sp_take_kinds (K : PySem.W.Frag) : Sp := fun vs H Q E => match vs with
  | [.ref r, .int a] => ∃ (bs : List Int) (n : Nat), a = n ∧ NN bs ∧ RowAt H r bs ∧ ok (takeKinds (bs.drop n)) (fun x => NewL1 H (kindsV x.1) (n + x.2) Q) (Refuse K H E)
  | _ => False
theorem sc_take_kinds : FnScope ["row", "at", "many", "kinds", "turn", "byte"] ["row", "at"] (defScope s_take_kinds) := ⟨rfl, rfl, rfl, by decide +kernel, rfl, by decide +kernel, by decide +kernel⟩
theorem ok_take_kinds (T : Txt K mg) : Cal P w K mg base 6 "take_kinds" (sp_take_kinds K) := by
  obtain ⟨fd, F⟩ := D_take_kinds T
  refine cal_mk (g_take_kinds T) F sc_take_kinds (fun _ _ _ _ _ _ us hl => match us, hl with | [_, _], _ => rfl) (fun vs H Q E h => ?len) (fun cdv A outer s H vs Q E hr h => ⟨_, (pss_cons (ps_asg (u_callX (ok_take_bounded T) (takes_of rfl rfl rfl rfl) hr (by decide) (pa_cons (uv 0) (pa_cons (uv 1) (pa_cons pe_int (pa_cons (u_int (i_MOST_COLUMNS T)) pa_nil))))) (q_tup (K := K) (n := 2) rfl (hg_cons (pg_name (i := 2) sc_take_kinds.nd rfl (by first | exact Or.inl rfl | exact Or.inr rfl)) (hg_cons (pg_name (i := 1) sc_take_kinds.nd rfl (by first | exact Or.inl rfl | exact Or.inr rfl)) hg_nil))))
      (pss_cons (ps_set (i := 3) sc_take_kinds.nd rfl (by first | exact Or.inl rfl | exact Or.inr rfl) (pe_lst pa_nil))
      (pss_cons (us_for (passes_of rfl) rfl (j_rng (b_range T) (pa_cons (uv 2) pa_nil)) (pg_name (i := 4) sc_take_kinds.nd rfl (by first | exact Or.inl rfl | exact Or.inr rfl)) (pss_cons (ps_asg (u_callX (ok_take_byte T) (takes_of rfl rfl rfl rfl) hr (by decide) (pa_cons (uv 0) (pa_cons (uv 1) pa_nil))) (q_tup (K := K) (n := 2) rfl (hg_cons (pg_name (i := 5) sc_take_kinds.nd rfl (by first | exact Or.inl rfl | exact Or.inr rfl)) (hg_cons (pg_name (i := 1) sc_take_kinds.nd rfl (by first | exact Or.inl rfl | exact Or.inr rfl)) hg_nil))))
      (pss_cons (us_if (ut_cmp o_ge (uv 5) (pe_callB (q_len (K := K)) rfl (b_len T) (by decide +kernel) (pa_cons (u_ref (gt_KINDS T)) pa_nil)) (nomark _)) (pss_one (us_bad T (ok_BadBytes T) hr (by decide) (takes_of rfl rfl rfl rfl))) pss_nil)
      (pss_one (ps_expr (pe_bm PySem.F.plainAttrs_list PySem.F.slot_list_append PySem.F.type_list_append m_append (uv 3) (pa_cons (pe_ix (q_seq (K := K)) (u_ref (gt_KINDS T)) (uv 5) (fun _ _ => rfl)) pa_nil)))))))
      (pss_one (ps_ret (pe_tup (pa_cons (uv 3) (pa_cons (uv 1) pa_nil)))))))), ?body⟩)
  case len => unfold sp_take_kinds at h; (split at h) <;> first | rfl | exact h.elim
  case body =>
    unfold sp_take_kinds at h
    split at h
    · rename_i r a
      obtain ⟨bs, n, rfl, hnn, hR, h⟩ := h
      unfold takeKinds at h
      rw [ok_bind] at h
      refine ⟨bs, n, rfl, hR, ok_imp h (fun x ex hx H1 p s1 hp d1 => ?_) id⟩
      have hb := takeBounded_le ex
      have hb2 := hb.2.1 8 rfl
      rw [ok_map, List.drop_drop] at hx
      obtain ⟨many, k0⟩ := x
      dsimp only at hx hb hb2 d1
      obtain ⟨m, rfl⟩ := Int.eq_ofNat_of_zero_le (show 0 ≤ many by omega)
      rw [Int.toNat_natCast] at hx
      refine ⟨_, SqT.of d1, rfl, ⟨by decide, fun kl hkl => ?_⟩⟩
      refine ⟨by show -(2 ^ 62) ≤ (m : Int); omega, by show (m : Int) < 2 ^ 62; omega, ?_⟩
      refine ForGoes.by .range (fun i σ H' => ∃ (acc : List Bool) (k : Nat) (x y : Option V), σ = [some (.ref r), some (.int ((n + k : Nat) : Int)), some (.int (m : Nat)), some (.ref kl), x, y] ∧ Same H1 H' ∧ H' kl = some (.lst (kindsV acc)) ∧ acc.length = i ∧ ok (takeKindsN (m - i) (bs.drop (n + k))) (fun x => NewL1 H (kindsV (acc ++ x.1)) (n + k + x.2) Q) (Refuse K H E)) ⟨[], k0, none, none, rfl, same_new hkl (Same.refl _), upd_same, rfl, by simpa [Nat.add_assoc] using hx⟩ (fun _ _ _ _ _ => trivial) ?_ ?_
      · rintro i _ _ H2 _ hi ⟨acc, k, x, y, rfl, s2, d2, la, h⟩ ⟨rfl, rfl⟩
        have hi : i < m := hi
        obtain ⟨f, hf⟩ : ∃ f, m - i = f + 1 := ⟨m - i - 1, by omega⟩
        have ef : m - (i + 1) = f := by omega
        rw [hf, take_kinds_succ, ok_bind] at h
        have s12 := s1.trans s2
        refine ⟨bs, n + k, rfl, hR.same s12, ok_imp h (fun x ex hx H3 p s3 hp d3 => ?_) fun h => Refuse.mono h s12⟩
        have hx0 : 0 ≤ x.1 := by
          cases e : bs.drop (n + k) with
          | nil =>
            rw [e] at ex
            cases ex
          | cons b q =>
            rw [e] at ex
            cases ex
            exact hnn b (List.mem_of_mem_drop (by rw [e]; simp))
        have s13 := s12.trans s3
        refine ⟨_, SqT.of d3, rfl, ⟨_, .inr (kinds_at T _), ⟨fun c => ?_, fun c => ?_⟩⟩⟩
        · have c : (2 : Int) ≤ x.1 := of_decide_eq_true c
          rw [if_pos c] at hx
          exact Refuse.mono hx s13
        · have c : ¬ (2 : Int) ≤ x.1 := of_decide_eq_false c
          rw [if_neg c, ok_map, List.drop_drop] at hx
          have d23 := s3 _ _ d2
          have hat : atI ([V.str "number", V.str "text"] : List V) x.1 = some (.str (kindS (decide (x.1 = 1)))) := by
            have : x.1 = 0 ∨ x.1 = 1 := by omega
            rcases this with z | z <;> rw [z] <;> rfl
          refine ⟨ty_l d23, ⟨_, _, .inr (kinds_at T _), hat, ⟨_, d23, by rw [sizeLine_eq]; unfold kindsV; rw [List.length_map]; omega, ?_⟩⟩⟩
          refine ⟨acc ++ [decide (x.1 = 1)], k + x.2, some (.int (0 + (i : Nat))), some (.int x.1), ?_, same_new hkl (s2.trans s3), by rw [upd_same, kindsV_snoc], by simp [la], ?_⟩
          · rw [← Nat.add_assoc]
            rfl
          · rw [ef, ← Nat.add_assoc]
            refine ok_imp hx (fun y _ hy => ?_) id
            simpa [Nat.add_assoc] using hy
      · rintro _ H2 ⟨acc, k, x, y, rfl, s2, d2, la, h⟩
        have h : ok (takeKindsN (m - m) (bs.drop (n + k))) (fun x => NewL1 H (kindsV (acc ++ x.1)) (n + k + x.2) Q) (Refuse K H E) := h
        rw [Nat.sub_self] at h
        have h : NewL1 H (kindsV (acc ++ [])) (n + k + 0) Q := h
        rw [List.append_nil] at h
        have s12 := s1.trans s2
        refine ⟨len2, fun p hp => ?_⟩
        exact h _ p kl (same_new (s12.free hp) s12) (s12.free hp) (s1.free hkl) ((upd_ne (ne_of_none d2 hp)).trans d2) upd_same
    · exact h.elim
end
end K90
namespace K90
open PySem PySem.Spec PyProof.Rows L2 RT RZ
def takeHeapHead : List Int → Option (List Bool × Nat × Nat × Nat)
  | [] => none
  | b :: r => if b ≠ 72 then none else (takeKinds r).bind fun x => (takeByte (r.drop x.2)).bind fun y => if ¬ (1 ≤ y.1 ∧ y.1 ≤ 64) then none else (takeBounded 1 none (r.drop (x.2 + y.2))).map fun z => (x.1, y.1.toNat, z.1.toNat, 1 + (x.2 + y.2 + z.2))
def takeStretch (l : List Int) : Option (List Cell × Nat) := (takeBounded 1 none l).bind fun x => if l.length < x.2 + x.1.toNat then none else (unpressed ((l.drop x.2).take x.1.toNat)).map fun cs => (cs, x.2 + x.1.toNat)
def takeStretches : Nat → List Int → Option (List Cell × Nat)
  | 0, _ => some ([], 0)
  | n + 1, l => (takeStretch l).bind fun x => (takeStretches n (l.drop x.2)).map fun y => (x.1 ++ y.1, x.2 + y.2)
theorem takeStretch_le {l : List Int} {x : List Cell × Nat} (h : takeStretch l = some x) : 1 ≤ x.2 ∧ x.2 ≤ l.length ∧ Good x.1 := by
  unfold takeStretch at h
  rw [Option.bind_eq_some_iff] at h
  obtain ⟨y, e, h⟩ := h
  have hb := takeBounded_le e
  split at h
  · cases h
  · rw [Option.map_eq_some_iff] at h
    obtain ⟨cs, e2, rfl⟩ := h
    have := reads_of e2
    exact ⟨by dsimp only; omega, by dsimp only; omega, this.2.1⟩
theorem NN.sub {l m : List Int} (h : NN l) (s : ∀ x ∈ m, x ∈ l) : NN m := fun b hb => h b (s b hb)
theorem takeStretches_succ (n : Nat) (l : List Int) : takeStretches (n + 1) l = (takeStretch l).bind fun x => (takeStretches n (l.drop x.2)).map fun y => (x.1 ++ y.1, x.2 + y.2) := rfl
theorem cut_ints {bs : List Int} {n m : Nat} : cutV (bs.map V.int) (some (n : Int)) (some ((n : Int) + (m : Nat))) = ((bs.drop n).take m).map V.int := cut_row
section
variable {P : Program} {w : World} {K : PySem.W.Frag} {mg : Str → Option Value} {base : Heap}
def NewHead (H : Hp) (x : List Bool × Nat × Nat × Nat) (Q : VK) : Prop := ∀ H' p l, Same H H' → H p = none → H l = none → H' l = some (.lst (kindsV x.1)) → H' p = some (.tup [.ref l, .int (x.2.1 : Nat), .int (x.2.2.1 : Nat), .int (x.2.2.2 : Nat)]) → Q (.ref p) H'
def sp_take_heap_head (K : PySem.W.Frag) : Sp := fun vs H Q E => match vs with
  | [.ref r] => ∃ bs : List Int, NN bs ∧ RowAt H r bs ∧ ok (takeHeapHead bs) (fun x => NewHead H x Q) (Refuse K H E)
  | _ => False
theorem sc_take_heap_head : FnScope ["row", "byte", "at", "kinds", "long", "many"] ["row"] (defScope s_take_heap_head) := ⟨rfl, rfl, rfl, by decide +kernel, rfl, by decide +kernel, by decide +kernel⟩
theorem ok_take_heap_head (T : Txt K mg) : Cal P w K mg base 7 "take_heap_head" (sp_take_heap_head K) := by
  obtain ⟨fd, F⟩ := D_take_heap_head T
  refine cal_mk (g_take_heap_head T) F sc_take_heap_head (fun _ _ _ _ _ _ us hl => match us, hl with | [_], _ => rfl) (fun vs H Q E h => ?len) (fun cdv A outer s H vs Q E hr h => ⟨_, (pss_cons (ps_asg (u_callX (ok_take_byte T) (takes_of rfl rfl rfl rfl) hr (by decide) (pa_cons (uv 0) (pa_cons pe_int pa_nil))) (q_tup (K := K) (n := 2) rfl (hg_cons (pg_name (i := 1) sc_take_heap_head.nd rfl (by first | exact Or.inl rfl | exact Or.inr rfl)) (hg_cons (pg_name (i := 2) sc_take_heap_head.nd rfl (by first | exact Or.inl rfl | exact Or.inr rfl)) hg_nil))))
      (pss_cons (us_if (ut_cmp (o_ne hr.units) (uv 1) (u_int (i_MARK T)) (nomark _)) (pss_one (us_bad T (ok_BadBytes T) hr (by decide) (takes_of rfl rfl rfl rfl))) pss_nil)
      (pss_cons (ps_asg (u_callX (ok_take_kinds T) (takes_of rfl rfl rfl rfl) hr (by decide) (pa_cons (uv 0) (pa_cons (uv 2) pa_nil))) (q_tup (K := K) (n := 2) rfl (hg_cons (pg_name (i := 3) sc_take_heap_head.nd rfl (by first | exact Or.inl rfl | exact Or.inr rfl)) (hg_cons (pg_name (i := 2) sc_take_heap_head.nd rfl (by first | exact Or.inl rfl | exact Or.inr rfl)) hg_nil))))
      (pss_cons (ps_asg (u_callX (ok_take_byte T) (takes_of rfl rfl rfl rfl) hr (by decide) (pa_cons (uv 0) (pa_cons (uv 2) pa_nil))) (q_tup (K := K) (n := 2) rfl (hg_cons (pg_name (i := 4) sc_take_heap_head.nd rfl (by first | exact Or.inl rfl | exact Or.inr rfl)) (hg_cons (pg_name (i := 2) sc_take_heap_head.nd rfl (by first | exact Or.inl rfl | exact Or.inr rfl)) hg_nil))))
      (pss_cons (us_if (pt_not (ut_chain o_le o_le pe_int (uv 4) (u_int (i_MOST_LONG T)))) (pss_one (us_bad T (ok_BadBytes T) hr (by decide) (takes_of rfl rfl rfl rfl))) pss_nil)
      (pss_cons (ps_asg (u_callX (ok_take_bounded T) (takes_of rfl rfl rfl rfl) hr (by decide) (pa_cons (uv 0) (pa_cons (uv 2) (pa_cons pe_int (pa_cons pe_non pa_nil))))) (q_tup (K := K) (n := 2) rfl (hg_cons (pg_name (i := 5) sc_take_heap_head.nd rfl (by first | exact Or.inl rfl | exact Or.inr rfl)) (hg_cons (pg_name (i := 2) sc_take_heap_head.nd rfl (by first | exact Or.inl rfl | exact Or.inr rfl)) hg_nil))))
      (pss_one (ps_ret (pe_tup (pa_cons (uv 3) (pa_cons (uv 4) (pa_cons (uv 5) (pa_cons (uv 2) pa_nil))))))))))))), ?body⟩)
  case len => unfold sp_take_heap_head at h; (split at h) <;> first | rfl | exact h.elim
  case body =>
    unfold sp_take_heap_head at h
    split at h
    · rename_i r
      obtain ⟨bs, hnn, hR, h⟩ := h
      refine ⟨bs, 0, rfl, hR, ?_⟩
      cases bs with
      | nil => exact h
      | cons b q =>
        have hnq : NN q := hnn.sub fun x hx => by simp [hx]
        unfold takeHeapHead at h
        dsimp only at h
        intro H1 p s1 hp d1
        refine ⟨_, SqT.of d1, rfl, ⟨rfl, ⟨fun c => ?_, fun c => ?_⟩⟩⟩
        · rw [if_pos (ineT c)] at h
          exact Refuse.mono h s1
        · rw [if_neg (fun z => z (ineF c)), ok_bind] at h
          refine ⟨_, 1, rfl, hnn, hR.same s1, ok_imp h (fun x ex hx H2 p2 l2 s2 hp2 hl2 dl2 d2 => ?_) fun h => Refuse.mono h s1⟩
          rw [ok_bind] at hx
          have s12 := s1.trans s2
          refine ⟨_, SqT.of d2, rfl, ⟨b :: q, 1 + x.2, rfl, hR.same s12, ok_imp (show ok (takeByte ((b :: q).drop (1 + x.2))) _ _ by rw [Nat.add_comm 1]; exact hx) (fun y ey hy H3 p3 s3 hp3 d3 => ?_) fun h => Refuse.mono h s12⟩⟩
          have s13 := s12.trans s3
          have bad : ¬ (1 ≤ y.1 ∧ y.1 ≤ 64) → Refuse K H3 E := fun c => by
            rw [if_pos c] at hy
            exact Refuse.mono hy s13
          refine ⟨_, SqT.of d3, rfl, ⟨fun c1 => ⟨fun c2 => bad ?_, fun c2 => ?_⟩, fun c1 => ⟨fun _ => bad ?_, (nomatch ·)⟩⟩⟩
          · have c2 : ¬ y.1 ≤ 64 := by simpa using c2
            exact fun z => c2 z.2
          · have c1 : 1 ≤ y.1 := of_decide_eq_true c1
            have c2 : y.1 ≤ 64 := by simpa using c2
            rw [if_neg (fun z => z ⟨c1, c2⟩), ok_map] at hy
            refine ⟨b :: q, 1 + x.2 + y.2, rfl, hR.same s13, ok_imp (show ok (takeBounded 1 none ((b :: q).drop (1 + x.2 + y.2))) _ _ by rw [Nat.add_assoc, Nat.add_comm 1]; exact hy) (fun z ez hz H4 p4 s4 hp4 d4 => ?_) fun h => Refuse.mono h s13⟩
            have hb := takeBounded_le ez
            have s14 := s13.trans s4
            refine ⟨_, SqT.of d4, rfl, ⟨len4, fun t ht => ?_⟩⟩
            have dl4 := s4 _ _ (s3 _ _ dl2)
            refine hz _ t l2 (same_new (s14.free ht) s14) (s14.free ht) (s1.free hl2) ((upd_ne (ne_of_none dl4 ht)).trans dl4) ?_
            rw [upd_same]
            have e1 : ((y.1.toNat : Nat) : Int) = y.1 := Int.toNat_of_nonneg (by omega)
            have e2 : ((z.1.toNat : Nat) : Int) = z.1 := Int.toNat_of_nonneg (by omega)
            have e3 : 1 + x.2 + y.2 + z.2 = 1 + (x.2 + y.2 + z.2) := by omega
            dsimp only
            rw [e1, e2, e3]
          · have c1 : ¬ 1 ≤ y.1 := of_decide_eq_false c1
            exact fun z => c1 z.1
    · exact h.elim
def sp_take_stretch (K : PySem.W.Frag) : Sp := fun vs H Q E => match vs with
  | [.ref r, .int a] => ∃ (bs : List Int) (n : Nat), a = n ∧ n ≤ bs.length ∧ NN bs ∧ H r = some (.lst (bs.map V.int)) ∧ ok (takeStretch (bs.drop n)) (fun x => NewL1 H (x.1.map cv) (n + x.2) Q) (Refuse K H E)
  | _ => False
theorem sc_take_stretch : FnScope ["row", "at", "size"] ["row", "at"] (defScope s_take_stretch) := ⟨rfl, rfl, rfl, by decide +kernel, rfl, by decide +kernel, by decide +kernel⟩
theorem ok_take_stretch (T : Txt K mg) : Cal P w K mg base 12 "take_stretch" (sp_take_stretch K) := by
  obtain ⟨fd, F⟩ := D_take_stretch T
  refine cal_mk (g_take_stretch T) F sc_take_stretch (fun _ _ _ _ _ _ us hl => match us, hl with | [_, _], _ => rfl) (fun vs H Q E h => ?len) (fun cdv A outer s H vs Q E hr h => ⟨_, (pss_cons (ps_asg (u_callX (ok_take_bounded T) (takes_of rfl rfl rfl rfl) hr (by decide) (pa_cons (uv 0) (pa_cons (uv 1) (pa_cons pe_int (pa_cons pe_non pa_nil))))) (q_tup (K := K) (n := 2) rfl (hg_cons (pg_name (i := 2) sc_take_stretch.nd rfl (by first | exact Or.inl rfl | exact Or.inr rfl)) (hg_cons (pg_name (i := 1) sc_take_stretch.nd rfl (by first | exact Or.inl rfl | exact Or.inr rfl)) hg_nil))))
      (pss_cons (us_if (ut_cmp o_gt (pe_op o_add (uv 1) (uv 2)) (pe_callB (q_len (K := K)) rfl (b_len T) (by decide +kernel) (pa_cons (uv 0) pa_nil)) (nomark _)) (pss_one (us_bad T (ok_BadBytes T) hr (by decide) (takes_of rfl rfl rfl rfl))) pss_nil)
      (pss_one (ps_ret (pe_tup (pa_cons (u_callX (ok_unpressed T) (takes_of rfl rfl rfl rfl) hr (by decide) (pa_cons (pe_slice (q_sl (K := K)) (uv 0) (u_some (uv 1)) (u_some (pe_op o_add (uv 1) (uv 2)))) pa_nil)) (pa_cons (pe_op o_add (uv 1) (uv 2)) pa_nil))))))), ?body⟩)
  case len => unfold sp_take_stretch at h; (split at h) <;> first | rfl | exact h.elim
  case body =>
    unfold sp_take_stretch at h
    split at h
    · rename_i r a
      obtain ⟨bs, n, rfl, hnl, hnn, hR, h⟩ := h
      unfold takeStretch at h
      rw [ok_bind] at h
      refine ⟨bs, n, rfl, .inl hR, ok_imp h (fun x ex hx H1 p s1 hp d1 => ?_) id⟩
      have hb := takeBounded_le ex
      rw [List.length_drop] at hx hb
      obtain ⟨sz, k⟩ := x
      dsimp only at hx hb d1
      obtain ⟨z, rfl⟩ := Int.eq_ofNat_of_zero_le (show 0 ≤ sz by omega)
      rw [Int.toNat_natCast] at hx
      have hR1 := s1 _ _ hR
      refine ⟨_, SqT.of d1, rfl, ⟨_, .inl (SqL.of hR1), ⟨fun c => ?_, fun c => ?_⟩⟩⟩
      · have c := of_decide_eq_true c
        rw [List.length_map] at c
        rw [if_pos (by omega)] at hx
        exact Refuse.mono hx s1
      · have c := of_decide_eq_false c
        rw [List.length_map] at c
        rw [if_neg (by omega), ok_map, List.drop_drop] at hx
        refine .inl ⟨_, SqL.of hR1, fun q hq => ?_⟩
        rw [cut_ints]
        have s2 : Same H (upd H1 q (.lst (((bs.drop (n + k)).take z).map V.int))) := same_new (s1.free hq) s1
        refine ⟨_, hnn.sub fun x hx => List.mem_of_mem_drop (List.mem_of_mem_take hx), .inl upd_same, ok_imp hx (fun cs _ hcs H3 l3 s3 hl3 d3 => ?_) fun h => Refuse.mono h s2⟩
        have s03 := s2.trans s3
        refine ⟨len2, fun t ht => ?_⟩
        refine hcs _ t l3 (same_new (s03.free ht) s03) (s03.free ht) (s2.free hl3) ((upd_ne (ne_of_none d3 ht)).trans d3) ?_
        rw [upd_same]
        congr 5
        omega
    · exact h.elim
def sp_take_pillar (K : PySem.W.Frag) : Sp := fun vs H Q E => match vs with
  | [.ref r, .int a, .int lg, .int mn] => ∃ (bs : List Int) (n long many : Nat), a = n ∧ lg = long ∧ mn = many ∧ 1 ≤ long ∧ n ≤ bs.length ∧ bs.length ≤ 100000 ∧ NN bs ∧ H r = some (.lst (bs.map V.int)) ∧ ok (takeStretches (chunkN many long) (bs.drop n)) (fun x => NewL1 H (x.1.map cv) (n + x.2) Q) (Refuse K H E)
  | _ => False
theorem chunk_iff {many long j : Nat} (hl : 1 ≤ long) : j < chunkN many long ↔ j * long < many := by
  constructor
  · exact chunk_lt hl
  · intro h
    unfold chunkN
    refine (Nat.le_div_iff_mul_le (show 0 < long by omega)).mpr ?_
    rw [Nat.succ_mul]
    omega
theorem sc_take_pillar : FnScope ["row", "at", "long", "many", "cells", "left", "more"] ["row", "at", "long", "many"] (defScope s_take_pillar) := ⟨rfl, rfl, rfl, by decide +kernel, rfl, by decide +kernel, by decide +kernel⟩
theorem ok_take_pillar (T : Txt K mg) : Cal P w K mg base 13 "take_pillar" (sp_take_pillar K) := by
  obtain ⟨fd, F⟩ := D_take_pillar T
  refine cal_mk (g_take_pillar T) F sc_take_pillar (fun _ _ _ _ _ _ us hl => match us, hl with | [_, _, _, _], _ => rfl) (fun vs H Q E h => ?len) (fun cdv A outer s H vs Q E hr h => ⟨_, (pss_cons (ps_set (i := 4) sc_take_pillar.nd rfl (by first | exact Or.inl rfl | exact Or.inr rfl) (pe_lst pa_nil))
      (pss_cons (ps_set (i := 5) sc_take_pillar.nd rfl (by first | exact Or.inl rfl | exact Or.inr rfl) (uv 3))
      (pss_cons (us_while (passes_of rfl) (ut_cmp o_gt (uv 5) pe_int (nomark _)) (pss_cons (ps_asg (u_callX (ok_take_stretch T) (takes_of rfl rfl rfl rfl) hr (by decide) (pa_cons (uv 0) (pa_cons (uv 1) pa_nil))) (q_tup (K := K) (n := 2) rfl (hg_cons (pg_name (i := 6) sc_take_pillar.nd rfl (by first | exact Or.inl rfl | exact Or.inr rfl)) (hg_cons (pg_name (i := 1) sc_take_pillar.nd rfl (by first | exact Or.inl rfl | exact Or.inr rfl)) hg_nil))))
      (pss_cons (ps_expr (pe_bm PySem.F.plainAttrs_list PySem.F.slot_list_extend PySem.F.type_list_extend m_extend (uv 4) (pa_cons (uv 6) pa_nil)))
      (pss_one (ps_set (i := 5) sc_take_pillar.nd rfl (by first | exact Or.inl rfl | exact Or.inr rfl) (pe_op o_sub (uv 5) (uv 2)))))))
      (pss_one (ps_ret (pe_tup (pa_cons (uv 4) (pa_cons (uv 1) pa_nil)))))))), ?body⟩)
  case len => unfold sp_take_pillar at h; (split at h) <;> first | rfl | exact h.elim
  case body =>
    unfold sp_take_pillar at h
    split at h
    · rename_i r a lg mn
      obtain ⟨bs, n, long, many, rfl, rfl, rfl, hlong, hnl, hbl, hnn, hR, h⟩ := h
      refine ⟨by decide, fun cl hcl => ?_⟩
      refine WhGoes.by (fun m σ H' => ∃ (i k : Nat) (acc : List Cell) (x : Option V), σ = [some (.ref r), some (.int ((n + k : Nat) : Int)), some (.int (long : Nat)), some (.int (many : Nat)), some (.ref cl), some (.int ((many : Int) - (i : Nat) * (long : Nat))), x] ∧ m = chunkN many long - i ∧ i ≤ chunkN many long ∧ i ≤ k ∧ n + k ≤ bs.length ∧ acc.length ≤ i * 64 ∧ Same H H' ∧ H' cl = some (.lst (acc.map cv)) ∧ ok (takeStretches (chunkN many long - i) (bs.drop (n + k))) (fun x => NewL1 H ((acc ++ x.1).map cv) (n + k + x.2) Q) (Refuse K H E)) (chunkN many long) ⟨0, 0, [], none, ?_, rfl, Nat.zero_le _, Nat.le_refl _, hnl, Nat.zero_le _, same_new hcl (Same.refl _), upd_same, h⟩ ?_
      · have e : (many : Int) - ((0 : Nat) : Int) * (long : Nat) = (many : Nat) := by simp
        rw [e]
        rfl
      · rintro m _ H1 ⟨i, k, acc, x, rfl, rfl, hi, hik, hkl, hal, s1, d1, h⟩
        refine ⟨fun c => ⟨WhNx _ _, fun _ _ w => w, ?_⟩, fun c => ?_⟩
        · have c : (0 : Int) < (many : Int) - (i : Nat) * (long : Nat) := of_decide_eq_true c
          have e : ((i : Nat) : Int) * (long : Nat) = ((i * long : Nat) : Int) := by simp
          rw [e] at c
          have hlt : i < chunkN many long := (chunk_iff hlong).mpr (by omega)
          obtain ⟨f, hf⟩ : ∃ f, chunkN many long - i = f + 1 := ⟨chunkN many long - i - 1, by omega⟩
          have ef : chunkN many long - (i + 1) = f := by omega
          rw [hf, takeStretches_succ, ok_bind] at h
          refine ⟨bs, n + k, rfl, hkl, hnn, s1 _ _ hR, ok_imp h (fun y ey hy H2 p2 l2 s2 hp2 hl2 dl2 d2 => ?_) fun h => Refuse.mono h s1⟩
          have hy1 := takeStretch_le ey
          rw [List.length_drop] at hy1
          rw [ok_map, List.drop_drop] at hy
          have hyl := hy1.2.2.len
          refine ⟨_, SqT.of d2, rfl, ?_⟩
          have dc2 := s2 _ _ d1
          refine ⟨ty_l dc2, ⟨_, _, dc2, dl2, by rw [sizeLine_eq, List.length_map, List.length_map]; omega, ?_⟩⟩
          refine ⟨f, by omega, i + 1, k + y.2, acc ++ y.1, some (.ref l2), ?_, by omega, by omega, by omega, by omega, by rw [List.length_append]; omega, same_new hcl (s1.trans s2), by rw [upd_same, List.map_append], ?_⟩
          · have e3 : (many : Int) - (i : Nat) * (long : Nat) - (long : Nat) = (many : Int) - ((i + 1 : Nat) : Int) * (long : Nat) := by
              rw [Int.natCast_succ, Int.add_mul]
              omega
            rw [← e3, ← Nat.add_assoc]
            rfl
          · rw [ef, ← Nat.add_assoc]
            refine ok_imp hy (fun y _ hy => ?_) id
            simpa [Nat.add_assoc] using hy
        · have c : ¬ (0 : Int) < (many : Int) - (i : Nat) * (long : Nat) := of_decide_eq_false c
          have e : ((i : Nat) : Int) * (long : Nat) = ((i * long : Nat) : Int) := by simp
          rw [e] at c
          have hge : ¬ i < chunkN many long := fun z => c (by have := (chunk_iff hlong).mp z; omega)
          have e0 : chunkN many long - i = 0 := by omega
          rw [e0] at h
          have h : NewL1 H ((acc ++ []).map cv) (n + k + 0) Q := h
          rw [List.append_nil] at h
          refine ⟨len2, fun p hp => ?_⟩
          exact h _ p cl (same_new (s1.free hp) s1) (s1.free hp) hcl ((upd_ne (ne_of_none d1 hp)).trans d1) upd_same
    · exact h.elim
end
end K90
namespace K90
open PySem PySem.Spec PyProof.Rows L2 RT RZ
def riseFrom : Int → List Cell → Bool
  | _, [] => true
  | last, .int i :: r => if i ≤ last then false else riseFrom i r
  | _, _ :: _ => false
def isPos : Cell → Bool
  | .int i => decide (1 ≤ i)
  | _ => false
def areEntries (kinds : List Bool) (many : Nat) (cols : List (List Cell)) : Bool :=
  cols.all (fun cs => decide (cs.length = many)) && riseFrom (-1) (cols.headD []) && ((cols[1]?).getD []).all isPos && (kinds.zip (cols.drop 2)).all fun p => p.2.all (Cell.isOf p.1)
theorem notT {b : Bool} (h : (!b) = true) : b = false := by cases b <;> simp_all
theorem notF {b : Bool} (h : (!b) = false) : b = true := by cases b <;> simp_all
section
variable {P : Program} {w : World} {K : PySem.W.Frag} {mg : Str → Option Value} {base : Heap}
def sp_rise_from (K : PySem.W.Frag) : Sp := fun vs H Q E => match vs with
  | [.ref l, .int a] => ∃ cs : List Cell, H l = some (.lst (cs.map cv)) ∧ Q (.bl (riseFrom (a - 1) cs)) H
  | _ => False
theorem sc_rise_from : FnScope ["cells", "least", "last", "cell"] ["cells", "least"] (defScope s_rise_from) := ⟨rfl, rfl, rfl, by decide +kernel, rfl, by decide +kernel, by decide +kernel⟩
theorem ok_rise_from (T : Txt K mg) : Cal P w K mg base 4 "rise_from" (sp_rise_from K) := by
  obtain ⟨fd, F⟩ := D_rise_from T
  refine cal_mk (g_rise_from T) F sc_rise_from (fun _ _ _ _ _ _ us hl => match us, hl with | [_, _], _ => rfl) (fun vs H Q E h => ?len) (fun cdv A outer s H vs Q E hr h => ⟨_, (pss_cons (ps_set (i := 2) sc_rise_from.nd rfl (by first | exact Or.inl rfl | exact Or.inr rfl) (pe_op o_sub (uv 1) pe_int))
      (pss_cons (us_for (passes_of rfl) rfl (j_list (uv 0)) (pg_name (i := 3) sc_rise_from.nd rfl (by first | exact Or.inl rfl | exact Or.inr rfl)) (pss_cons (us_if (PW.pt (uw_or (pt_not (ut_val (u_call (ok_is_number T) hr (by decide) (pa_cons (uv 3) pa_nil)))) (pw_or1 (ut_cmp o_le (uv 3) (uv 2) (nomark _))))) (pss_one (ps_ret pe_bl)) pss_nil)
      (pss_one (ps_set (i := 2) sc_rise_from.nd rfl (by first | exact Or.inl rfl | exact Or.inr rfl) (uv 3)))))
      (pss_one (ps_ret pe_bl)))), ?body⟩)
  case len => unfold sp_rise_from at h; (split at h) <;> first | rfl | exact h.elim
  case body =>
    unfold sp_rise_from at h
    split at h
    · rename_i l a
      obtain ⟨cs, hl, h⟩ := h
      refine ⟨⟨_, SqL.of hl⟩, ?_⟩
      refine ForGoes.by (.list (xs := cs.map cv)) (fun i σ H' => ∃ (last : Int) (x : Option V), σ = [some (.ref l), some (.int a), some (.int last), x] ∧ H = H' ∧ riseFrom last (cs.drop i) = riseFrom (a - 1) cs) ⟨a - 1, none, rfl, rfl, rfl⟩ ?_ ?_ ?_
      · rintro i _ _ _ ⟨last, x, rfl, rfl, e⟩
        exact SqL.of hl
      · rintro i v _ _ _ hi ⟨last, x, rfl, rfl, e⟩ ⟨hv, rfl⟩
        rw [List.getElem?_map] at hv
        cases ep : cs[i]? with
        | none =>
          rw [ep] at hv
          cases hv
        | some c =>
          rw [ep] at hv
          cases hv
          have hil := (List.getElem?_eq_some_iff.mp ep)
          obtain ⟨hil, hge⟩ := hil
          have ed : cs.drop i = c :: cs.drop (i + 1) := by rw [List.drop_eq_getElem_cons hil, hge]
          rw [ed] at e
          cases c with
          | non =>
            refine ⟨fun _ => ?_, fun x => absurd x (by decide)⟩
            rw [← e] at h
            exact ⟨fun _ => h, (nomatch ·)⟩
          | str s =>
            refine ⟨fun _ => ?_, fun x => absurd x (by decide)⟩
            rw [← e] at h
            exact ⟨fun _ => h, (nomatch ·)⟩
          | int j =>
            refine ⟨fun x => absurd x (by decide), fun _ => ⟨fun c => ?_, fun c => ?_⟩⟩
            · have c : j ≤ last := of_decide_eq_true c
              rw [← e] at h
              unfold riseFrom at h
              rw [if_pos c] at h
              exact h
            · have c : ¬ j ≤ last := of_decide_eq_false c
              refine ⟨j, some (.int j), rfl, rfl, ?_⟩
              rw [← e]
              show _ = if j ≤ last then false else riseFrom j (cs.drop (i + 1))
              rw [if_neg c]
      · rintro _ _ ⟨last, x, rfl, rfl, e⟩
        have et : cs.drop (cs.map cv).length = [] := List.drop_eq_nil_of_le (by simp)
        rw [et] at e
        rw [← e] at h
        exact h
    · exact h.elim
def sp_are_entries (K : PySem.W.Frag) : Sp := fun vs H Q E => match vs with
  | [.ref k, .int mn, .ref c] => ∃ (kinds : List Bool) (many : Nat) (qs : List Addr) (cols : List (List Cell)), mn = many ∧ H k = some (.lst (kindsV kinds)) ∧ kinds.length ≤ 100 ∧ H c = some (.lst (qs.map V.ref)) ∧ Pts ColAt H qs cols ∧ cols.length = kinds.length + 2 ∧ (∀ cs ∈ cols, cs.length ≤ 10000000 ∧ ∀ x ∈ cs, x.tok) ∧ ∀ H', Same H H' → Q (.bl (areEntries kinds many cols)) H'
  | _ => False
theorem cut_from {xs : List V} {n : Nat} (h : n ≤ xs.length) : cutV xs (some (n : Int)) none = xs.drop n := by
  unfold cutV
  rw [HT.sIx_nat, HT.sIx_none, Nat.min_eq_left h]
  exact List.take_of_length_le (by rw [List.length_drop]; exact Nat.le_refl _)
theorem sc_are_entries : FnScope ["kinds", "many", "columns", "kind", "cells", "cell"] ["kinds", "many", "columns"] (defScope s_are_entries) := ⟨rfl, rfl, rfl, by decide +kernel, rfl, by decide +kernel, by decide +kernel⟩
theorem ok_are_entries (T : Txt K mg) : Cal P w K mg base 5 "are_entries" (sp_are_entries K) := by
  obtain ⟨fd, F⟩ := D_are_entries T
  refine cal_mk (g_are_entries T) F sc_are_entries (fun _ _ _ _ _ _ us hl => match us, hl with | [_, _, _], _ => rfl) (fun vs H Q E h => ?len) (fun cdv A outer s H vs Q E hr h => ⟨_, (pss_cons (us_if (PW.pt (uw_or (pt_not (ut_val (pe_callB (q_all (K := K)) rfl (b_all T) (by decide +kernel) (pa_cons (ue_lc (own := [("cells", 4)]) rfl sc_are_entries.nd (j_list (uv 2)) rfl (fun _ _ _ _ _ => (pg_name (i := 4) sc_are_entries.nd rfl (by first | exact Or.inl rfl | exact Or.inr rfl))) (fun _ _ _ _ _ => pts_nil) (fun _ _ _ _ _ => (pe_cmpR (o_eq hr.units) (pe_callB (q_len (K := K)) rfl (b_len T) (by decide +kernel) (pa_cons (uv 4) pa_nil)) (uv 1) (nomark _)))) pa_nil)))) (pw_or1 (pt_not (ut_val (u_call (ok_rise_from T) hr (by decide) (pa_cons (pe_ix (q_seq (K := K)) (uv 2) pe_int (fun _ _ => rfl)) (pa_cons pe_int pa_nil)))))))) (pss_one (ps_ret pe_bl)) pss_nil)
      (pss_cons (us_if (pt_not (ut_val (pe_callB (q_all (K := K)) rfl (b_all T) (by decide +kernel) (pa_cons (ue_lc (own := [("cell", 5)]) rfl sc_are_entries.nd (j_list (pe_ix (q_seq (K := K)) (uv 2) pe_int (fun _ _ => rfl))) rfl (fun _ _ _ _ _ => (pg_name (i := 5) sc_are_entries.nd rfl (by first | exact Or.inl rfl | exact Or.inr rfl))) (fun _ _ _ _ _ => pts_nil) (fun _ _ _ _ _ => (ue_and (u_call (ok_is_number T) hr (by decide) (pa_cons (uv 5) pa_nil)) (pe_one (pe_cmpR o_ge (uv 5) pe_int (nomark _)))))) pa_nil)))) (pss_one (ps_ret pe_bl)) pss_nil)
      (pss_cons (us_for (passes_of rfl) rfl (j_zip (b_zip T) (pa_cons (uv 0) (pa_cons (pe_slice (q_sl (K := K)) (uv 2) (u_some pe_int) po_none) pa_nil))) (q_tup (K := K) (n := 2) rfl (hg_cons (pg_name (i := 3) sc_are_entries.nd rfl (by first | exact Or.inl rfl | exact Or.inr rfl)) (hg_cons (pg_name (i := 4) sc_are_entries.nd rfl (by first | exact Or.inl rfl | exact Or.inr rfl)) hg_nil))) (pss_one (us_if (pt_not (ut_val (pe_callB (q_all (K := K)) rfl (b_all T) (by decide +kernel) (pa_cons (ue_lc (own := [("cell", 5)]) rfl sc_are_entries.nd (j_list (uv 4)) rfl (fun _ _ _ _ _ => (pg_name (i := 5) sc_are_entries.nd rfl (by first | exact Or.inl rfl | exact Or.inr rfl))) (fun _ _ _ _ _ => pts_nil) (fun _ _ _ _ _ => (u_call (ok_is_cell_of T) hr (by decide) (pa_cons (uv 3) (pa_cons (uv 5) pa_nil))))) pa_nil)))) (pss_one (ps_ret pe_bl)) pss_nil)))
      (pss_one (ps_ret pe_bl))))), ?body⟩)
  case len => unfold sp_are_entries at h; (split at h) <;> first | rfl | exact h.elim
  case body =>
    unfold sp_are_entries at h
    split at h
    · rename_i k mn c
      obtain ⟨kinds, many, qs, cols, rfl, hk, hx, hc, hq, hcl, hcs, h⟩ := h
      have hql := Pts.len hq
      have hat : ∀ {i : Nat} {v : V}, (qs.map V.ref)[i]? = some v → ∃ q cs, v = .ref q ∧ qs[i]? = some q ∧ cols[i]? = some cs ∧ H q = some (.lst (cs.map cv)) := fun {i v} hv => by
        rw [List.getElem?_map] at hv
        cases ep : qs[i]? with
        | none =>
          rw [ep] at hv
          cases hv
        | some q =>
          rw [ep] at hv
          cases hv
          obtain ⟨cs, h1, h2⟩ := Pts.get hq ep
          exact ⟨q, cs, rfl, rfl, h1, h2⟩
      refine ⟨⟨_, SqL.of hc⟩, fun D hD => ?_⟩
      refine LcGoes.by (.list (xs := qs.map V.ref)) hD (fun i acc H' => acc = ((cols.take i).map fun cs => decide (cs.length = many)).map V.bl) rfl (fun i acc H' _ s' _ _ => SqL.of (s' _ _ hc)) (fun i acc v H3 _ hi ha s3 d3 e3 it => ?_) (fun acc H3 ha s3 d3 e3 => ?_)
      · obtain ⟨hv, rfl⟩ := it
        obtain ⟨q, cs, rfl, _, hci, hqc⟩ := hat hv
        refine ⟨rfl, ⟨fun _ => ⟨_, .inl (SqL.of (s3 _ _ hqc)), ⟨rfl, ?_⟩⟩, (nomatch ·)⟩⟩
        have e : (false != decide (V.int ((cs.map cv).length : Nat) = V.int (many : Nat))) = decide (cs.length = many) := by
          rw [List.length_map]
          by_cases z : cs.length = many
          · rw [z]
            simp
          · rw [decide_eq_false z, decide_eq_false]
            · rfl
            · intro z2
              injection z2 with z2
              omega
        rw [e]
        refine LcP.put hD (by rw [sizeLine_eq]; rw [List.length_map] at hi; omega) ha s3 d3 ?_
        rw [e3, take_snoc hci]
        simp
      · have e4 : cols.take (qs.map V.ref).length = cols := List.take_of_length_le (by rw [List.length_map]; omega)
        rw [e4] at e3
        rw [e3] at d3
        have eall : (List.map (fun cs : List Cell => decide (cs.length = many)) cols).all id = cols.all fun cs => decide (cs.length = many) := by
          rw [List.all_map]
          rfl
        unfold areEntries at h
        obtain ⟨c0, c1, rest, rfl⟩ : ∃ c0 c1 rest, cols = c0 :: c1 :: rest := by
          match cols, hcl with
          | a :: b :: r, _ => exact ⟨a, b, r, rfl⟩
        obtain ⟨q0, q1, qr, rfl⟩ : ∃ q0 q1 qr, qs = q0 :: q1 :: qr := by
          match qs, hql with
          | a :: b :: r, _ => exact ⟨a, b, r, rfl⟩
        obtain ⟨hq0, hq1, hqr⟩ := hq
        refine ⟨_, SqL.of d3, ?_⟩
        rw [eall]
        refine ⟨fun ca => ?_, fun ca => ?_⟩
        · have ca : (List.all (c0 :: c1 :: rest) fun cs => decide (cs.length = many)) = false := notT ca
          rw [ca] at h
          exact ⟨fun _ => h _ s3, (nomatch ·)⟩
        · have ca : (List.all (c0 :: c1 :: rest) fun cs => decide (cs.length = many)) = true := notF ca
          rw [ca] at h
          have a0 : atI ((q0 :: q1 :: qr).map V.ref) 0 = some (.ref q0) := atN (n := 0) rfl
          have a1 : atI ((q0 :: q1 :: qr).map V.ref) 1 = some (.ref q1) := atN (n := 1) rfl
          refine ⟨_, .ref q0, .inl (SqL.of (s3 _ _ hc)), a0, ⟨c0, s3 _ _ hq0, ⟨fun cb => ?_, fun cb => ?_⟩⟩⟩
          · have cb : riseFrom (-1) c0 = false := notT cb
            have h : ∀ H', Same H H' → Q (.bl (true && riseFrom (-1) c0 && _ && _)) H' := h
            rw [cb] at h
            exact h _ s3
          · have cb : riseFrom (-1) c0 = true := notF cb
            have h : ∀ H', Same H H' → Q (.bl (true && riseFrom (-1) c0 && c1.all isPos && (kinds.zip rest).all fun p => p.2.all (Cell.isOf p.1))) H' := h
            rw [cb, Bool.true_and, Bool.true_and] at h
            have hc3 := s3 _ _ hc
            have hq13 : H3 q1 = some (.lst (c1.map cv)) := s3 _ _ hq1
            have hc1s := (hcs c1 (by simp)).1
            refine ⟨_, .ref q1, .inl (SqL.of hc3), a1, ⟨⟨_, SqL.of hq13⟩, fun D1 hD1 => ?_⟩⟩
            refine LcGoes.by (.list (xs := c1.map cv)) hD1 (fun i acc H' => acc = ((c1.take i).map isPos).map V.bl) rfl (fun i acc H' _ s' _ _ => SqL.of (s' _ _ hq13)) (fun i acc v H4 _ hi ha s4 d4 e5 it => ?_) (fun acc H4 ha s4 d4 e5 => ?_)
            · obtain ⟨hv, rfl⟩ := it
              rw [List.getElem?_map] at hv
              cases ep : c1[i]? with
              | none =>
                rw [ep] at hv
                cases hv
              | some c =>
                rw [ep] at hv
                cases hv
                have put : LcPut D1 (LcP H3 D1 (fun i acc H' => acc = ((c1.take i).map isPos).map V.bl) (i + 1)) (V.bl (isPos c)) H4 := LcP.put hD1 (by rw [sizeLine_eq]; rw [List.length_map] at hi; omega) ha s4 d4 (by
                  rw [e5, take_snoc ep]
                  simp)
                refine ⟨rfl, ⟨fun _ => ?_, (nomatch ·)⟩⟩
                cases c with
                | non => exact ⟨(nomatch ·), fun _ => put⟩
                | str s => exact ⟨(nomatch ·), fun _ => put⟩
                | int j => exact ⟨fun _ => put, (nomatch ·)⟩
            · have e6 : c1.take (c1.map cv).length = c1 := List.take_of_length_le (by simp)
              rw [e6] at e5
              rw [e5] at d4
              have eall2 : (List.map isPos c1).all id = c1.all isPos := by
                rw [List.all_map]
                rfl
              refine ⟨_, SqL.of d4, ?_⟩
              rw [eall2]
              have s04 := s3.trans s4
              refine ⟨fun cc => ?_, fun cc => ?_⟩
              · have cc : c1.all isPos = false := notT cc
                rw [cc] at h
                exact h _ s04
              · have cc : c1.all isPos = true := notF cc
                rw [cc, Bool.true_and] at h
                have hc4 := s04 _ _ hc
                have ecut : cutV ((q0 :: q1 :: qr).map V.ref) (some 2) none = qr.map V.ref := cut_from (n := 2) (by simp)
                refine .inl ⟨_, SqL.of hc4, fun p hp => ?_⟩
                rw [ecut]
                have s05 := s04.trans (same_new (o := .lst (qr.map V.ref)) hp (Same.refl _))
                have dp := upd_same (H := H4) (a := p) (o := .lst (qr.map V.ref))
                generalize upd H4 p (.lst (qr.map V.ref)) = H5 at *
                have hk5 := s05 _ _ hk
                have hqrl := Pts.len hqr
                have hrl : rest.length = kinds.length := by simpa using hcl
                refine ⟨_, _, .inl ⟨SqL.of hk5, SqL.of dp, ?_⟩⟩
                have hkv : (kindsV kinds).length = kinds.length := by simp [kindsV]
                refine ForGoes.by (.zip (xs := kindsV kinds) (ys := qr.map V.ref)) (fun i σ H' => ∃ (x y z : Option V), σ = [some (.ref k), some (.int (many : Nat)), some (.ref c), x, y, z] ∧ Same H5 H' ∧ (((kinds.zip rest).drop i).all fun p => p.2.all (Cell.isOf p.1)) = ((kinds.zip rest).all fun p => p.2.all (Cell.isOf p.1))) ⟨none, none, none, rfl, Same.refl _, rfl⟩ ?_ ?_ ?_
                · rintro i _ H6 _ ⟨x, y, z, rfl, s6, e⟩
                  exact ⟨SqL.of (s6 _ _ hk5), SqL.of (s6 _ _ dp)⟩
                · rintro i v _ H6 _ hi ⟨x, y, z, rfl, s6, e⟩ ⟨Tt, vx, vy, rfl, hT, rfl, hvx, hvy⟩
                  unfold kindsV at hvx
                  rw [List.getElem?_map] at hvx
                  cases ek : kinds[i]? with
                  | none =>
                    rw [ek] at hvx
                    cases hvx
                  | some t =>
                    rw [ek] at hvx
                    cases hvx
                    rw [List.getElem?_map] at hvy
                    cases eq : qr[i]? with
                    | none =>
                      rw [eq] at hvy
                      cases hvy
                    | some q =>
                      rw [eq] at hvy
                      cases hvy
                      obtain ⟨cs, hci, hqc⟩ := Pts.get hqr eq
                      have hcsm := hcs cs (by simp [List.mem_of_getElem? hci])
                      have s06 := s05.trans s6
                      have s67 : Same H6 (upd H6 Tt (.tup [V.str (kindS t), V.ref q])) := same_new hT (Same.refl _)
                      have hq7 := s67 _ _ (s06 _ _ hqc)
                      have ed : (kinds.zip rest).drop i = (t, cs) :: (kinds.zip rest).drop (i + 1) := by
                        have hz : (kinds.zip rest)[i]? = some (t, cs) := by
                          rw [List.getElem?_zip_eq_some]
                          exact ⟨ek, hci⟩
                        obtain ⟨h1, h2⟩ := List.getElem?_eq_some_iff.mp hz
                        rw [List.drop_eq_getElem_cons h1, h2]
                      refine ⟨_, SqT.of upd_same, rfl, ⟨⟨_, SqL.of hq7⟩, fun D2 hD2 => ?_⟩⟩
                      refine LcGoes.by (.list (xs := cs.map cv)) hD2 (fun j acc H' => acc = ((cs.take j).map (Cell.isOf t)).map V.bl) rfl (fun j acc H' _ s' _ _ => SqL.of (s' _ _ hq7)) (fun j acc v H8 _ hj ha s8 d8 e8 it => ?_) (fun acc H8 ha s8 d8 e8 => ?_)
                      · obtain ⟨hv, rfl⟩ := it
                        rw [List.getElem?_map] at hv
                        cases ec : cs[j]? with
                        | none =>
                          rw [ec] at hv
                          cases hv
                        | some cc =>
                          rw [ec] at hv
                          cases hv
                          refine ⟨rfl, ⟨fun _ => ⟨t, cc, rfl, rfl, hcsm.2 cc (List.mem_of_getElem? ec), fun H9 s9 => ?_⟩, (nomatch ·)⟩⟩
                          refine LcP.put hD2 (by rw [sizeLine_eq]; rw [List.length_map] at hj; omega) ha (s8.trans s9) (s9 _ _ d8) ?_
                          rw [e8, take_snoc ec]
                          simp
                      · have e9 : cs.take (cs.map cv).length = cs := List.take_of_length_le (by simp)
                        rw [e9] at e8
                        rw [e8] at d8
                        have eall3 : (List.map (Cell.isOf t) cs).all id = cs.all (Cell.isOf t) := by
                          rw [List.all_map]
                          rfl
                        refine ⟨_, SqL.of d8, ?_⟩
                        rw [eall3]
                        have s58 := s6.trans (s67.trans s8)
                        rw [ed, List.all_cons] at e
                        refine ⟨fun cd => ?_, fun cd => ?_⟩
                        · have cd : cs.all (Cell.isOf t) = false := notT cd
                          dsimp only at e
                          rw [cd, Bool.false_and] at e
                          rw [← e] at h
                          exact h _ (s05.trans s58)
                        · have cd : cs.all (Cell.isOf t) = true := notF cd
                          dsimp only at e
                          rw [cd, Bool.true_and] at e
                          exact ⟨_, _, _, rfl, s58, e⟩
                · rintro _ H6 ⟨x, y, z, rfl, s6, e⟩
                  have ez : (kinds.zip rest).drop (min (kindsV kinds).length (qr.map V.ref).length) = [] := List.drop_eq_nil_of_le (by rw [List.length_zip, hkv, List.length_map]; omega)
                  rw [ez] at e
                  rw [← e] at h
                  exact h _ (s05.trans s6)
    · exact h.elim
end
end K90
namespace K90
open PySem PySem.Spec PyProof.Rows L2 RT RZ
/-- a heap -/
def HeapAt (K : PySem.W.Frag) (H : Hp) (x : Addr) (kinds : List Bool) (long : Nat) (es : List Entry) : Prop := ∃ dx kl el, H x = some (.ins (He.ga K "Heap") dx [("own_kinds", .ref kl), ("own_long", .int (long : Nat)), ("own_entries", .ref el)]) ∧ H kl = some (.lst (kindsV kinds)) ∧ EntsAt H el es
theorem HeapAt.same {K : PySem.W.Frag} {H H' : Hp} {x : Addr} {kinds : List Bool} {long : Nat} {es : List Entry} (s : Same H H') (h : HeapAt K H x kinds long es) : HeapAt K H' x kinds long es := by
  obtain ⟨dx, kl, el, h1, h2, h3⟩ := h
  exact ⟨dx, kl, el, s _ _ h1, s _ _ h2, EntsAt.same s h3⟩
section
variable {P : Program} {w : World} {K : PySem.W.Frag} {mg : Str → Option Value} {base : Heap}
def sp_Heap_kinds (K : PySem.W.Frag) : Sp := fun vs H Q E => match vs with
  | [.ref a] => ∃ kinds long es, HeapAt K H a kinds long es ∧ ∀ p, H p = none → Q (.ref p) (upd H p (.lst (kindsV kinds)))
  | _ => False
theorem sc_Heap_kinds : FnScope ["self"] ["self"] (defScope s_Heap_kinds) := ⟨rfl, rfl, rfl, by decide +kernel, rfl, by decide +kernel, by decide +kernel⟩
theorem ok_Heap_kinds (T : Txt K mg) : CalM P w K mg base 3 (He.ga K "Heap") "kinds" (sp_Heap_kinds K) := by
  obtain ⟨fd, F⟩ := D_Heap_kinds T
  refine calM_mk (c_Heap T) (m_Heap_kinds T) F sc_Heap_kinds (fun _ _ _ _ _ _ us hl => match us, hl with | [_], _ => rfl) (fun vs H Q E h => ?len) (fun cdv A outer s H vs Q E hr h => ⟨_, (pss_one (ps_ret (pe_callTy (q_list (K := K)) rfl (b_list T) (by decide +kernel) (pa_cons (u_fld (uv 0) rfl) pa_nil)))), ?body⟩)
  case len => unfold sp_Heap_kinds at h; (split at h) <;> first | rfl | exact h.elim
  case body =>
    unfold sp_Heap_kinds at h
    split at h
    · rename_i a
      obtain ⟨kinds, long, es, ⟨dx, kl, el, h1, h2, h3⟩, h⟩ := h
      exact ⟨_, dx, _, .ref kl, h1, c_Heap T, n_Heap_own_kinds T, rfl, ⟨_, .inl (SqL.of h2), h⟩⟩
    · exact h.elim
def sp_Heap_long (K : PySem.W.Frag) : Sp := fun vs H Q E => match vs with
  | [.ref a] => ∃ kinds long es, HeapAt K H a kinds long es ∧ Q (.int (long : Nat)) H
  | _ => False
theorem sc_Heap_long : FnScope ["self"] ["self"] (defScope s_Heap_long) := ⟨rfl, rfl, rfl, by decide +kernel, rfl, by decide +kernel, by decide +kernel⟩
theorem ok_Heap_long (T : Txt K mg) : CalM P w K mg base 3 (He.ga K "Heap") "long" (sp_Heap_long K) := by
  obtain ⟨fd, F⟩ := D_Heap_long T
  refine calM_mk (c_Heap T) (m_Heap_long T) F sc_Heap_long (fun _ _ _ _ _ _ us hl => match us, hl with | [_], _ => rfl) (fun vs H Q E h => ?len) (fun cdv A outer s H vs Q E hr h => ⟨_, (pss_one (ps_ret (u_fld (uv 0) rfl))), ?body⟩)
  case len => unfold sp_Heap_long at h; (split at h) <;> first | rfl | exact h.elim
  case body =>
    unfold sp_Heap_long at h
    split at h
    · rename_i a
      obtain ⟨kinds, long, es, ⟨dx, kl, el, h1, h2, h3⟩, h⟩ := h
      exact ⟨_, dx, _, .int (long : Nat), h1, c_Heap T, n_Heap_own_long T, rfl, h⟩
    · exact h.elim
def sp_Heap_entries (K : PySem.W.Frag) : Sp := fun vs H Q E => match vs with
  | [.ref a] => ∃ kinds long es, HeapAt K H a kinds long es ∧ ∀ H' p, Same H H' → H p = none → EntsAt H' p es → Q (.ref p) H'
  | _ => False
theorem sc_Heap_entries : FnScope ["self"] ["self"] (defScope s_Heap_entries) := ⟨rfl, rfl, rfl, by decide +kernel, rfl, by decide +kernel, by decide +kernel⟩
theorem ok_Heap_entries (T : Txt K mg) : CalM P w K mg base 3 (He.ga K "Heap") "entries" (sp_Heap_entries K) := by
  obtain ⟨fd, F⟩ := D_Heap_entries T
  refine calM_mk (c_Heap T) (m_Heap_entries T) F sc_Heap_entries (fun _ _ _ _ _ _ us hl => match us, hl with | [_], _ => rfl) (fun vs H Q E h => ?len) (fun cdv A outer s H vs Q E hr h => ⟨_, (pss_one (ps_ret (pe_callTy (q_list (K := K)) rfl (b_list T) (by decide +kernel) (pa_cons (u_fld (uv 0) rfl) pa_nil)))), ?body⟩)
  case len => unfold sp_Heap_entries at h; (split at h) <;> first | rfl | exact h.elim
  case body =>
    unfold sp_Heap_entries at h
    split at h
    · rename_i a
      obtain ⟨kinds, long, es, ⟨dx, kl, el, h1, h2, ps, h3, h4⟩, h⟩ := h
      refine ⟨_, dx, _, .ref el, h1, c_Heap T, n_Heap_own_entries T, rfl, ⟨_, .inl (SqL.of h3), fun p hp => ?_⟩⟩
      have s1 : Same H (upd H p (.lst (ps.map V.ref))) := same_new hp (Same.refl _)
      exact h _ p s1 hp ⟨ps, upd_same, Pts.mono (fun q x h => EntAt.same s1 h) h4⟩
    · exact h.elim
def sp_Heap_pillars (K : PySem.W.Frag) : Sp := fun vs H Q E => match vs with
  | [.ref a] => ∃ kinds long es, HeapAt K H a kinds long es ∧ 1 ≤ long ∧ long ≤ 64 ∧ kinds.length ≤ 100 ∧ es.length ≤ 100000 ∧ EntOk kinds.length es ∧
      ∀ H' p qs, Same H H' → H p = none → H' p = some (.lst (qs.map V.ref)) → Pts (fun H x cs => PillarAt K H x long cs) (hid H p H') qs (columns kinds.length es) → Q (.ref p) H'
  | _ => False
theorem sc_Heap_pillars : FnScope ["self"] ["self"] (defScope s_Heap_pillars) := ⟨rfl, rfl, rfl, by decide +kernel, rfl, by decide +kernel, by decide +kernel⟩
theorem ok_Heap_pillars (T : Txt K mg) : CalM P w K mg base 16 (He.ga K "Heap") "pillars" (sp_Heap_pillars K) := by
  obtain ⟨fd, F⟩ := D_Heap_pillars T
  refine calM_mk (c_Heap T) (m_Heap_pillars T) F sc_Heap_pillars (fun _ _ _ _ _ _ us hl => match us, hl with | [_], _ => rfl) (fun vs H Q E h => ?len) (fun cdv A outer s H vs Q E hr h => ⟨_, (pss_one (ps_ret (u_call (ok_pillars_of T) hr (by decide) (pa_cons (u_fld (uv 0) rfl) (pa_cons (u_fld (uv 0) rfl) (pa_cons (u_fld (uv 0) rfl) pa_nil)))))), ?body⟩)
  case len => unfold sp_Heap_pillars at h; (split at h) <;> first | rfl | exact h.elim
  case body =>
    unfold sp_Heap_pillars at h
    split at h
    · rename_i a
      obtain ⟨kinds, long, es, ⟨dx, kl, el, h1, h2, h3⟩, hl1, hl2, hk, hn, hok, h⟩ := h
      have hkl : (kindsV kinds).length = kinds.length := by simp [kindsV]
      refine ⟨_, dx, _, .ref kl, h1, c_Heap T, n_Heap_own_kinds T, rfl, ⟨_, dx, _, .int (long : Nat), h1, c_Heap T, n_Heap_own_long T, rfl, ⟨_, dx, _, .ref el, h1, c_Heap T, n_Heap_own_entries T, rfl, ⟨kindsV kinds, es, long, rfl, hl1, hl2, h2, by omega, h3, hn, by rw [hkl]; exact hok, ?_⟩⟩⟩⟩
      rw [hkl]
      exact h
    · exact h.elim
end
end K90
namespace K90
open PySem PySem.Spec PyProof.Rows L2 RT RZ
/-- the columns of a heap's row -/
def takeColumns (many long : Nat) : Nat → List Int → Option (List (List Cell) × Nat)
  | 0, _ => some ([], 0)
  | n + 1, l => (takeStretches (chunkN many long) l).bind fun x => (takeColumns many long n (l.drop x.2)).map fun y => (x.1 :: y.1, x.2 + y.2)
def entriesOf (many : Nat) (cols : List (List Cell)) : List Entry := (List.range many).map fun i => ⟨((cols.headD []).getD i Cell.non).toInt, (((cols[1]?).getD []).getD i Cell.non).toInt, (cols.drop 2).map fun c => c.getD i Cell.non⟩
/-! ### the entries of columns -/
def rowAt (cols : List (List Cell)) (i : Nat) : List Cell := (cols.drop 2).map fun c => c.getD i Cell.non
def RowT (H : Hp) (t : Addr) (cs : List Cell) : Prop := H t = some (.tup (cs.map cv))
def bodyOf (row : List Int) : List Int := row.take (row.length - 4)
def heapEnd (row : List Int) (kinds : List Bool) (long many at1 : Nat) (cols : List (List Cell)) : Option (List Bool × Nat × List Entry) :=
  if at1 < (bodyOf row).length then none else if areEntries kinds many cols = true then (if heapBytes kinds long (entriesOf many cols) = row then some (kinds, long, entriesOf many cols) else none) else none
def heapOf (row : List Int) : Option (List Bool × Nat × List Entry) :=
  if row.length < 4 ∨ summed (bodyOf row) ≠ row then none else
  (takeHeapHead (bodyOf row)).bind fun x => (takeColumns x.2.2.1 x.2.1 (x.1.length + 2) ((bodyOf row).drop x.2.2.2)).bind fun y => heapEnd row x.1 x.2.1 x.2.2.1 (x.2.2.2 + y.2) y.1
theorem takeByte_le {l : List Int} {x : Int × Nat} (h : takeByte l = some x) : x.2 = 1 ∧ 1 ≤ l.length := by
  cases l with
  | nil => cases h
  | cons b r =>
    cases h
    exact ⟨rfl, by simp⟩
theorem takeKindsN_le : ∀ {n : Nat} {l : List Int} {x : List Bool × Nat}, takeKindsN n l = some x → x.1.length = n ∧ x.2 ≤ l.length
  | 0, l, x, h => by
    cases h
    exact ⟨rfl, Nat.zero_le _⟩
  | n + 1, l, x, h => by
    unfold takeKindsN at h
    rw [Option.bind_eq_some_iff] at h
    obtain ⟨y, e, h⟩ := h
    have hy := takeByte_le e
    split at h
    · cases h
    · rw [Option.map_eq_some_iff] at h
      obtain ⟨z, e2, rfl⟩ := h
      have hz := takeKindsN_le e2
      rw [List.length_drop] at hz
      exact ⟨by simp [hz.1], by dsimp only; omega⟩
theorem takeKinds_le {l : List Int} {x : List Bool × Nat} (h : takeKinds l = some x) : 1 ≤ x.1.length ∧ x.1.length ≤ 8 ∧ x.2 ≤ l.length := by
  unfold takeKinds at h
  rw [Option.bind_eq_some_iff] at h
  obtain ⟨y, e, h⟩ := h
  have hy := takeBounded_le e
  have hy2 := hy.2.1 8 rfl
  rw [Option.map_eq_some_iff] at h
  obtain ⟨z, e2, rfl⟩ := h
  have hz := takeKindsN_le e2
  rw [List.length_drop] at hz
  refine ⟨?_, ?_, ?_⟩ <;> dsimp only <;> omega
theorem takeHeapHead_le {l : List Int} {x : List Bool × Nat × Nat × Nat} (h : takeHeapHead l = some x) : 1 ≤ x.1.length ∧ x.1.length ≤ 8 ∧ 1 ≤ x.2.1 ∧ x.2.1 ≤ 64 ∧ 1 ≤ x.2.2.1 ∧ x.2.2.2 ≤ l.length := by
  cases l with
  | nil => cases h
  | cons b r =>
    unfold takeHeapHead at h
    dsimp only at h
    split at h
    · cases h
    · rw [Option.bind_eq_some_iff] at h
      obtain ⟨k, e1, h⟩ := h
      rw [Option.bind_eq_some_iff] at h
      obtain ⟨y, e2, h⟩ := h
      have h1 := takeKinds_le e1
      have h2 := takeByte_le e2
      split at h
      · cases h
      · rename_i c
        rw [Option.map_eq_some_iff] at h
        obtain ⟨z, e3, rfl⟩ := h
        have h3 := takeBounded_le e3
        rw [List.length_drop] at h2 h3
        have c : 1 ≤ y.1 ∧ y.1 ≤ 64 := Decidable.not_not.mp c
        have : (b :: r).length = r.length + 1 := rfl
        refine ⟨h1.1, h1.2.1, ?_, ?_, ?_, ?_⟩ <;> dsimp only <;> omega
theorem takeColumns_succ {many long n : Nat} {l : List Int} : takeColumns many long (n + 1) l = (takeStretches (chunkN many long) l).bind fun x => (takeColumns many long n (l.drop x.2)).map fun y => (x.1 :: y.1, x.2 + y.2) := rfl
theorem takeHead_two {l : List Int} {x : Nat × Nat × Nat} (h : takeHead l = some x) : 2 ≤ l.length := by
  match l, h with
  | [], h => cases h
  | [b], h =>
    exfalso
    have h : (if 4 < b then none else (takeCount 64 []).map fun x => (b.toNat, x.1, 1 + x.2)) = some x := h
    rw [show takeCount 64 [] = none from rfl] at h
    split at h <;> cases h
  | _ :: _ :: _, _ => simp
theorem takeStretch_three {l : List Int} {x : List Cell × Nat} (h : takeStretch l = some x) : 3 ≤ x.2 := by
  unfold takeStretch at h
  rw [Option.bind_eq_some_iff] at h
  obtain ⟨y, e, h⟩ := h
  have hb := takeBounded_le e
  split at h
  · cases h
  · rw [Option.map_eq_some_iff] at h
    obtain ⟨cs, e2, rfl⟩ := h
    obtain ⟨_, _, _, way, n, _, e3, _⟩ := reads_of e2
    have := takeHead_two e3
    rw [List.length_take, List.length_drop] at this
    dsimp only
    omega
theorem takeStretches_le : ∀ {n : Nat} {l : List Int} {x : List Cell × Nat}, takeStretches n l = some x → x.2 ≤ l.length ∧ 3 * x.1.length ≤ 64 * x.2 ∧ ∀ c ∈ x.1, c.fit
  | 0, l, x, h => by
    cases h
    exact ⟨Nat.zero_le _, Nat.zero_le _, fun _ h => nomatch h⟩
  | n + 1, l, x, h => by
    rw [takeStretches_succ, Option.bind_eq_some_iff] at h
    obtain ⟨y, e, h⟩ := h
    have hy := takeStretch_le e
    have hyl := hy.2.2.len
    have hy3 := takeStretch_three e
    rw [Option.map_eq_some_iff] at h
    obtain ⟨z, e2, rfl⟩ := h
    have hz := takeStretches_le e2
    rw [List.length_drop] at hz
    refine ⟨?_, ?_, fun c hc => ?_⟩
    · dsimp only; omega
    · dsimp only
      rw [List.length_append]
      omega
    · rcases List.mem_append.mp hc with hc | hc
      · exact hy.2.2.fit c hc
      · exact hz.2.2 c hc
theorem sum_len {many : Nat} : ∀ {acc : List (List Cell)}, (∀ cs ∈ acc, cs.length = many) → (acc.map List.length).sum = acc.length * many
  | [], _ => by simp
  | c :: r, h => by
    have h1 := h c (by simp)
    have h2 := sum_len (acc := r) fun cs hc => h cs (by simp [hc])
    rw [List.map_cons, List.sum_cons, h2, h1, List.length_cons, Nat.succ_mul]
    omega
theorem body_cut {row : List Int} : cutV (row.map V.int) none (some (if ((row.map V.int).length : Nat) - (4 : Int) > 0 then ((row.map V.int).length : Nat) - (4 : Int) else 0)) = (bodyOf row).map V.int := by
  have e : (if ((row.map V.int).length : Nat) - (4 : Int) > 0 then ((row.map V.int).length : Nat) - (4 : Int) else 0) = ((row.length - 4 : Nat) : Int) := by
    rw [List.length_map]
    split <;> omega
  rw [e]
  unfold cutV bodyOf
  rw [HT.sIx_nat, HT.sIx_none, List.length_map, Nat.min_eq_left (Nat.sub_le _ _)]
  simp
section
variable {X : Cx} {K : PySem.W.Frag} {elt tg iter : Expr} {ifs : List Expr} {scope : Scope} {pos pos2 p2 : Pos} {te : TE}
theorem j_listK {l : Expr} {tl : TE} (hl : PE X l tl) (hK : X.K = K := by rfl) : PI X tg l (jList K tl) := hK ▸ j_list hl
theorem u_tupLc (hm : X.mg "tuple" = none) (ha : PE X (.ListComp elt [⟨tg, iter, ifs, 0⟩] scope pos) te) (hK : X.K = K := by rfl) (hg : Gl X "tuple" := by rfl) :
    PE X (.Call (.Name "tuple" p2) [.ListComp elt [⟨tg, iter, ifs, 0⟩] scope pos] [] pos2) (tCB (kTuple K) (tCons te tNil)) :=
  pe_callTy (q_tuple (K := K) hK) hg hm (by decide +kernel) (pa_cons ha pa_nil)
end
end K90
/-! A heap's row is read back. -/
namespace K90
theorem first_split {α : Type} (f : α → Nat) : ∀ (r : List α) (a : α), ∃ pre post, a :: r = pre ++ r.foldl (fun a y => if f y < f a then y else a) a :: post ∧ (∀ z ∈ pre, f (r.foldl (fun a y => if f y < f a then y else a) a) < f z) ∧ ∀ z ∈ post, f (r.foldl (fun a y => if f y < f a then y else a) a) ≤ f z
  | [], a => ⟨[], [], rfl, by simp, by simp⟩
  | y :: r, a => by
    rw [List.foldl_cons]
    by_cases c : f y < f a
    · rw [if_pos c]
      obtain ⟨pre, post, e, h1, h2⟩ := first_split f r y
      refine ⟨a :: pre, post, by rw [e]; rfl, fun z hz => ?_, h2⟩
      rcases List.mem_cons.mp hz with rfl | hz
      · have : f (r.foldl (fun a y => if f y < f a then y else a) y) ≤ f y := by
          have hy : y ∈ pre ++ r.foldl (fun a y => if f y < f a then y else a) y :: post := by rw [← e]; simp
          rcases List.mem_append.mp hy with hy | hy
          · exact Nat.le_of_lt (h1 _ hy)
          · rcases List.mem_cons.mp hy with hy | hy
            · rw [← hy]
              exact Nat.le_refl _
            · exact h2 _ hy
        omega
      · exact h1 z hz
    · rw [if_neg c]
      obtain ⟨pre, post, e, h1, h2⟩ := first_split f r a
      cases pre with
      | nil =>
        injection e with e1 e2
        refine ⟨[], y :: post, ?_, by simp, fun z hz => ?_⟩
        · rw [← e1, e2]
          rfl
        · rw [← e1]
          rw [← e1] at h2
          rcases List.mem_cons.mp hz with rfl | hz
          · omega
          · exact h2 z hz
      | cons b pre =>
        injection e with e1 e2
        subst e1
        have ha := h1 a (by simp)
        refine ⟨a :: y :: pre, post, ?_, fun z hz => ?_, h2⟩
        · exact congrArg (fun z => a :: y :: z) e2
        · rcases List.mem_cons.mp hz with rfl | hz
          · exact ha
          · rcases List.mem_cons.mp hz with rfl | hz
            · omega
            · exact h1 z (by simp [hz])
theorem firstMin_split {α : Type} {f : α → Nat} {l : List α} {x : α} (h : firstMin f l = some x) : ∃ pre post, l = pre ++ x :: post ∧ (∀ z ∈ pre, f x < f z) ∧ ∀ z ∈ post, f x ≤ f z := by
  cases l with
  | nil => cases h
  | cons a r =>
    have h : some (r.foldl (fun a y => if f y < f a then y else a) a) = some x := h
    cases h
    exact first_split f r a
theorem firstMin_mem {α : Type} {f : α → Nat} {l : List α} {x : α} (h : firstMin f l = some x) : x ∈ l := by
  obtain ⟨pre, post, e, _⟩ := firstMin_split h
  rw [e]
  simp
theorem firstMin_le {α : Type} {f : α → Nat} {l : List α} {x y : α} (h : firstMin f l = some x) (hy : y ∈ l) : f x ≤ f y := by
  obtain ⟨pre, post, e, h1, h2⟩ := firstMin_split h
  rw [e] at hy
  rcases List.mem_append.mp hy with hy | hy
  · exact Nat.le_of_lt (h1 _ hy)
  · rcases List.mem_cons.mp hy with hy | hy
    · rw [← hy]
      exact Nat.le_refl _
    · exact h2 _ hy
theorem firstMin_filter {α : Type} {f : α → Nat} {l : List α} {x : α} (h : firstMin f l = some x) : (l.filter fun y => decide (f y = f x))[0]? = some x := by
  obtain ⟨pre, post, e, h1, h2⟩ := firstMin_split h
  have : pre.filter (fun y => decide (f y = f x)) = [] := by
    rw [List.filter_eq_nil_iff]
    intro z hz
    have := h1 z hz
    simp
    omega
  rw [e, List.filter_append, this]
  simp
theorem pressed_first (cs : List Cell) : firstMin List.length (rowsOf cs) = some (pressed cs) := by
  have h := rowsOf_len cs
  cases e : rowsOf cs with
  | nil =>
    rw [e] at h
    simp at h
  | cons a r =>
    unfold pressed
    rw [e]
    rfl
theorem rowsOf_mem {cs : List Cell} {bs : List Int} (h : bs ∈ rowsOf cs) : ∃ way, way ≤ 4 ∧ pressBy way cs = some bs := by
  unfold rowsOf at h
  obtain ⟨way, hw, h4⟩ := List.mem_filterMap.mp h
  have := List.mem_range.mp hw
  exact ⟨way, by omega, h4⟩
theorem pressed_way (cs : List Cell) : ∃ way, way ≤ 4 ∧ pressBy way cs = some (pressed cs) := rowsOf_mem (firstMin_mem (pressed_first cs))
theorem pressed_len2 {cs : List Cell} (g : Good cs) : (pressed cs).length ≤ 11 + 31 * cs.length := by
  have h0 : ((0 : Int) :: numberBytes cs.length ++ cellsBytes cs) ∈ rowsOf cs := by
    unfold rowsOf
    exact List.mem_filterMap.mpr ⟨0, by simp, rfl⟩
  have h1 := firstMin_le (pressed_first cs) h0
  have h2 := cellsBytes_len g.fit
  have h3 := numberBytes_len (n := ((cs.length : Nat) : Int)) (by omega) (by have := g.len; omega)
  simp at h1
  omega
theorem un_pressed {cs : List Cell} (g : Good cs) (hs : isStretch cs = true) : unpressed (pressed cs) = some cs := by
  obtain ⟨way, hw, h⟩ := pressed_way cs
  exact press_round g hs hw h
theorem take_bounded {least n : Int} {most : Option Int} (h1 : least ≤ n) (h2 : ∀ b, most = some b → n ≤ b) (h3 : -4611686018427387904 < n) (h4 : n < 4611686018427387904) (r : List Int) : takeBounded least most (numberBytes n ++ r) = some (n, (numberBytes n).length) := by
  unfold takeBounded
  rw [take_number h3 h4, Option.bind_some]
  rw [if_neg]
  dsimp only
  rw [Bool.or_eq_true, not_or]
  refine ⟨by simp; omega, ?_⟩
  cases most with
  | none => simp [over]
  | some b =>
    have := h2 b rfl
    simp [over]
    omega
theorem take_stretch {c : List Cell} (g : Good c) (hs : isStretch c = true) (r : List Int) : takeStretch (rowBytes c ++ r) = some (c, (rowBytes c).length) := by
  have hl := pressed_len g
  have hp : 1 ≤ (pressed c).length := by
    obtain ⟨way, hw, h⟩ := pressed_way c
    obtain ⟨body, hb⟩ := pressBy_head h
    rw [hb]
    simp
  unfold takeStretch rowBytes
  rw [List.append_assoc, take_bounded (most := none) (by omega) (fun b h => by cases h) (by omega) (by omega), Option.bind_some]
  dsimp only
  rw [Int.toNat_natCast, if_neg (by simp <;> omega), List.drop_left, List.take_left, un_pressed g hs]
  simp
theorem take_stretches : ∀ (css : List (List Cell)) (r : List Int), (∀ c ∈ css, Good c ∧ isStretch c = true) → takeStretches css.length ((css.map rowBytes).flatten ++ r) = some (css.flatten, ((css.map rowBytes).flatten).length)
  | [], r, _ => rfl
  | c :: css, r, h => by
    have hc := h c (by simp)
    rw [List.length_cons, takeStretches_succ, List.map_cons, List.flatten_cons, List.append_assoc, take_stretch hc.1 hc.2, Option.bind_some]
    dsimp only
    rw [List.drop_left, take_stretches css r fun d hd => h d (by simp [hd])]
    simp
theorem chunks_take {long : Nat} {cs : List Cell} (n : Nat) : (((List.range n).map (chunk long cs)).flatten) = cs.take (n * long) := by
  induction n with
  | zero => simp
  | succ n ih =>
    rw [List.range_succ, List.map_append, List.flatten_append, ih, Nat.succ_mul]
    have : cs.take (n * long + long) = cs.take (n * long) ++ (cs.drop (n * long)).take long := List.take_add
    rw [this]
    simp [chunk]
theorem chunkN_mul {n long : Nat} (h : 1 ≤ long) : n ≤ chunkN n long * long := by
  unfold chunkN
  have h1 := Nat.div_add_mod (n + long - 1) long
  have h2 := Nat.mod_lt (n + long - 1) (show 0 < long by omega)
  rw [Nat.mul_comm] at h1
  omega
theorem chunks_flat {long : Nat} {cs : List Cell} (h : 1 ≤ long) : (chunks long cs).flatten = cs := by
  unfold chunks
  rw [chunks_take, List.take_of_length_le (chunkN_mul h)]
theorem stretch_of {cs : List Cell} (h : OneKind cs) (hf : ∀ c ∈ cs, c.fit) : isStretch cs = true := by
  unfold isStretch
  rw [Bool.or_eq_true]
  rcases h with h | h
  · left
    rw [List.all_eq_true]
    intro c hc
    have a := h c hc
    have b := hf c hc
    cases c with
    | non => rfl
    | int i =>
      have b : -1000000000000000000 < i ∧ i < 1000000000000000000 := b
      simp [Cell.isOf]
      split <;> omega
    | str l =>
      rcases a with a | a <;> cases a
  · right
    rw [List.all_eq_true]
    intro c hc
    rcases h c hc with rfl | ⟨l, rfl⟩ <;> rfl
theorem take_part {long many : Nat} {cs : List Cell} (hl : 1 ≤ long) (hl2 : long ≤ 64) (hm : cs.length = many) (hf : ∀ c ∈ cs, c.fit) (hk : OneKind cs) (r : List Int) : takeStretches (chunkN many long) (rowPart long cs ++ r) = some (cs, (rowPart long cs).length) := by
  have h := take_stretches (chunks long cs) r fun c hc => by
    obtain ⟨i, hi, rfl⟩ := List.mem_map.mp hc
    have g := chunk_good hl hl2 hf (List.mem_range.mp hi)
    exact ⟨g, stretch_of (onekind_chunk hk long i) g.fit⟩
  rw [chunks_flat hl] at h
  have e : (chunks long cs).length = chunkN many long := by simp [chunks, hm]
  rw [e] at h
  exact h
theorem take_columns {long many : Nat} (hl : 1 ≤ long) (hl2 : long ≤ 64) : ∀ (cols : List (List Cell)) (r : List Int), (∀ cs ∈ cols, cs.length = many ∧ (∀ c ∈ cs, c.fit) ∧ OneKind cs) → takeColumns many long cols.length ((cols.map (rowPart long)).flatten ++ r) = some (cols, ((cols.map (rowPart long)).flatten).length)
  | [], r, _ => rfl
  | cs :: cols, r, h => by
    have hc := h cs (by simp)
    rw [List.length_cons, takeColumns_succ, List.map_cons, List.flatten_cons, List.append_assoc, take_part hl hl2 hc.1 hc.2.1 hc.2.2, Option.bind_some]
    dsimp only
    rw [List.drop_left, take_columns hl hl2 cols r fun d hd => h d (by simp [hd])]
    simp
theorem take_kindsN : ∀ (kinds : List Bool) (r : List Int), takeKindsN kinds.length (kinds.map kindN ++ r) = some (kinds, kinds.length)
  | [], r => rfl
  | t :: kinds, r => by
    rw [List.length_cons, take_kinds_succ, List.map_cons, List.cons_append]
    show (Option.bind (some (kindN t, 1)) _) = _
    rw [Option.bind_some]
    dsimp only
    rw [if_neg (by cases t <;> decide), show (kindN t :: (kinds.map kindN ++ r)).drop 1 = kinds.map kindN ++ r from rfl, take_kindsN kinds r]
    cases t <;> simp [kindN, Nat.add_comm]
theorem take_heap_head {kinds : List Bool} {long : Nat} {es : List Entry} (h1 : 1 ≤ kinds.length) (h2 : kinds.length ≤ 8) (h3 : 1 ≤ long) (h4 : long ≤ 64) (h5 : 1 ≤ es.length) (h6 : es.length ≤ 100000) (r : List Int) : takeHeapHead (heapPre kinds long es ++ r) = some (kinds, long, es.length, (heapPre kinds long es).length) := by
  have e : heapPre kinds long es ++ r = 72 :: (numberBytes kinds.length ++ (kinds.map kindN ++ ((long : Int) :: (numberBytes es.length ++ r)))) := by simp [heapPre]
  have el : (heapPre kinds long es).length = 1 + ((numberBytes kinds.length).length + kinds.length + 1 + (numberBytes es.length).length) := by
    simp [heapPre]
    omega
  rw [e, el]
  show (if (72 : Int) ≠ 72 then none else (takeKinds (numberBytes kinds.length ++ (kinds.map kindN ++ ((long : Int) :: (numberBytes es.length ++ r))))).bind _) = _
  rw [if_neg (by simp)]
  have ek : takeKinds (numberBytes kinds.length ++ (kinds.map kindN ++ ((long : Int) :: (numberBytes es.length ++ r)))) = some (kinds, (numberBytes kinds.length).length + kinds.length) := by
    unfold takeKinds
    rw [take_bounded (by omega) (fun b h => by cases h; omega) (by omega) (by omega), Option.bind_some]
    dsimp only
    rw [Int.toNat_natCast, List.drop_left, take_kindsN]
    rfl
  rw [ek, Option.bind_some]
  dsimp only
  have d1 : (numberBytes kinds.length ++ (kinds.map kindN ++ ((long : Int) :: (numberBytes es.length ++ r)))).drop ((numberBytes kinds.length).length + kinds.length) = (long : Int) :: (numberBytes es.length ++ r) := by
    rw [← List.append_assoc]
    exact List.drop_left' (by simp)
  rw [d1]
  show (Option.bind (some ((long : Int), 1)) _) = _
  rw [Option.bind_some]
  dsimp only
  rw [if_neg (by omega), ← List.drop_drop, d1]
  show (takeBounded 1 none (numberBytes es.length ++ r)).map _ = _
  rw [take_bounded (by omega) (fun b h => by cases h) (by omega) (by omega)]
  simp
/-- a heap that may be written -/
structure HeapOk (kinds : List Bool) (long : Nat) (es : List Entry) : Prop where
  k1 : 1 ≤ kinds.length
  k8 : kinds.length ≤ 8
  l1 : 1 ≤ long
  l64 : long ≤ 64
  e1 : 1 ≤ es.length
  e2 : es.length ≤ 100000
  row : ∀ e ∈ es, e.row.length = kinds.length
  fit : ∀ cs ∈ columns kinds.length es, ∀ c ∈ cs, c.fit
  are : areEntries kinds es.length (columns kinds.length es) = true
theorem colR_row {kinds : List Bool} {es : List Entry} (h : ∀ e ∈ es, e.row.length = kinds.length) {i : Nat} {e : Entry} (he : es[i]? = some e) : (((List.range kinds.length).map (colR es)).map fun c => c.getD i Cell.non) = e.row := by
  have hr := h e (List.mem_of_getElem? he)
  refine List.ext_getElem? fun j => ?_
  rw [List.map_map, List.getElem?_map]
  by_cases c : j < kinds.length
  · rw [List.getElem?_range c]
    show some ((colR es j).getD i Cell.non) = _
    have : (colR es j)[i]? = some ((e.row[j]?).getD .non) := by
      unfold colR
      rw [List.getElem?_map, he]
      rfl
    rw [List.getD_eq_getElem?_getD, this, List.getElem?_eq_getElem (by omega)]
    rfl
  · rw [List.getElem?_eq_none (by simp; omega), List.getElem?_eq_none (by omega)]
    rfl
theorem entries_columns {kinds : List Bool} {es : List Entry} (h : ∀ e ∈ es, e.row.length = kinds.length) : entriesOf es.length (columns kinds.length es) = es := by
  refine List.ext_getElem? fun i => ?_
  unfold entriesOf
  rw [List.getElem?_map]
  by_cases c : i < es.length
  · rw [List.getElem?_range c]
    have he := List.getElem?_eq_getElem c
    rw [he]
    show some (Entry.mk _ _ _) = _
    congr 1
    have e1 : ((colN es).getD i Cell.non).toInt = es[i].num := by
      unfold colN
      rw [List.getD_eq_getElem?_getD, List.getElem?_map, he]
      rfl
    have e2 : ((colC es).getD i Cell.non).toInt = es[i].cnt := by
      unfold colC
      rw [List.getD_eq_getElem?_getD, List.getElem?_map, he]
      rfl
    have e3 := colR_row h he
    show Entry.mk ((colN es).getD i Cell.non).toInt ((colC es).getD i Cell.non).toInt (((List.range kinds.length).map (colR es)).map fun c => c.getD i Cell.non) = _
    rw [e1, e2, e3]
  · rw [List.getElem?_eq_none (l := List.range es.length) (by simp; omega), List.getElem?_eq_none (l := es) (by omega)]
    rfl
theorem rise_int : ∀ {a : Int} {cs : List Cell}, riseFrom a cs = true → ∀ c ∈ cs, c.isInt = true
  | _, [], _, c, h => nomatch h
  | a, .int i :: r, h, c, hc => by
    unfold riseFrom at h
    split at h
    · cases h
    · rcases List.mem_cons.mp hc with rfl | hc
      · rfl
      · exact rise_int h c hc
  | _, .non :: _, h, _, _ => by cases h
  | _, .str _ :: _, h, _, _ => by cases h
theorem pos_int {c : Cell} (h : isPos c = true) : c.isInt = true := by
  cases c <;> first | rfl | cases h
theorem are_parts {kinds : List Bool} {many : Nat} {cols : List (List Cell)} (h : areEntries kinds many cols = true) : (∀ cs ∈ cols, cs.length = many) ∧ (∀ c ∈ cols.headD [], c.isInt = true) ∧ (∀ c ∈ (cols[1]?).getD [], c.isInt = true) ∧ ∀ p ∈ kinds.zip (cols.drop 2), ∀ c ∈ p.2, c.isOf p.1 = true := by
  unfold areEntries at h
  simp only [Bool.and_eq_true] at h
  refine ⟨fun cs hc => of_decide_eq_true (List.all_eq_true.mp h.1.1.1 cs hc), rise_int h.1.1.2, fun c hc => pos_int (List.all_eq_true.mp h.1.2 c hc), fun p hp c hc => ?_⟩
  exact List.all_eq_true.mp (List.all_eq_true.mp h.2 p hp) c hc
theorem onekind_of {t : Bool} {cs : List Cell} (h : ∀ c ∈ cs, c.isOf t = true) : OneKind cs := by
  cases t with
  | false =>
    refine .inl fun c hc => ?_
    have := h c hc
    cases c with
    | non => exact .inl rfl
    | int i => exact .inr rfl
    | str l => cases this
  | true =>
    refine .inr fun c hc => ?_
    have := h c hc
    cases c with
    | non => exact .inl rfl
    | int i => simp [Cell.isOf] at this
    | str l => exact .inr ⟨l, rfl⟩
theorem are_kind {kinds : List Bool} {many : Nat} {cols : List (List Cell)} (hl : cols.length = kinds.length + 2) (h : areEntries kinds many cols = true) : ∀ cs ∈ cols, OneKind cs := fun cs hc => by
  have p := are_parts h
  match cols, hl, hc, p with
  | a :: b :: r, hl, hc, p =>
    rcases List.mem_cons.mp hc with rfl | hc
    · exact .inl fun c hc => .inr (p.2.1 c hc)
    · rcases List.mem_cons.mp hc with rfl | hc
      · exact .inl fun c hc => .inr (p.2.2.1 c hc)
      · obtain ⟨i, hi, rfl⟩ := List.getElem_of_mem hc
        have hk : i < kinds.length := by simp at hl; omega
        refine onekind_of (t := kinds[i]) fun c hc => p.2.2.2 (kinds[i], r[i]) ?_ c hc
        have : (kinds.zip r)[i]'(by simp; omega) = (kinds[i], r[i]) := by simp
        rw [← this]
        exact List.getElem_mem _
theorem HeapOk.kind {kinds : List Bool} {long : Nat} {es : List Entry} (h : HeapOk kinds long es) : ∀ cs ∈ columns kinds.length es, OneKind cs := are_kind (columns_len _ _) h.are
theorem HeapOk.ent {kinds : List Bool} {long : Nat} {es : List Entry} (h : HeapOk kinds long es) : EntOk kinds.length es := ⟨h.e1, fun e he => by have := h.row e he; omega, h.fit, h.kind⟩
theorem sumOf_len (row : List Int) : (sumOf row).length = 4 := rfl
theorem heap_round {kinds : List Bool} {long : Nat} {es : List Entry} (h : HeapOk kinds long es) : heapOf (heapBytes kinds long es) = some (kinds, long, es) := by
  have hb : bodyOf (heapBytes kinds long es) = heapBody kinds long es := by
    unfold bodyOf heapBytes summed
    rw [List.length_append, sumOf_len]
    exact List.take_left' (by omega)
  have hl : 4 ≤ (heapBytes kinds long es).length := by
    unfold heapBytes summed
    rw [List.length_append, sumOf_len]
    omega
  unfold heapOf
  rw [hb, if_neg (by
    rintro (z | z)
    · omega
    · exact z rfl)]
  rw [heapBody_eq, take_heap_head h.k1 h.k8 h.l1 h.l64 h.e1 h.e2, Option.bind_some]
  dsimp only
  have hc := take_columns (many := es.length) h.l1 h.l64 (columns kinds.length es) [] fun cs hc => ⟨column_len hc, h.fit cs hc, h.kind cs hc⟩
  rw [List.append_nil, columns_len] at hc
  rw [List.drop_left, hc, Option.bind_some]
  dsimp only
  unfold heapEnd
  rw [hb, heapBody_eq, if_neg (by simp), if_pos h.are, entries_columns h.row, if_pos rfl]
theorem range_getD {l : List Cell} {n : Nat} (h : l.length = n) : (List.range n).map (fun i => l.getD i Cell.non) = l := by
  subst h
  refine List.ext_getElem (by simp) fun i h1 h2 => ?_
  simp [List.getD_eq_getElem?_getD, List.getElem?_eq_getElem h2]
theorem int_toInt {c : Cell} (h : c.isInt = true) : Cell.int c.toInt = c := by cases c <;> first | rfl | cases h
theorem range_ints {l : List Cell} {n : Nat} (h : l.length = n) (hi : ∀ c ∈ l, c.isInt = true) : (List.range n).map (fun i => Cell.int (l.getD i Cell.non).toInt) = l := by
  conv => rhs; rw [← range_getD h]
  refine List.map_congr_left fun i hx => int_toInt ?_
  have : i < l.length := by have := List.mem_range.mp hx; omega
  rw [List.getD_eq_getElem?_getD, List.getElem?_eq_getElem this]
  exact hi _ (List.getElem_mem _)
theorem columns_entries {kinds : List Bool} {many : Nat} {cols : List (List Cell)} (hl : cols.length = kinds.length + 2) (h : areEntries kinds many cols = true) : columns kinds.length (entriesOf many cols) = cols := by
  have p := are_parts h
  match cols, hl, p with
  | a :: b :: r, hl, p =>
    have hr : r.length = kinds.length := by simp at hl; omega
    have ea : colN (entriesOf many (a :: b :: r)) = a := by
      unfold colN entriesOf
      rw [List.map_map]
      exact range_ints (p.1 a (by simp)) p.2.1
    have eb : colC (entriesOf many (a :: b :: r)) = b := by
      unfold colC entriesOf
      rw [List.map_map]
      exact range_ints (p.1 b (by simp)) p.2.2.1
    have er : (List.range kinds.length).map (colR (entriesOf many (a :: b :: r))) = r := by
      refine List.ext_getElem (by simp [hr]) fun j h1 h2 => ?_
      rw [List.getElem_map, List.getElem_range]
      unfold colR entriesOf
      rw [List.map_map]
      conv => rhs; rw [← range_getD (p.1 r[j] (by simp))]
      refine List.map_congr_left fun i _ => ?_
      show ((r.map fun c => c.getD i Cell.non)[j]?).getD .non = _
      rw [List.getElem?_map, List.getElem?_eq_getElem h2]
      rfl
    show colN _ :: colC _ :: _ = _
    rw [ea, eb, er]
theorem HeapOk.read {kinds : List Bool} {long many : Nat} {cols : List (List Cell)} (k1 : 1 ≤ kinds.length) (k8 : kinds.length ≤ 8) (l1 : 1 ≤ long) (l64 : long ≤ 64) (m1 : 1 ≤ many) (m2 : many ≤ 100000) (hl : cols.length = kinds.length + 2) (hf : ∀ cs ∈ cols, ∀ c ∈ cs, c.fit) (h : areEntries kinds many cols = true) : HeapOk kinds long (entriesOf many cols) := by
  have e : (entriesOf many cols).length = many := by simp [entriesOf]
  refine ⟨k1, k8, l1, l64, by omega, by omega, fun x hx => ?_, ?_, ?_⟩
  · unfold entriesOf at hx
    obtain ⟨i, _, rfl⟩ := List.mem_map.mp hx
    simp [hl]
  · rw [columns_entries hl h]
    exact hf
  · rw [columns_entries hl h, e]
    exact h
theorem rowsBytes_len : ∀ (css : List (List Cell)), (∀ c ∈ css, Good c) → ((css.map rowBytes).flatten).length ≤ 52 * css.flatten.length
  | [], _ => by simp
  | c :: r, h => by
    have g := h c (by simp)
    have h1 := pressed_len2 g
    have h2 := numberBytes_len (n := (((pressed c).length : Nat) : Int)) (by omega) (by have := pressed_len g; omega)
    have ih := rowsBytes_len r fun d hd => h d (by simp [hd])
    have gp := g.pos
    rw [List.map_cons, List.flatten_cons, List.length_append, List.flatten_cons, List.length_append]
    have : (rowBytes c).length = (numberBytes (pressed c).length).length + (pressed c).length := by simp [rowBytes]
    omega
theorem rowPart_len {long : Nat} {cs : List Cell} (hl : 1 ≤ long) (hl2 : long ≤ 64) (hf : ∀ c ∈ cs, c.fit) : (rowPart long cs).length ≤ 52 * cs.length := by
  have h := rowsBytes_len (chunks long cs) fun c hc => by
    obtain ⟨i, hi, rfl⟩ := List.mem_map.mp hc
    exact chunk_good hl hl2 hf (List.mem_range.mp hi)
  rw [chunks_flat hl] at h
  exact h
theorem parts_len {long : Nat} (hl : 1 ≤ long) (hl2 : long ≤ 64) : ∀ (cols : List (List Cell)), (∀ cs ∈ cols, ∀ c ∈ cs, c.fit) → ((cols.map (rowPart long)).flatten).length ≤ 52 * (cols.map List.length).sum
  | [], _ => by simp
  | cs :: r, h => by
    have h1 := rowPart_len hl hl2 (h cs (by simp))
    have ih := parts_len hl hl2 r fun d hd => h d (by simp [hd])
    rw [List.map_cons, List.flatten_cons, List.length_append, List.map_cons, List.sum_cons]
    omega
theorem HeapOk.body_len {kinds : List Bool} {long : Nat} {es : List Entry} (h : HeapOk kinds long es) : (heapBody kinds long es).length ≤ 30 + 52 * ((kinds.length + 2) * es.length) := by
  have h1 := parts_len h.l1 h.l64 (columns kinds.length es) h.fit
  have h2 := sum_len (many := es.length) (acc := columns kinds.length es) fun cs hc => column_len hc
  rw [h2, columns_len] at h1
  have h3 := numberBytes_len (n := ((kinds.length : Nat) : Int)) (by omega) (by have := h.k8; omega)
  have h4 := numberBytes_len (n := ((es.length : Nat) : Int)) (by omega) (by have := h.e2; omega)
  have h5 : (heapPre kinds long es).length = 1 + ((numberBytes kinds.length).length + kinds.length + 1 + (numberBytes es.length).length) := by
    simp [heapPre]
    omega
  have h6 := h.k8
  rw [heapBody_eq, List.length_append]
  omega
/-- a row that is read is the row of what is read -/
theorem heap_read {row : List Int} {kinds : List Bool} {long : Nat} {es : List Entry} (h : heapOf row = some (kinds, long, es)) : heapBytes kinds long es = row := by
  unfold heapOf at h
  split at h
  · cases h
  · rw [Option.bind_eq_some_iff] at h
    obtain ⟨x, _, h⟩ := h
    rw [Option.bind_eq_some_iff] at h
    obtain ⟨y, _, h⟩ := h
    unfold heapEnd at h
    split at h
    · cases h
    · split at h
      · split at h
        · rename_i e
          cases h
          exact e
        · cases h
      · cases h
theorem takeColumns_ok {many long : Nat} : ∀ {n : Nat} {l : List Int} {x : List (List Cell) × Nat}, takeColumns many long n l = some x → x.2 ≤ l.length ∧ x.1.length = n ∧ 3 * (x.1.map List.length).sum ≤ 64 * x.2 ∧ ∀ cs ∈ x.1, ∀ c ∈ cs, c.fit
  | 0, l, x, h => by
    cases h
    simp
  | n + 1, l, x, h => by
    rw [takeColumns_succ, Option.bind_eq_some_iff] at h
    obtain ⟨y, e1, h⟩ := h
    rw [Option.map_eq_some_iff] at h
    obtain ⟨z, e2, rfl⟩ := h
    have h1 := takeStretches_le e1
    have h2 := takeColumns_ok e2
    rw [List.length_drop] at h2
    refine ⟨?_, ?_, ?_, fun cs hc => ?_⟩
    · dsimp only; omega
    · simp [h2.2.1]
    · rw [List.map_cons, List.sum_cons]
      dsimp only
      omega
    · rcases List.mem_cons.mp hc with rfl | hc
      · exact h1.2.2
      · exact h2.2.2.2 cs hc
theorem heap_read_ok {row : List Int} {kinds : List Bool} {long : Nat} {es : List Entry} (hl : row.length ≤ 12000) (h : heapOf row = some (kinds, long, es)) : HeapOk kinds long es := by
  have hb : (bodyOf row).length ≤ 12000 := by
    unfold bodyOf
    rw [List.length_take]
    omega
  unfold heapOf at h
  split at h
  · cases h
  · rw [Option.bind_eq_some_iff] at h
    obtain ⟨x, e1, h⟩ := h
    rw [Option.bind_eq_some_iff] at h
    obtain ⟨y, e2, h⟩ := h
    have h1 := takeHeapHead_le e1
    have h2 := takeColumns_ok e2
    rw [List.length_drop] at h2
    unfold heapEnd at h
    split at h
    · cases h
    · split at h
      · rename_i ha
        split at h
        · cases h
          have h3 := sum_len (are_parts ha).1
          have h4 : 3 * x.2.2.1 ≤ y.1.length * x.2.2.1 := Nat.mul_le_mul_right _ (by omega)
          refine HeapOk.read h1.1 h1.2.1 h1.2.2.1 h1.2.2.2.1 h1.2.2.2.2.1 (by omega) h2.2.1 h2.2.2.2 ha
        · cases h
      · cases h
end K90
namespace K90
open PySem PySem.Spec PyProof.Rows L2 RT RZ
theorem Pts.of_get {α : Type} {F : Hp → Addr → α → Prop} {H : Hp} : ∀ {vs : List Addr} {os : List α}, vs.length = os.length → (∀ (j : Nat) (p : Addr) (x : α), vs[j]? = some p → os[j]? = some x → F H p x) → Pts F H vs os
  | [], [], _, _ => trivial
  | v :: r, o :: q, hl, h => ⟨h 0 v o rfl rfl, Pts.of_get (by simpa using hl) fun j p x h1 h2 => h (j + 1) p x (by simpa using h1) (by simpa using h2)⟩
  | [], _ :: _, hl, _ => by simp at hl
  | _ :: _, [], hl, _ => by simp at hl
theorem EntsAt.sb {a : Addr} {H H' : Hp} {C dx : Addr} {fs : List (Str × V)} (ha : H a = some (.ins C dx fs)) (s : SB a H H') {l : Addr} {es : List Entry} (h : EntsAt H l es) : EntsAt H' l es := by
  obtain ⟨ps, h1, h2⟩ := h
  refine ⟨ps, s _ _ (fun z => by rw [z, ha] at h1; cases h1) h1, Pts.mono (fun p x h => ?_) h2⟩
  obtain ⟨t, h3, h4⟩ := h
  exact ⟨t, s _ _ (fun z => by rw [z, ha] at h3; cases h3) h3, s _ _ (fun z => by rw [z, ha] at h4; cases h4) h4⟩
theorem entries_get {many : Nat} {cols : List (List Cell)} {j : Nat} (h : j < many) : (entriesOf many cols)[j]? = some ⟨((cols.headD []).getD j Cell.non).toInt, (((cols[1]?).getD []).getD j Cell.non).toInt, rowAt cols j⟩ := by
  unfold entriesOf
  rw [List.getElem?_map, List.getElem?_range h]
  rfl
section
variable {P : Program} {w : World} {K : PySem.W.Frag} {mg : Str → Option Value} {base : Heap}
def sp_Heap_init (K : PySem.W.Frag) : Sp := fun vs H Q E => match vs with
  | [.ref a, .ref r] => ∃ (dx : Addr) (row : List Int), H a = some (.ins (He.ga K "Heap") dx []) ∧ NN row ∧ RowAt H r row ∧ row.length ≤ 12000 ∧ ok (heapOf row) (fun x => ∀ H', SB a H H' → HeapAt K H' a x.1 x.2.1 x.2.2 → Q .non H') (∀ H', SB a H H' → Refuse K H' E)
  | _ => False
theorem sc_Heap_init : FnScope ["self", "row", "told", "body", "kinds", "long", "many", "at", "columns", "turn", "cells", "rows", "place"] ["self", "row"] (defScope s_Heap_init) := ⟨rfl, rfl, rfl, by decide +kernel, rfl, by decide +kernel, by decide +kernel⟩
theorem ok_Heap_init (T : Txt K mg) : CalC P w K mg base 17 "Heap" (He.ga K "Heap") (sp_Heap_init K) := by
  obtain ⟨fd, F⟩ := D_Heap_init T
  refine calC_mk (gc_Heap T) (mk_Heap T) F sc_Heap_init (fun _ _ _ _ _ _ us hl => match us, hl with | [_, _], _ => rfl) (fun vs H Q E h => ?len) (fun cdv A outer s H vs Q E hr h => ⟨_, (pss_cons (ps_set (i := 2) sc_Heap_init.nd rfl (by first | exact Or.inl rfl | exact Or.inr rfl) (pe_callTy (q_list (K := K)) rfl (b_list T) (by decide +kernel) (pa_cons (uv 1) pa_nil)))
      (pss_cons (ps_set (i := 3) sc_Heap_init.nd rfl (by first | exact Or.inl rfl | exact Or.inr rfl) (pe_slice (q_sl (K := K)) (uv 2) po_none (u_some (pe_callB c_max2 rfl (b_max T) (by decide +kernel) (pa_cons pe_int (pa_cons (pe_op o_sub (pe_callB (q_len (K := K)) rfl (b_len T) (by decide +kernel) (pa_cons (uv 2) pa_nil)) (u_int (i_SUM_BYTES T))) pa_nil))))))
      (pss_cons (us_if (PW.pt (uw_or (ut_cmp o_lt (pe_callB (q_len (K := K)) rfl (b_len T) (by decide +kernel) (pa_cons (uv 2) pa_nil)) (u_int (i_SUM_BYTES T)) (nomark _)) (pw_or1 (ut_cmp (o_ne hr.units) (u_call (ok_summed T) hr (by decide) (pa_cons (uv 3) pa_nil)) (uv 2) (nomark _))))) (pss_one (us_bad T (ok_BadBytes T) hr (by decide) (takes_of rfl rfl rfl rfl))) pss_nil)
      (pss_cons (ps_asg (u_callX (ok_take_heap_head T) (takes_of rfl rfl rfl rfl) hr (by decide) (pa_cons (uv 3) pa_nil)) (q_tup (K := K) (n := 4) rfl (hg_cons (pg_name (i := 4) sc_Heap_init.nd rfl (by first | exact Or.inl rfl | exact Or.inr rfl)) (hg_cons (pg_name (i := 5) sc_Heap_init.nd rfl (by first | exact Or.inl rfl | exact Or.inr rfl)) (hg_cons (pg_name (i := 6) sc_Heap_init.nd rfl (by first | exact Or.inl rfl | exact Or.inr rfl)) (hg_cons (pg_name (i := 7) sc_Heap_init.nd rfl (by first | exact Or.inl rfl | exact Or.inr rfl)) hg_nil))))))
      (pss_cons (ps_set (i := 8) sc_Heap_init.nd rfl (by first | exact Or.inl rfl | exact Or.inr rfl) (pe_lst pa_nil))
      (pss_cons (us_for (passes_of rfl) rfl (j_rng (b_range T) (pa_cons (pe_op o_add (pe_callB (q_len (K := K)) rfl (b_len T) (by decide +kernel) (pa_cons (uv 4) pa_nil)) pe_int) pa_nil)) (pg_name (i := 9) sc_Heap_init.nd rfl (by first | exact Or.inl rfl | exact Or.inr rfl)) (pss_cons (ps_asg (u_callX (ok_take_pillar T) (takes_of rfl rfl rfl rfl) hr (by decide) (pa_cons (uv 3) (pa_cons (uv 7) (pa_cons (uv 5) (pa_cons (uv 6) pa_nil))))) (q_tup (K := K) (n := 2) rfl (hg_cons (pg_name (i := 10) sc_Heap_init.nd rfl (by first | exact Or.inl rfl | exact Or.inr rfl)) (hg_cons (pg_name (i := 7) sc_Heap_init.nd rfl (by first | exact Or.inl rfl | exact Or.inr rfl)) hg_nil))))
      (pss_one (ps_expr (pe_bm PySem.F.plainAttrs_list PySem.F.slot_list_append PySem.F.type_list_append m_append (uv 8) (pa_cons (uv 10) pa_nil))))))
      (pss_cons (us_if (ut_cmp o_lt (uv 7) (pe_callB (q_len (K := K)) rfl (b_len T) (by decide +kernel) (pa_cons (uv 3) pa_nil)) (nomark _)) (pss_one (us_bad T (ok_BadBytes T) hr (by decide) (takes_of rfl rfl rfl rfl))) pss_nil)
      (pss_cons (us_if (pt_not (ut_val (u_call (ok_are_entries T) hr (by decide) (pa_cons (uv 4) (pa_cons (uv 6) (pa_cons (uv 8) pa_nil)))))) (pss_one (us_bad T (ok_BadBytes T) hr (by decide) (takes_of rfl rfl rfl rfl))) pss_nil)
      (pss_cons (us_fld (uv 0) (uv 4) rfl)
      (pss_cons (us_fld (uv 0) (uv 5) rfl)
      (pss_cons (us_lc (i := 11) (own := [("place", 12)]) rfl sc_Heap_init.nd rfl rfl (sw_true rfl rfl rfl (by decide +kernel)) (j_rng (b_range T) (pa_cons (uv 6) pa_nil)) rfl (fun _ _ _ _ _ => (pg_name (i := 12) sc_Heap_init.nd rfl (by first | exact Or.inl rfl | exact Or.inr rfl))) (fun _ _ _ _ _ => pts_nil) (fun _ _ _ _ _ => (u_tupLc (b_tuple T) (ue_lc (own := [("cells", 10)]) rfl sc_Heap_init.nd (j_listK (K := K) (pe_slice (q_sl (K := K)) (uv 8) (u_some pe_int) po_none)) rfl (fun _ _ _ _ _ => (pg_name (i := 10) sc_Heap_init.nd rfl (by first | exact Or.inl rfl | exact Or.inr rfl))) (fun _ _ _ _ _ => pts_nil) (fun _ _ _ _ _ => (pe_ix (q_seq (K := K)) (uv 10) (uv 12) (fun _ _ => rfl)))))))
      (pss_cons (us_fld (uv 0) (u_listZip3 (b_list T) (b_zip T) (pa_cons (pe_ix (q_seq (K := K)) (uv 8) pe_int (fun _ _ => rfl)) (pa_cons (pe_ix (q_seq (K := K)) (uv 8) pe_int (fun _ _ => rfl)) (pa_cons (uv 11) pa_nil)))) rfl)
      (pss_one (us_if (ut_cmp (o_ne hr.units) (u_call (ok_heap_bytes T) hr (by decide) (pa_cons (uv 4) (pa_cons (uv 5) (pa_cons (u_fld (uv 0) rfl) pa_nil)))) (uv 2) (nomark _)) (pss_one (us_bad T (ok_BadBytes T) hr (by decide) (takes_of rfl rfl rfl rfl))) pss_nil)))))))))))))), ?body⟩)
  case len => unfold sp_Heap_init at h; (split at h) <;> first | rfl | exact h.elim
  case body =>
    unfold sp_Heap_init at h
    split at h
    · rename_i a r
      obtain ⟨dx, row, ha, hnn, hR, hrl, h⟩ := h
      refine ⟨_, hR.sq, fun p hp => ?_⟩
      have s1 : Same H (upd H p (.lst (row.map V.int))) := same_new hp (Same.refl _)
      have dp := upd_same (H := H) (a := p) (o := .lst (row.map V.int))
      generalize upd H p (.lst (row.map V.int)) = H1 at *
      refine ⟨_, .inl (SqL.of dp), .inl ⟨_, SqL.of dp, fun q hq => ?_⟩⟩
      rw [body_cut]
      have s2 : Same H (upd H1 q (.lst ((bodyOf row).map V.int))) := s1.trans (same_new hq (Same.refl _))
      have dq := upd_same (H := H1) (a := q) (o := .lst ((bodyOf row).map V.int))
      have dp2 := (same_new (o := .lst ((bodyOf row).map V.int)) hq (Same.refl _)) _ _ dp
      generalize upd H1 q (.lst ((bodyOf row).map V.int)) = H2 at *
      have hbl : (bodyOf row).length = row.length - 4 := by simp [bodyOf]
      have hbn : NN (bodyOf row) := hnn.sub fun x hx => List.mem_of_mem_take hx
      unfold heapOf at h
      refine ⟨_, .inl (SqL.of dp2), ⟨fun c => ?_, fun c => ?_⟩⟩
      · have c := of_decide_eq_true c
        rw [List.length_map] at c
        rw [if_pos (.inl (by omega))] at h
        exact ⟨fun _ => h _ (fun b o hb e => s2 _ _ e), (nomatch ·)⟩
      · have c := of_decide_eq_false c
        rw [List.length_map] at c
        refine ⟨_, dq, by omega, fun H3 p3 s3 hp3 d3 => ?_⟩
        have s13 := s2.trans s3
        have dp3 := s3 _ _ dp2
        have dq3 := s3 _ _ dq
        have bad : ∀ {H' : Hp}, Same H H' → (∀ H', SB a H H' → Refuse K H' E) → Refuse K H' E := fun s h => h _ (fun b o hb e => s _ _ e)
        refine ⟨_, _, d3, dp3, ⟨fun c2 => ?_, fun c2 => ?_⟩⟩
        · have c2 : summed (bodyOf row) ≠ row := by simpa using c2
          rw [if_pos (.inr c2)] at h
          exact bad s13 h
        · have c2 : summed (bodyOf row) = row := by simpa using c2
          rw [if_neg (fun z => z.elim (fun z => by omega) (fun z => z c2)), ok_bind] at h
          refine ⟨_, hbn, .inl dq3, ok_imp h (fun x ex hx H4 p4 l4 s4 hp4 hl4 dl4 d4 => ?_) fun h => bad s13 h⟩
          obtain ⟨kinds, long, many, at0⟩ := x
          rw [ok_bind] at hx
          dsimp only at hx dl4 d4
          have s14 := s13.trans s4
          have dq4 := s4 _ _ dq3
          have dp4 := s4 _ _ dp3
          obtain ⟨hk1, hk2, hl1, hl2, hm1, ha0⟩ := takeHeapHead_le ex
          dsimp only at hk1 hk2 hl1 hl2 hm1 ha0
          have hkv : (kindsV kinds).length = kinds.length := by simp [kindsV]
          refine ⟨_, SqT.of d4, rfl, ⟨by decide, fun cl hcl => ⟨_, .inl (SqL.of ((upd_ne (ne_of_none dl4 hcl)).trans dl4)), ?_⟩⟩⟩
          have en : ((kindsV kinds).length : Nat) + (2 : Int) = ((kinds.length + 2 : Nat) : Int) := by rw [hkv]; simp
          refine ⟨by rw [en]; omega, by rw [en]; omega, ?_⟩
          have dq5 := (upd_ne (H := H4) (o := .lst []) (ne_of_none dq4 hcl)).trans dq4
          have hbl2 : (bodyOf row).length ≤ 12000 := by omega
          refine ForGoes.by .range (fun i σ H' => ∃ (acc : List (List Cell)) (qs : List Addr) (k : Nat) (x y : Option V), σ = [some (.ref a), some (.ref r), some (.ref p), some (.ref q), some (.ref l4), some (.int (long : Nat)), some (.int (many : Nat)), some (.int ((at0 + k : Nat) : Int)), some (.ref cl), x, y, none, none] ∧ Same H4 H' ∧ H' cl = some (.lst (qs.map V.ref)) ∧ Pts (fun H x cs => x ≠ cl ∧ ColAt H x cs) H' qs acc ∧ acc.length = i ∧ at0 + k ≤ (bodyOf row).length ∧ (∀ cs ∈ acc, cs.length ≤ 10000000 ∧ ∀ x ∈ cs, x.fit) ∧ 3 * (acc.map List.length).sum ≤ 64 * k ∧ ok (takeColumns many long (kinds.length + 2 - i) ((bodyOf row).drop (at0 + k))) (fun x => ok (heapEnd row kinds long many (at0 + (k + x.2)) (acc ++ x.1)) (fun x => ∀ (H' : Hp), SB a H H' → HeapAt K H' a x.1 x.2.1 x.2.2 → Q V.non H') (∀ (H' : Hp), SB a H H' → Refuse K H' E)) (∀ (H' : Hp), SB a H H' → Refuse K H' E)) ⟨[], [], 0, none, none, rfl, same_new hcl (Same.refl _), upd_same, trivial, rfl, ha0, (fun _ h => nomatch h), by simp, by simpa using hx⟩ (fun _ _ _ _ _ => trivial) ?_ ?_
          · rintro i _ _ H5 _ hi ⟨acc, qs, k, x, y, rfl, s5, d5, hq5, la, hk, hcs, h3, h⟩ ⟨rfl, rfl⟩
            have s15 := s14.trans s5
            refine ⟨_, at0 + k, long, many, rfl, rfl, rfl, hl1, hk, by omega, hbn, s5 _ _ dq4, ?_⟩
            have hi : i < (((kindsV kinds).length : Nat) + (2 : Int)).toNat := hi
            rw [en, Int.toNat_natCast] at hi
            obtain ⟨f, hf⟩ : ∃ f, kinds.length + 2 - i = f + 1 := ⟨kinds.length + 2 - i - 1, by omega⟩
            have ef : kinds.length + 2 - (i + 1) = f := by omega
            rw [hf, takeColumns_succ, ok_bind] at h
            refine ok_imp h (fun y ey hy H6 p6 l6 s6 hp6 hl6 dl6 d6 => ?_) fun h => bad s15 h
            have hyl := takeStretches_le ey
            rw [List.length_drop] at hyl
            rw [ok_map, List.drop_drop] at hy
            refine ⟨_, SqT.of d6, rfl, ?_⟩
            have d56 := s6 _ _ d5
            refine ⟨ty_l d56, ⟨_, d56, by rw [sizeLine_eq, List.length_map, Pts.len hq5]; omega, ?_⟩⟩
            have hlc : l6 ≠ cl := Ne.symm (ne_of_none d5 hl6)
            have dl := (upd_ne (o := .lst (qs.map V.ref ++ [V.ref l6])) hlc).trans dl6
            refine ⟨acc ++ [y.1], qs ++ [l6], k + y.2, some (.int (0 + (i : Nat))), some (.ref l6), ?_, same_new hcl (s5.trans s6), ?_, ?_, by simp [la], by omega, ?_, by simp; omega, ?_⟩
            · rw [← Nat.add_assoc]
              rfl
            · rw [upd_same]
              simp
            · refine Pts.snoc ⟨hlc, dl⟩ (Pts.mono (fun u cs h => ⟨h.1, ?_⟩) hq5)
              exact (upd_ne h.1).trans (s6 _ _ h.2)
            · intro cs hc
              rcases List.mem_append.mp hc with hc | hc
              · exact hcs cs hc
              · cases List.mem_singleton.mp hc
                exact ⟨by omega, fun x hx => hyl.2.2 x hx⟩
            · rw [ef, ← Nat.add_assoc]
              refine ok_imp hy (fun z _ hz => ?_) id
              simpa [Nat.add_assoc] using hz
          · rintro _ H5 ⟨acc, qs, k, x, y, rfl, s5, d5, hq5, la, hk, hcs, h3, h⟩
            have s15 := s14.trans s5
            rw [en, Int.toNat_natCast] at la h
            rw [Nat.sub_self] at h
            have h : ok (heapEnd row kinds long many (at0 + (k + 0)) (acc ++ [])) (fun x => ∀ (H' : Hp), SB a H H' → HeapAt K H' a x.1 x.2.1 x.2.2 → Q V.non H') (∀ (H' : Hp), SB a H H' → Refuse K H' E) := h
            rw [List.append_nil, Nat.add_zero] at h
            refine ⟨_, .inl (SqL.of (s5 _ _ dq4)), ⟨fun c => ?_, fun c => ?_⟩⟩
            · have c := of_decide_eq_true c
              rw [List.length_map] at c
              unfold heapEnd at h
              rw [if_pos (by omega)] at h
              exact bad s15 h
            · have c := of_decide_eq_false c
              rw [List.length_map] at c
              unfold heapEnd at h
              rw [if_neg (by omega)] at h
              have hqc : Pts ColAt H5 qs acc := by
                have go : ∀ {qs : List Addr} {acc : List (List Cell)}, Pts (fun H x cs => x ≠ cl ∧ ColAt H x cs) H5 qs acc → Pts ColAt H5 qs acc := by
                  intro qs
                  induction qs with
                  | nil =>
                    intro acc h
                    cases acc with
                    | nil => trivial
                    | cons _ _ => exact h.elim
                  | cons u r ih =>
                    intro acc h
                    cases acc with
                    | nil => exact h.elim
                    | cons cs t => exact ⟨h.1.2, ih h.2⟩
                exact go hq5
              refine ⟨kinds, many, qs, acc, rfl, s5 _ _ dl4, by omega, d5, hqc, la, (fun cs hc => ⟨(hcs cs hc).1, fun x hx => ((hcs cs hc).2 x hx).tok⟩), fun H6 s6 => ⟨fun c3 => ?_, fun c3 => ?_⟩⟩
              · have c3 : areEntries kinds many acc = false := notT c3
                rw [if_neg (by rw [c3]; decide)] at h
                exact bad (s15.trans s6) h
              · have c3 : areEntries kinds many acc = true := notF c3
                rw [if_pos c3] at h
                have s16 := s15.trans s6
                have hca := c_Heap T
                have dl4' := s6 _ _ (s5 _ _ dl4)
                refine ⟨_, dx, [], s16 _ _ ha, hca, n_Heap_own_kinds T, by show (0 : Nat) < 1000; decide, ?_⟩
                refine ⟨_, dx, _, upd_same, hca, n_Heap_own_long T, by show (1 : Nat) < 1000; decide, ?_⟩
                rw [upd_upd]
                have hcla : cl ≠ a := Ne.symm (ne_of_none (s14 _ _ ha) hcl)
                have hl4a : l4 ≠ a := Ne.symm (ne_of_none (s13 _ _ ha) hl4)
                have hpa : p ≠ a := Ne.symm (ne_of_none ha hp)
                have d7a := upd_same (H := H6) (a := a) (o := .ins (He.ga K "Heap") dx (putF "own_long" (.int (long : Nat)) (putF "own_kinds" (.ref l4) [])))
                have sb7 : SB a H6 (upd H6 a (.ins (He.ga K "Heap") dx (putF "own_long" (.int (long : Nat)) (putF "own_kinds" (.ref l4) [])))) := fun b o hb e => (upd_ne hb).trans e
                generalize upd H6 a (.ins (He.ga K "Heap") dx (putF "own_long" (.int (long : Nat)) (putF "own_kinds" (.ref l4) []))) = H7 at *
                have d7c := sb7 _ _ hcla (s6 _ _ d5)
                have d7l := sb7 _ _ hl4a dl4'
                have d7p := sb7 _ _ hpa (s6 _ _ (s5 _ _ dp4))
                have hq7 : Pts ColAt H7 qs acc := Pts.mono (fun u cs (h : ColAt H5 u cs) => sb7 _ _ (fun z => by
                  have h : H5 u = _ := h
                  rw [z, s15 _ _ ha] at h
                  cases h) (s6 _ _ h)) hqc
                have hlen : ∀ cs ∈ acc, cs.length = many := fun cs hc => by
                  have c3 := c3
                  unfold areEntries at c3
                  simp only [Bool.and_eq_true] at c3
                  exact of_decide_eq_true (List.all_eq_true.mp c3.1.1.1 cs hc)
                have hmany : many ≤ 100000 := by
                  rw [sum_len hlen] at h3
                  have := Nat.mul_le_mul_right many (show 3 ≤ acc.length by omega)
                  omega
                refine ⟨by omega, by omega, fun D hD => ?_⟩
                have hql7 := Pts.len hq7
                have ecut : cutV (qs.map V.ref) (some 2) none = (qs.drop 2).map V.ref := by
                  rw [List.map_drop]
                  exact cut_from (n := 2) (by rw [List.length_map]; omega)
                have hmN : ((many : Nat) : Int).toNat = many := Int.toNat_natCast _
                refine LcGoes.by .range hD (fun i out H' => ∃ ts : List Addr, out = ts.map V.ref ∧ Pts RowT (hid H7 D H') ts ((List.range i).map (rowAt acc))) ⟨[], rfl, trivial⟩ (fun _ _ _ _ _ _ _ => trivial) ?_ ?_
                · rintro i _ _ H8 _ hi ha s8 d8 ⟨ts, rfl, hts⟩ ⟨rfl, rfl⟩
                  have hi : i < many := by
                    have : i < ((many : Nat) : Int).toNat := hi
                    omega
                  refine ⟨rfl, ⟨fun _ => .inl ⟨_, SqL.of (s8 _ _ d7c), fun p9 hp9 => ?_⟩, (nomatch ·)⟩⟩
                  rw [ecut]
                  have s9 : Same H8 (upd H8 p9 (.lst ((qs.drop 2).map V.ref))) := same_new hp9 (Same.refl _)
                  have d9 := upd_same (H := H8) (a := p9) (o := .lst ((qs.drop 2).map V.ref))
                  generalize upd H8 p9 (.lst ((qs.drop 2).map V.ref)) = H9 at *
                  refine ⟨⟨_, SqL.of d9⟩, fun D2 hD2 => ?_⟩
                  refine LcGoes.by (.list (xs := (qs.drop 2).map V.ref)) hD2 (fun j out H' => out = ((rowAt acc i).take j).map cv) rfl (fun j out H' _ s' _ _ => SqL.of (s' _ _ d9)) ?_ ?_
                  · rintro j _ v H10 _ hj ha2 s10 d10 rfl ⟨hv, rfl⟩
                    rw [List.getElem?_map] at hv
                    cases ep : (qs.drop 2)[j]? with
                    | none =>
                      rw [ep] at hv
                      cases hv
                    | some u =>
                      rw [ep] at hv
                      cases hv
                      rw [List.getElem?_drop] at ep
                      obtain ⟨cs, hcs1, hcs2⟩ := Pts.get hq7 ep
                      have hcl : cs.length = many := hlen cs (List.mem_of_getElem? hcs1)
                      obtain ⟨x, hx⟩ := get_lt (l := cs) (i := i) (by omega)
                      have hr : (rowAt acc i)[j]? = some x := by
                        unfold rowAt
                        rw [List.getElem?_map, List.getElem?_drop, hcs1]
                        show some (cs.getD i Cell.non) = _
                        rw [List.getD_eq_getElem?_getD, hx]
                        rfl
                      have e0 : (0 : Int) + (i : Nat) = ((i : Nat) : Int) := by omega
                      refine ⟨rfl, ⟨fun _ => ⟨_, cv x, .inl (SqL.of (s10 _ _ (s9 _ _ (s8 _ _ hcs2)))), ?_, ?_⟩, (nomatch ·)⟩⟩
                      · rw [e0]
                        exact atN (by rw [List.getElem?_map, hx]; rfl)
                      · refine LcP.put hD2 (by rw [sizeLine_eq]; rw [List.length_map, List.length_drop] at hj; omega) ha2 s10 d10 ?_
                        rw [take_snoc hr]
                        simp
                  · rintro _ H10 ha2 s10 d10 rfl
                    have e4 : (rowAt acc i).take ((qs.drop 2).map V.ref).length = rowAt acc i := List.take_of_length_le (by unfold rowAt; simp; omega)
                    rw [e4] at d10
                    refine ⟨_, SqL.of d10, fun t ht => ?_⟩
                    have s11 : Same H8 (upd H10 t (.tup ((rowAt acc i).map cv))) := same_new ((s9.trans s10).free ht) (s9.trans s10)
                    have dt := upd_same (H := H10) (a := t) (o := .tup ((rowAt acc i).map cv))
                    generalize upd H10 t (.tup ((rowAt acc i).map cv)) = H11 at *
                    refine LcP.put hD (by rw [sizeLine_eq]; omega) ha (s8.trans s11) (s11 _ _ d8) ⟨ts ++ [t], by simp, ?_⟩
                    rw [hid_upd, List.range_succ, List.map_append]
                    refine Pts.snoc ?_ (Pts.mono (fun p x h => hid_same s11 _ _ h) hts)
                    have htD : t ≠ D := fun z => by
                      rw [z, s10 _ _ (s9 _ _ d8)] at ht
                      cases ht
                    exact (hid_eq htD ((s8.trans (s9.trans s10)).free ht)).trans dt
                · rintro _ H8 ha s8 d8 ⟨ts, rfl, hts⟩
                  rw [hmN] at hts
                  have htl := Pts.len hts
                  have htl2 : ts.length = many := by simpa using htl
                  match hac : acc, hqc2 : qs, hq7, la with
                  | a0 :: a1 :: ar, q0 :: q1 :: qr, hq7, la =>
                  have hp3 := are_parts c3
                  have l0 : a0.length = many := hlen a0 (by simp)
                  have l1 : a1.length = many := hlen a1 (by simp)
                  have dcl := s8 _ _ d7c
                  refine ⟨_, .ref q0, .inl (SqL.of dcl), atN (n := 0) rfl, _, .ref q1, .inl (SqL.of dcl), atN (n := 1) rfl, ?_⟩
                  refine ⟨a0.map cv, a1.map cv, ts.map V.ref, s8 _ _ hq7.1, s8 _ _ hq7.2.1, d8, by simp [l0, l1], by simp [l0, htl2], by rw [List.length_map]; omega, fun H9 el ps s9 hel del hpl hps => ?_⟩
                  have s79 := s8.trans s9
                  have hes : EntsAt H9 el (entriesOf many (a0 :: a1 :: ar)) := by
                    refine ⟨ps, del, Pts.of_get (by rw [hpl]; simp [entriesOf, l0]) fun j e x h1 h2 => ?_⟩
                    obtain ⟨vx, vy, vu, hx, hy, hu, he⟩ := hps j e h1
                    rw [List.getElem?_map] at hx hy hu
                    have hj : j < many := by
                      have := (List.getElem?_eq_some_iff.mp h1).1
                      rw [hpl, List.length_map] at this
                      omega
                    rw [entries_get hj] at h2
                    cases h2
                    obtain ⟨x0, hx0⟩ := get_lt (l := a0) (i := j) (by omega)
                    obtain ⟨x1, hx1⟩ := get_lt (l := a1) (i := j) (by omega)
                    obtain ⟨t, ht⟩ := get_lt (l := ts) (i := j) (by omega)
                    rw [hx0] at hx
                    rw [hx1] at hy
                    rw [ht] at hu
                    cases hx
                    cases hy
                    cases hu
                    have i0 := int_toInt (hp3.2.1 x0 (List.mem_of_getElem? hx0))
                    have i1 := int_toInt (hp3.2.2.1 x1 (List.mem_of_getElem? hx1))
                    obtain ⟨rw1, hr1, hr2⟩ := Pts.get hts ht
                    rw [List.getElem?_map, List.getElem?_range hj] at hr1
                    cases hr1
                    refine ⟨t, ?_, s9 _ _ (hid_le _ _ hr2)⟩
                    have e0 : (((a0 :: a1 :: ar).headD []).getD j Cell.non) = x0 := by
                      show a0.getD j Cell.non = x0
                      rw [List.getD_eq_getElem?_getD, hx0]
                      rfl
                    have e1 : ((((a0 :: a1 :: ar)[1]?).getD []).getD j Cell.non) = x1 := by
                      show a1.getD j Cell.non = x1
                      rw [List.getD_eq_getElem?_getD, hx1]
                      rfl
                    dsimp only
                    rw [e0, e1, he, ← i0, ← i1]
                    rfl
                  have d9a := s79 _ _ d7a
                  refine ⟨_, dx, _, d9a, hca, n_Heap_own_entries T, by show (2 : Nat) < 1000; decide, ?_⟩
                  have d10a := upd_same (H := H9) (a := a) (o := .ins (He.ga K "Heap") dx [("own_kinds", .ref l4), ("own_long", .int (long : Nat)), ("own_entries", .ref el)])
                  have sb10 : SB a H9 (upd H9 a (.ins (He.ga K "Heap") dx [("own_kinds", .ref l4), ("own_long", .int (long : Nat)), ("own_entries", .ref el)])) := fun b o hb e => (upd_ne hb).trans e
                  have eput : putF "own_entries" (.ref el) (putF "own_long" (.int (long : Nat)) (putF "own_kinds" (.ref l4) [])) = ([("own_kinds", .ref l4), ("own_long", .int (long : Nat)), ("own_entries", V.ref el)] : List (Str × V)) := rfl
                  rw [eput]
                  generalize upd H9 a (.ins (He.ga K "Heap") dx [("own_kinds", .ref l4), ("own_long", .int (long : Nat)), ("own_entries", .ref el)]) = H10 at *
                  have hes10 := hes.sb d9a sb10
                  have hok : HeapOk kinds long (entriesOf many (a0 :: a1 :: ar)) := HeapOk.read hk1 hk2 hl1 hl2 hm1 hmany la (fun cs hc => (hcs cs hc).2) c3
                  have hbd := hok.body_len
                  have hel2 : (entriesOf many (a0 :: a1 :: ar)).length = many := by simp [entriesOf]
                  rw [hel2] at hbd
                  have hsum := sum_len hlen
                  rw [la] at hsum
                  rw [hsum] at h3
                  have d10l := sb10 _ _ hl4a (s79 _ _ d7l)
                  have d10p := sb10 _ _ hpa (s79 _ _ d7p)
                  refine ⟨_, dx, _, .ref el, d10a, hca, n_Heap_own_entries T, rfl, kinds, _, long, rfl, hl1, hl2, d10l, by omega, hes10, by omega, hok.ent, by omega, fun H11 pb s11 hpb dpb => ?_⟩
                  have sball : SB a H H11 := fun b o hb e => s11 _ _ (sb10 _ _ hb (s79 _ _ (sb7 _ _ hb (s16 _ _ e))))
                  refine ⟨_, _, dpb, s11 _ _ d10p, ⟨fun c4 => ?_, fun c4 => ?_⟩⟩
                  · have c4 : heapBytes kinds long (entriesOf many (a0 :: a1 :: ar)) ≠ row := by simpa using c4
                    rw [if_neg c4] at h
                    exact h _ sball
                  · have c4 : heapBytes kinds long (entriesOf many (a0 :: a1 :: ar)) = row := by simpa using c4
                    rw [if_pos c4] at h
                    exact h _ sball ⟨dx, l4, el, s11 _ _ d10a, s11 _ _ d10l, EntsAt.same s11 hes10⟩
    · exact h.elim
end
end K90
/-! The drawn state: a dict of the cells and the turn. -/
namespace K90
open PySem PySem.Spec PyProof.Rows L2 RT RZ
open Classical in
/-- all but the state -/
noncomputable def vw (d c : Addr) (H : Hp) : Hp := fun b => if b = d ∨ b = c then none else H b
theorem vw_le {d c : Addr} {H : Hp} : Same (vw d c H) H := fun b o e => by
  unfold vw at e
  by_cases h : b = d ∨ b = c
  · rw [if_pos h] at e
    cases e
  · rwa [if_neg h] at e
theorem vw_ne {d c b : Addr} {H : Hp} {o : HO} (e : vw d c H b = some o) : b ≠ d ∧ b ≠ c := by
  unfold vw at e
  by_cases h : b = d ∨ b = c
  · rw [if_pos h] at e
    cases e
  · exact ⟨fun z => h (.inl z), fun z => h (.inr z)⟩
theorem vw_at {d c b : Addr} {H : Hp} (h : b ≠ d) (h2 : b ≠ c) : vw d c H b = H b := by
  unfold vw
  rw [if_neg]
  rintro (z | z)
  · exact h z
  · exact h2 z
theorem vw_same {d c : Addr} {H H' : Hp} (s : Same H H') : Same (vw d c H) (vw d c H') := fun b o e => by
  have n := vw_ne e
  rw [vw_at n.1 n.2]
  exact s _ _ (vw_le _ _ e)
theorem vw_d {d c : Addr} {H : Hp} {o : HO} : vw d c (upd H d o) = vw d c H := by
  funext b
  by_cases h : b = d ∨ b = c
  · unfold vw
    rw [if_pos h, if_pos h]
  · unfold vw
    rw [if_neg h, if_neg h, upd_ne fun z => h (.inl z)]
theorem vw_c {d c : Addr} {H : Hp} {o : HO} : vw d c (upd H c o) = vw d c H := by
  funext b
  by_cases h : b = d ∨ b = c
  · unfold vw
    rw [if_pos h, if_pos h]
  · unfold vw
    rw [if_neg h, if_neg h, upd_ne fun z => h (.inr z)]
theorem vw_free {d c p : Addr} {H : Hp} (h : H p = none) : vw d c H p = none := by
  cases e : vw d c H p with
  | none => rfl
  | some o =>
    have := vw_le _ _ e
    rw [h] at this
    cases this
/-- the state, so many turns left -/
def St (d c : Addr) (n : Nat) (H : Hp) : Prop := ∃ (xs : List Int) (t : Int), H d = some (.dK [(.inr "cells", .ref c), (.inr "turn", .int t)]) ∧ H c = some (.lst (xs.map V.int)) ∧ xs ≠ [] ∧ xs.length ≤ 63 ∧ 0 ≤ t ∧ t + (n : Int) ≤ 1000000000
theorem St.same {d c : Addr} {n : Nat} {H H' : Hp} (s : Same H H') (h : St d c n H) : St d c n H' := by
  obtain ⟨xs, t, h1, h2, h3⟩ := h
  exact ⟨xs, t, s _ _ h1, s _ _ h2, h3⟩
theorem St.mono {d c : Addr} {n m : Nat} {H : Hp} (h : St d c n H) (l : m ≤ n) : St d c m H := by
  obtain ⟨xs, t, h1, h2, h3, h4, h5, h6⟩ := h
  exact ⟨xs, t, h1, h2, h3, h4, h5, by omega⟩
theorem St.ned {d c p : Addr} {n : Nat} {H : Hp} (h : St d c n H) (e : H p = none) : p ≠ d := fun z => by
  obtain ⟨xs, t, h1, h2, h3⟩ := h
  rw [z, h1] at e
  cases e
theorem St.nec {d c p : Addr} {n : Nat} {H : Hp} (h : St d c n H) (e : H p = none) : p ≠ c := fun z => by
  obtain ⟨xs, t, h1, h2, h3⟩ := h
  rw [z, h2] at e
  cases e
theorem St.dc {d c : Addr} {n : Nat} {H : Hp} (h : St d c n H) : d ≠ c := fun z => by
  obtain ⟨xs, t, h1, h2, h3⟩ := h
  rw [z, h2] at h1
  cases h1
/-- a thing just made is in sight -/
theorem St.new {d c p : Addr} {n : Nat} {H : Hp} {o : HO} (h : St d c n H) (e : H p = none) : vw d c (upd H p o) p = some o := by
  rw [vw_at (h.ned e) (h.nec e)]
  exact upd_same
theorem St.put {d c p : Addr} {n : Nat} {H : Hp} {o : HO} (h : St d c n H) (h1 : p ≠ d) (h2 : p ≠ c) : St d c n (upd H p o) := by
  obtain ⟨xs, t, e1, e2, h3⟩ := h
  exact ⟨xs, t, (upd_ne (Ne.symm h1)).trans e1, (upd_ne (Ne.symm h2)).trans e2, h3⟩
theorem vw_put {d c p : Addr} {H : Hp} {o : HO} (h1 : p ≠ d) (h2 : p ≠ c) : vw d c (upd H p o) = upd (vw d c H) p o := by
  funext b
  by_cases h : b = d ∨ b = c
  · have hp : b ≠ p := fun z => by rw [z] at h; exact h.elim h1 h2
    rw [upd_ne hp]
    unfold vw
    rw [if_pos h, if_pos h]
  · have n1 : b ≠ d := fun z => h (.inl z)
    have n2 : b ≠ c := fun z => h (.inr z)
    rw [vw_at n1 n2]
    by_cases e : b = p
    · rw [e, upd_same, upd_same]
    · rw [upd_ne e, upd_ne e, vw_at n1 n2]
/-- what is drawn: the rest as it was, and no more than so many turns -/
def Dr (d c : Addr) (n : Nat) (H : Hp) (Q : Hp → Prop) : Prop := ∀ H', Same (vw d c H) (vw d c H') → St d c n H' → Q H'
theorem Dr.same {d c : Addr} {n : Nat} {H H1 : Hp} {Q : Hp → Prop} (s : Same (vw d c H) (vw d c H1)) (h : Dr d c n H Q) : Dr d c n H1 Q := fun H' s' z => h H' (s.trans s') z
/-! ### comprehensions that draw -/
def LcV (D : Addr) (R : Nat → List V → Hp → Prop) (i : Nat) (H : Hp) : Prop := ∃ acc : List V, acc.length ≤ i ∧ H D = some (.lst acc) ∧ R i acc H
theorem LcV.put {H : Hp} {D : Addr} {R : Nat → List V → Hp → Prop} {i : Nat} {acc : List V} {y : V} (hz : i < sizeLine) (ha : acc.length ≤ i) (d : H D = some (.lst acc)) (r : R (i + 1) (acc ++ [y]) (upd H D (.lst (acc ++ [y])))) : LcPut D (LcV D R (i + 1)) y H :=
  ⟨acc, d, by omega, acc ++ [y], by simp; omega, upd_same, r⟩
theorem LcV.skip {H : Hp} {D : Addr} {R : Nat → List V → Hp → Prop} {i : Nat} {acc : List V} (ha : acc.length ≤ i) (d : H D = some (.lst acc)) (r : R (i + 1) acc H) : LcV D R (i + 1) H := ⟨acc, by omega, d, r⟩
theorem LcGoes.byV {J : It} {n : Nat} {S : Hp → Prop} {item : Nat → V → Hp → Hp → Prop} {g : TG} {tt : TT} {te : TE} {vs : List Nat} {σ : L2.St} {H1 : Hp} {D : Addr} {Q : VK} (I : Iter J n S item) (R : Nat → List V → Hp → Prop)
    (h0 : R 0 [] (upd H1 D (.lst []))) (hS : ∀ i acc H, i ≤ n → H D = some (.lst acc) → R i acc H → S H)
    (hs : ∀ i acc x H H', i < n → acc.length ≤ i → H D = some (.lst acc) → R i acc H → item i x H H' → g x (wipe σ vs) H' fun σ2 H2 => wipe σ2 vs = wipe σ vs ∧ tt σ2 H2 fun b H3 =>
      br b (te σ2 H3 (LcPut D (LcV D R (i + 1)))) (LcV D R (i + 1) H3))
    (hd : ∀ acc H, acc.length ≤ n → H D = some (.lst acc) → R n acc H → Q (.ref D) H) : LcGoes J g tt te vs σ H1 D Q := by
  refine ⟨fun i m H => m = n - i ∧ i ≤ n ∧ LcV D R i H, ⟨n, by simp, Nat.zero_le _, [], Nat.le_refl _, upd_same, h0⟩, ?_⟩
  rintro i m H ⟨rfl, hi, acc, ha, d1, r⟩
  have q := hS i acc H hi d1 r
  by_cases hlt : i < n
  · exact .inr ⟨I.go i H hlt q, LcV D R (i + 1), fun H' p' => ⟨n - (i + 1), by omega, rfl, hlt, p'⟩, fun x H' y => hs i acc x H H' hlt ha d1 r (I.yld i x H H' hlt q y)⟩
  · have e : i = n := by omega
    subst e
    exact .inl ⟨I.stop H q, hd acc H ha d1 r⟩
/-- what stands between two statements -/
theorem seq_par {a b : TS} {D : Ends} {σ : L2.St} {H : Hp} (R : L2.St → Hp → Prop) (h : ∀ N : L2.St → Hp → Prop, (∀ σ H, R σ H → N σ H) → a { D with nx := N } σ H) (hr : ∀ σ H, R σ H → b D σ H) : tSeq a b D σ H := h _ hr
theorem pickV {L : List V} {i : Int} (h0 : 0 ≤ i) (h : i < L.length) : ∃ x ∈ L, atI L i = some x := by
  obtain ⟨n, rfl⟩ := Int.eq_ofNat_of_zero_le h0
  have hn : n < L.length := by omega
  exact ⟨L[n], List.getElem_mem hn, atN (List.getElem?_eq_getElem hn)⟩
theorem pickI (L : List Int) {i : Int} (h0 : 0 ≤ i) (h : i < L.length) : ∃ x ∈ L, atI (L.map V.int) i = some (.int x) := by
  obtain ⟨n, rfl⟩ := Int.eq_ofNat_of_zero_le h0
  have hn : n < L.length := by omega
  exact ⟨L[n], List.getElem_mem hn, atI_int (List.getElem?_eq_getElem hn)⟩
theorem pickS (L : List Str) {i : Int} (h0 : 0 ≤ i) (h : i < L.length) : ∃ x ∈ L, atI (L.map V.str) i = some (.str x) := by
  obtain ⟨n, rfl⟩ := Int.eq_ofNat_of_zero_le h0
  have hn : n < L.length := by omega
  exact ⟨L[n], List.getElem_mem hn, atN (by rw [List.getElem?_map, List.getElem?_eq_getElem hn]; rfl)⟩
/-- what a test leaves -/
theorem if_par {t : TT} {a b : TS} {D : Ends} {σ : L2.St} {H : Hp} (R : Bool → Hp → Prop) (ht : ∀ Q' : Bool → Hp → Prop, (∀ k H1, R k H1 → Q' k H1) → t σ H Q') (h1 : ∀ H1, R true H1 → a D σ H1) (h2 : ∀ H1, R false H1 → b D σ H1) : uIfS t a b D σ H :=
  ht _ fun k H1 r => ⟨fun e => h1 _ (e ▸ r), fun e => h2 _ (e ▸ r)⟩
/-- a drawing def's heap: what was there, what was made, the state -/
structure Bun (d c : Addr) (H0 : Hp) (os : List (Addr × HO)) (n : Nat) (H : Hp) : Prop where
  same : Same (vw d c H0) (vw d c H)
  own : ∀ x ∈ os, vw d c H x.1 = some x.2
  st : St d c n H
section
variable {d c : Addr} {H0 H H' : Hp} {os : List (Addr × HO)} {n m : Nat}
theorem Bun.start (st : St d c n H) : Bun d c H [] n H := ⟨Same.refl _, fun _ h => (nomatch h), st⟩
theorem Bun.draw (b : Bun d c H0 os n H) (s : Same (vw d c H) (vw d c H')) (st : St d c m H') : Bun d c H0 os m H' := ⟨b.same.trans s, fun x hx => s _ _ (b.own x hx), st⟩
theorem Bun.keep (b : Bun d c H0 os n H) (s : Same H H') : Bun d c H0 os n H' := b.draw (vw_same s) (b.st.same s)
theorem Bun.less (b : Bun d c H0 os n H) (l : m ≤ n) : Bun d c H0 os m H := ⟨b.same, b.own, b.st.mono l⟩
theorem Bun.new {p : Addr} {o : HO} (b : Bun d c H0 os n H) (hp : H p = none) : Bun d c H0 ((p, o) :: os) n (upd H p o) := by
  have s : Same H (upd H p o) := same_new hp (Same.refl _)
  have k := b.keep s
  refine ⟨k.same, fun x hx => ?_, k.st⟩
  rcases List.mem_cons.mp hx with rfl | hx
  · exact b.st.new hp
  · exact k.own x hx
theorem Bun.add {p : Addr} {o : HO} (b : Bun d c H0 os n H) (hp : vw d c H p = some o) : Bun d c H0 ((p, o) :: os) n H := by
  refine ⟨b.same, fun x hx => ?_, b.st⟩
  rcases List.mem_cons.mp hx with rfl | hx
  · exact hp
  · exact b.own x hx
theorem Bun.sub {os' : List (Addr × HO)} (b : Bun d c H0 os n H) (h : ∀ x ∈ os', x ∈ os) : Bun d c H0 os' n H := ⟨b.same, fun x hx => b.own x (h x hx), b.st⟩
theorem Bun.put {p : Addr} {o o' : HO} (b : Bun d c H0 ((p, o) :: os) n H) (h0 : vw d c H0 p = none) (hd : ∀ x ∈ os, x.1 ≠ p) : Bun d c H0 ((p, o') :: os) n (upd H p o') := by
  have ne := vw_ne (b.own (p, o) (by simp))
  refine ⟨?_, fun x hx => ?_, b.st.put ne.1 ne.2⟩
  · rw [vw_put ne.1 ne.2]
    exact same_new h0 b.same
  · rw [vw_put ne.1 ne.2]
    rcases List.mem_cons.mp hx with rfl | hx
    · exact upd_same
    · rw [upd_ne (hd x hx)]
      exact b.own x (by simp [hx])
theorem Bun.hd {p : Addr} {o : HO} (b : Bun d c H0 ((p, o) :: os) n H) : H p = some o := vw_le _ _ (b.own (p, o) (by simp))
theorem Bun.hd2 {p q : Addr} {o u : HO} (b : Bun d c H0 ((q, u) :: (p, o) :: os) n H) : H p = some o := vw_le _ _ (b.own (p, o) (by simp))
theorem Bun.hd3 {p q r : Addr} {o u v : HO} (b : Bun d c H0 ((q, u) :: (r, v) :: (p, o) :: os) n H) : H p = some o := vw_le _ _ (b.own (p, o) (by simp))
theorem Bun.v1 {p : Addr} {o : HO} (b : Bun d c H0 ((p, o) :: os) n H) : vw d c H p = some o := b.own (p, o) (by simp)
theorem Bun.v2 {p q : Addr} {o u : HO} (b : Bun d c H0 ((q, u) :: (p, o) :: os) n H) : vw d c H p = some o := b.own (p, o) (by simp)
theorem Bun.v3 {p q r : Addr} {o u v : HO} (b : Bun d c H0 ((q, u) :: (r, v) :: (p, o) :: os) n H) : vw d c H p = some o := b.own (p, o) (by simp)
theorem Bun.fresh {p : Addr} (b : Bun d c H0 os n H) (hp : H p = none) : vw d c H0 p = none ∧ ∀ x ∈ os, x.1 ≠ p := by
  refine ⟨?_, fun x hx e => ?_⟩
  · cases z : vw d c H0 p with
    | none => rfl
    | some o =>
      have := vw_le _ _ (b.same _ _ z)
      rw [hp] at this
      cases this
  · have := vw_le _ _ (b.own x hx)
    rw [e, hp] at this
    cases this
end
/-- a cell that is not open, of the kind -/
def Known (t : Bool) (x : Cell) : Prop := x.fit ∧ match t, x with
  | false, .int _ => True
  | true, .str _ => True
  | _, _ => False
def Kin (t : Bool) (x : Cell) : Prop := x = .non ∨ Known t x
theorem Known.int {i : Int} (h : -1000000000000000000 < i ∧ i < 1000000000000000000) : Known false (.int i) := ⟨h, trivial⟩
theorem Known.str {l : List Nat} (h1 : l.length ≤ 20) (h2 : l.all isSign = true) : Known true (.str l) := ⟨⟨h1, h2⟩, trivial⟩
theorem Kin.fit {t : Bool} {x : Cell} (h : Kin t x) : x.fit := by
  rcases h with rfl | h
  · trivial
  · exact h.1
theorem Known.isInt {x : Cell} (h : Known false x) : ∃ i, x = .int i ∧ -1000000000000000000 < i ∧ i < 1000000000000000000 := by
  cases x with
  | int i => exact ⟨i, rfl, h.1⟩
  | non => exact h.2.elim
  | str l => exact h.2.elim
theorem Known.isStr {x : Cell} (h : Known true x) : ∃ l, x = .str l ∧ l.length ≤ 20 ∧ l.all isSign = true := by
  cases x with
  | str l => exact ⟨l, rfl, h.1⟩
  | non => exact h.2.elim
  | int l => exact h.2.elim
theorem kindS_eq {t : Bool} : (false != decide (V.str (kindS t) = V.str "text")) = t := by cases t <;> decide +kernel
theorem kindS_num {t : Bool} : (false != decide (V.str (kindS t) = V.str "number")) = !t := by cases t <;> decide +kernel
end K90
namespace K90
open PySem PySem.Spec PyProof.Rows L2 RT RZ
theorem sizeLine_pos2 : 2 < sizeLine := by rw [sizeLine_eq]; decide
theorem atI_in {xs : List Int} {i : Int} (h0 : 0 ≤ i) (h : i < xs.length) : ∃ x : Int, atI (xs.map V.int) i = some (.int x) ∧ ixN xs.length i = some i.toNat := by
  obtain ⟨n, rfl⟩ := Int.eq_ofNat_of_zero_le h0
  have hn : n < xs.length := by omega
  refine ⟨xs[n], atI_int (List.getElem?_eq_getElem hn), ?_⟩
  unfold ixN
  rw [if_pos (by omega)]
  simp [hn]
section
variable {P : Program} {w : World} {K : PySem.W.Frag} {mg : Str → Option Value} {base : Heap}
def sp_law_take (K : PySem.W.Frag) : Sp := fun vs H Q E => match vs with
  | [.ref d, .int m] => ∃ c n, St d c (n + 1) H ∧ 1 ≤ m ∧ m ≤ 1000000000 ∧ ∀ r : Int, 0 ≤ r → r < m → Dr d c n H (Q (.int r))
  | _ => False
theorem sc_law_take : FnScope ["_law_state", "_law_many", "_law_turn", "_law_place", "_law_cell", "_law_digit", "_law_mixed"] ["_law_state", "_law_many"] (defScope s_law_take) := ⟨rfl, rfl, rfl, by decide +kernel, rfl, by decide +kernel, by decide +kernel⟩
theorem ok_law_take (T : Txt K mg) : Cal P w K mg base 1 "_law_take" (sp_law_take K) := by
  obtain ⟨fd, F⟩ := D_law_take T
  refine cal_mk (g_law_take T) F sc_law_take (fun _ _ _ _ _ _ us hl => match us, hl with | [_, _], _ => rfl) (fun vs H Q E h => ?len) (fun cdv A outer s H vs Q E hr h => ⟨_, (pss_cons (ps_set (i := 2) sc_law_take.nd rfl (by first | exact Or.inl rfl | exact Or.inr rfl) (pe_op o_add (pe_dget (hu_of hr) (uv 0) pe_str (fun _ _ => rfl)) pe_int))
      (pss_cons (ps_dput (hu_of hr) (uv 0) pe_str (uv 2) rfl)
      (pss_cons (ps_set (i := 3) sc_law_take.nd rfl (by first | exact Or.inl rfl | exact Or.inr rfl) (pe_op o_mod (uv 2) (pe_callB (q_len (K := K)) rfl (b_len T) (by decide +kernel) (pa_cons (pe_dget (hu_of hr) (uv 0) pe_str (fun _ _ => rfl)) pa_nil))))
      (pss_cons (ps_set (i := 4) sc_law_take.nd rfl (by first | exact Or.inl rfl | exact Or.inr rfl) (pe_ix (q_seq (K := K)) (pe_dget (hu_of hr) (uv 0) pe_str (fun _ _ => rfl)) (uv 3) (fun _ _ => rfl)))
      (pss_cons (us_if (ut_cmp o_ge (uv 4) (pe_op o_pow pe_int pe_int) (nomark _)) (pss_cons (ps_asg (pe_callB c_divmod rfl (b_divmod T) (by decide +kernel) (pa_cons (uv 4) (pa_cons (uv 1) pa_nil))) (q_tup (K := K) (n := 2) rfl (hg_cons (pg_sub (pe_dget (hu_of hr) (uv 0) pe_str (fun _ _ => rfl)) (uv 3) h_set) (hg_cons (pg_name (i := 5) sc_law_take.nd rfl (by first | exact Or.inl rfl | exact Or.inr rfl)) hg_nil))))
      (pss_one (ps_ret (uv 5)))) pss_nil)
      (pss_cons (ps_set (i := 6) sc_law_take.nd rfl (by first | exact Or.inl rfl | exact Or.inr rfl) (pe_op o_mod (pe_op o_mul (pe_op o_add (pe_op o_add (pe_op o_mod (uv 4) pe_int) (pe_op o_mul (pe_op o_mul (uv 2) (uv 2)) pe_int)) pe_int) pe_int) pe_int))
      (pss_cons (ps_set (i := 6) sc_law_take.nd rfl (by first | exact Or.inl rfl | exact Or.inr rfl) (pe_op o_mod (pe_op o_mul (uv 6) (uv 6)) pe_int))
      (pss_one (ps_ret (pe_op o_mod (pe_op o_div (pe_op o_mod (pe_op o_mul (pe_op o_add (uv 6) (pe_op o_mul (uv 2) pe_int)) pe_int) pe_int) pe_int) (uv 1))))))))))), ?body⟩)
  case len => unfold sp_law_take at h; (split at h) <;> first | rfl | exact h.elim
  case body =>
    unfold sp_law_take at h
    split at h
    · rename_i d m
      obtain ⟨c, n, hst, hm1, hm2, h⟩ := h
      have hdc := hst.dc
      obtain ⟨xs, t, h1, h2, h3, h4, h5, h6⟩ := hst
      have hpos : 0 < xs.length := by cases xs with | nil => exact absurd rfl h3 | cons _ _ => simp
      refine ⟨d, .int t, rfl, DGet.k (k := .inr "turn") h1, ⟨d, _, rfl, DPut.k (k := .inr "turn") h1 sizeLine_pos2, ?_⟩⟩
      have d1 := upd_same (H := H) (a := d) (o := .dK (putK [(Sum.inr "cells", V.ref c), (Sum.inr "turn", V.int t)] (.inr "turn") (V.int (t + 1))))
      have d2 : (upd H d (.dK (putK [(Sum.inr "cells", V.ref c), (Sum.inr "turn", V.int t)] (.inr "turn") (V.int (t + 1))))) c = _ := (upd_ne (Ne.symm hdc)).trans h2
      have d3 : vw d c (upd H d (.dK (putK [(Sum.inr "cells", V.ref c), (Sum.inr "turn", V.int t)] (.inr "turn") (V.int (t + 1))))) = vw d c H := vw_d
      have e1 : putK [(Sum.inr (Str.ofString "cells"), V.ref c), (Sum.inr "turn", V.int t)] (.inr "turn") (V.int (t + 1)) = [((.inr "cells" : Key), V.ref c), (.inr "turn", V.int (t + 1))] := rfl
      rw [e1] at d1 d2 d3
      rw [e1]
      generalize upd H d (.dK [((.inr "cells" : Key), V.ref c), (.inr "turn", V.int (t + 1))]) = H1 at *
      refine ⟨d, .ref c, rfl, DGet.k (k := .inr "cells") d1, ⟨_, .inl (SqL.of d2), ?_⟩⟩
      rw [List.length_map]
      have hp0 := Int.emod_nonneg (t + 1) (b := (xs.length : Int)) (by omega)
      have hp1 := Int.emod_lt_of_pos (t + 1) (b := (xs.length : Int)) (by omega)
      obtain ⟨x, hx, hix⟩ := atI_in hp0 hp1
      have st1 : St d c n H1 := ⟨xs, t + 1, d1, d2, h3, h4, by omega, by omega⟩
      refine ⟨by omega, d, .ref c, rfl, DGet.k (k := .inr "cells") d1, ⟨_, .int x, .inl (SqL.of d2), hx, ⟨⟨by decide, by decide, by decide⟩, ⟨fun _ => ?_, fun _ => ?_⟩⟩⟩⟩
      · refine ⟨⟨by omega, PyProof.noPylong_small (by omega)⟩, fun p hp => ?_⟩
        have s2 : Same H1 (upd H1 p (.tup [.int (x / m), .int (x % m)])) := same_new hp (Same.refl _)
        have dp := upd_same (H := H1) (a := p) (o := .tup [.int (x / m), .int (x % m)])
        generalize upd H1 p (.tup [.int (x / m), .int (x % m)]) = H2 at *
        have d22 := s2 _ _ d2
        refine ⟨_, SqT.of dp, rfl, d, .ref c, rfl, DGet.k (k := .inr "cells") (s2 _ _ d1), ⟨_, ((t + 1) % (xs.length : Int)).toNat, d22, by rw [List.length_map]; exact hix, ?_⟩⟩
        have e2 : (xs.map V.int).set ((t + 1) % (xs.length : Int)).toNat (.int (x / m)) = (xs.set ((t + 1) % (xs.length : Int)).toNat (x / m)).map V.int := by rw [List.map_set]
        rw [e2]
        refine h (x % m) (Int.emod_nonneg _ (by omega)) (Int.emod_lt_of_pos _ (by omega)) _ ?_ ?_
        · rw [vw_c, ← d3]
          exact vw_same s2
        · refine ⟨xs.set ((t + 1) % (xs.length : Int)).toNat (x / m), t + 1, (upd_ne hdc).trans (s2 _ _ d1), upd_same, ?_, by simpa using h4, by omega, by omega⟩
          intro z
          have := congrArg List.length z
          simp at this
          exact h3 this
      · have hr : ∀ y : Int, Q (.int (y % m)) H1 := fun y => h (y % m) (Int.emod_nonneg _ (by omega)) (Int.emod_lt_of_pos _ (by omega)) _ (by rw [d3]; exact Same.refl _) st1
        have b1 := Int.emod_nonneg x (b := 2147483629) (by decide)
        have b2 := Int.emod_lt_of_pos x (b := 2147483629) (by decide)
        have m1 : ∀ y : Int, CMul y 7919 := fun y => .inr (by decide)
        have m2 : ∀ y : Int, CMul y 48271 := fun y => .inr (by decide)
        have m3 : ∀ y : Int, CMul y 69621 := fun y => .inr (by decide)
        have m4 : ∀ y : Int, CMul y 104729 := fun y => .inr (by decide)
        have m5 : ∀ y : Int, CMul (y % 2147483647) (y % 2147483647) := fun y => by
          have h1 := Int.emod_nonneg y (b := 2147483647) (by decide)
          have h2 := Int.emod_lt_of_pos y (b := 2147483647) (by decide)
          exact .inl ⟨by omega, by omega⟩
        refine ⟨(by decide : (0 : Int) < 2147483629), .inl ⟨by omega, by omega⟩, m1 _, m2 _, (by decide : (0 : Int) < 2147483647), m5 _, (by decide : (0 : Int) < 2147483587), m4 _, m3 _, (by decide : (0 : Int) < 2147483629), ⟨(by decide : (0 : Int) < 7), by decide +kernel⟩, (by omega : 0 < m), hr _⟩
    · exact h.elim
end
end K90
namespace K90
open PySem PySem.Spec PyProof.Rows L2 RT RZ
section
variable {P : Program} {w : World} {K : PySem.W.Frag} {mg : Str → Option Value} {base : Heap}
def sp_law_number (K : PySem.W.Frag) : Sp := fun vs H Q E => match vs with
  | [.ref d] => ∃ c n, St d c (n + 6) H ∧ ∀ r : Int, -1000000000000000000 < r → r < 1000000000000000000 → Dr d c n H (Q (.int r))
  | _ => False
theorem sc_law_number : FnScope ["_law_state", "_law_way", "_law_number_here"] ["_law_state"] (defScope s_law_number) := ⟨rfl, rfl, rfl, by decide +kernel, rfl, by decide +kernel, by decide +kernel⟩
theorem ok_law_number (T : Txt K mg) : Cal P w K mg base 2 "_law_number" (sp_law_number K) := by
  obtain ⟨fd, F⟩ := D_law_number T
  refine cal_mk (g_law_number T) F sc_law_number (fun _ _ _ _ _ _ us hl => match us, hl with | [_], _ => rfl) (fun vs H Q E h => ?len) (fun cdv A outer s H vs Q E hr h => ⟨_, (pss_cons (ps_set (i := 1) sc_law_number.nd rfl (by first | exact Or.inl rfl | exact Or.inr rfl) (u_call (ok_law_take T) hr (by decide) (pa_cons (uv 0) (pa_cons pe_int pa_nil))))
      (pss_cons (ps_set (i := 2) sc_law_number.nd rfl (by first | exact Or.inl rfl | exact Or.inr rfl) (u_call (ok_law_take T) hr (by decide) (pa_cons (uv 0) (pa_cons pe_int pa_nil))))
      (pss_cons (us_if (ut_cmp (o_eq hr.units) (uv 1) pe_int (nomark _)) (pss_one (ps_set (i := 2) sc_law_number.nd rfl (by first | exact Or.inl rfl | exact Or.inr rfl) (pe_ix (q_seq (K := K)) (pe_lst (pa_cons pe_int (pa_cons pe_int (pa_cons pe_int (pa_cons pe_int (pa_cons pe_int (pa_cons pe_int (pa_cons pe_int (pa_cons pe_int (pa_cons (pe_op o_sub (pe_op o_pow pe_int pe_int) pe_int) (pa_cons (pe_op o_pow pe_int pe_int) (pa_cons pe_int (pa_cons pe_int pa_nil))))))))))))) (uv 2) (fun _ _ => rfl)))) pss_nil)
      (pss_cons (us_if (ut_cmp (o_eq hr.units) (uv 1) pe_int (nomark _)) (pss_one (ps_set (i := 2) sc_law_number.nd rfl (by first | exact Or.inl rfl | exact Or.inr rfl) (pe_op o_add (pe_op o_mul (u_call (ok_law_take T) hr (by decide) (pa_cons (uv 0) (pa_cons (pe_op o_pow pe_int pe_int) pa_nil))) (pe_op o_pow pe_int pe_int)) (u_call (ok_law_take T) hr (by decide) (pa_cons (uv 0) (pa_cons (pe_op o_pow pe_int pe_int) pa_nil)))))) pss_nil)
      (pss_cons (us_if (ut_cmp (o_eq hr.units) (uv 1) pe_int (nomark _)) (pss_one (ps_set (i := 2) sc_law_number.nd rfl (by first | exact Or.inl rfl | exact Or.inr rfl) (u_call (ok_law_take T) hr (by decide) (pa_cons (uv 0) (pa_cons pe_int pa_nil))))) pss_nil)
      (pss_one (ps_ret (pe_op o_mul (uv 2) (pe_ix (q_seq (K := K)) (pe_lst (pa_cons pe_int (pa_cons (pe_un o_neg pe_int) pa_nil))) (u_call (ok_law_take T) hr (by decide) (pa_cons (uv 0) (pa_cons pe_int pa_nil))) (fun _ _ => rfl)))))))))), ?body⟩)
  case len => unfold sp_law_number at h; (split at h) <;> first | rfl | exact h.elim
  case body =>
    unfold sp_law_number at h
    split at h
    · rename_i d
      obtain ⟨c, n, hst, h⟩ := h
      refine ⟨c, n + 5, hst, by decide, by decide, fun way w0 w1 H1 s1 st1 => ?_⟩
      refine ⟨c, n + 4, st1, by decide, by decide, fun num n0 n1 H2 s2 st2 => ?_⟩
      have s02 := s1.trans s2
      have p18 : (10 : Int) ^ Int.toNat 18 = 1000000000000000000 := by decide +kernel
      have p17 : (10 : Int) ^ Int.toNat 17 = 100000000000000000 := by decide +kernel
      have p9 : (10 : Int) ^ Int.toNat 9 = 1000000000 := by decide +kernel
      have cp : ∀ j : Int, 0 ≤ j → j ≤ 1000000 → CPow 10 j := fun j h1 h2 => ⟨h1, h2, by decide⟩
      dsimp only [gName]
      refine seq_par (fun σ H' => ∃ num : Int, σ = [some (.ref d), some (.int way), some (.int num)] ∧ (-1000000000000000000 < num ∧ num < 1000000000000000000) ∧ Same (vw d c H) (vw d c H') ∧ St d c (n + 4) H') (fun N hN => ?_) ?_
      · refine ⟨rfl, ⟨fun c1 => ?_, fun c1 => hN _ _ ⟨num, rfl, ⟨by omega, by omega⟩, s02, st2⟩⟩⟩
        refine ⟨cp 18 (by decide) (by decide), cp 17 (by decide) (by decide), by rw [sizeLine_eq]; decide, fun p hp => ?_⟩
        dsimp only
        rw [p18, p17]
        obtain ⟨x, hx, hxi⟩ := pickI [0, 1, 63, 64, 127, 128, 8191, 8192, 1000000000000000000 - 1, 100000000000000000, 255, 256] n0 n1
        have hb : ∀ x ∈ ([0, 1, 63, 64, 127, 128, 8191, 8192, 1000000000000000000 - 1, 100000000000000000, 255, 256] : List Int), -1000000000000000000 < x ∧ x < 1000000000000000000 := by decide
        refine ⟨_, .int x, .inl (SqL.of upd_same), hxi, hN _ _ ⟨x, rfl, hb x hx, ?_⟩⟩
        have s3 : Same H2 (upd H2 p _) := same_new (o := .lst (List.map V.int [0, 1, 63, 64, 127, 128, 8191, 8192, 1000000000000000000 - 1, 100000000000000000, 255, 256])) hp (Same.refl _)
        exact ⟨s02.trans (vw_same s3), st2.same s3⟩
      · rintro _ H3 ⟨num, rfl, hnum, s3, st3⟩
        refine seq_par (fun σ H' => ∃ num : Int, σ = [some (.ref d), some (.int way), some (.int num)] ∧ (-1000000000000000000 < num ∧ num < 1000000000000000000) ∧ Same (vw d c H) (vw d c H') ∧ St d c (n + 2) H') (fun N hN => ?_) ?_
        · refine ⟨rfl, ⟨fun c1 => ?_, fun c1 => hN _ _ ⟨num, rfl, hnum, s3, st3.mono (by omega)⟩⟩⟩
          refine ⟨cp 9 (by decide) (by decide), c, n + 3, st3, by rw [p9]; decide, by rw [p9]; decide, fun a a0 a1 H4 s4 st4 => ?_⟩
          refine ⟨cp 9 (by decide) (by decide), .inr (by rw [p9]; decide), cp 9 (by decide) (by decide), c, n + 2, st4, by rw [p9]; decide, by rw [p9]; decide, fun b b0 b1 H5 s5 st5 => ?_⟩
          refine hN _ _ ⟨_, rfl, ?_, (s3.trans s4).trans s5, st5⟩
          rw [p9] at *
          omega
        · rintro _ H4 ⟨num, rfl, hnum, s4, st4⟩
          refine seq_par (fun σ H' => ∃ num : Int, σ = [some (.ref d), some (.int way), some (.int num)] ∧ (-1000000000000000000 < num ∧ num < 1000000000000000000) ∧ Same (vw d c H) (vw d c H') ∧ St d c (n + 1) H') (fun N hN => ?_) ?_
          · refine ⟨rfl, ⟨fun c1 => ?_, fun c1 => hN _ _ ⟨num, rfl, hnum, s4, st4.mono (by omega)⟩⟩⟩
            refine ⟨c, n + 1, st4, by decide, by decide, fun a a0 a1 H5 s5 st5 => ?_⟩
            exact hN _ _ ⟨a, rfl, by omega, s4.trans s5, st5⟩
          · rintro _ H5 ⟨num, rfl, hnum, s5, st5⟩
            refine ⟨by rw [sizeLine_eq]; decide, fun p hp => ?_⟩
            have s6 : Same H5 (upd H5 p (.lst [V.int 1, V.int (-1)])) := same_new hp (Same.refl _)
            have dp := upd_same (H := H5) (a := p) (o := .lst [V.int 1, V.int (-1)])
            have st6 := st5.same s6
            refine ⟨c, n, st6, by decide, by decide, fun a a0 a1 H7 s7 st7 => ?_⟩
            have dp7 := vw_le _ _ (s7 _ _ (st5.new hp (o := .lst [V.int 1, V.int (-1)])))
            obtain ⟨x, hx, hxi⟩ := pickI [1, -1] a0 a1
            refine ⟨_, .int x, .inl (SqL.of dp7), hxi, .inr ?_, h _ ?_ ?_ _ ((s5.trans (vw_same s6)).trans s7) st7⟩
            all_goals
              rcases List.mem_cons.mp hx with rfl | hx
              · omega
              · cases List.mem_singleton.mp hx
                omega
    · exact h.elim
def sp_law_kind (K : PySem.W.Frag) : Sp := fun vs H Q E => match vs with
  | [.ref d] => ∃ c n, St d c (n + 1) H ∧ ∀ t : Bool, Dr d c n H (Q (.str (kindS t)))
  | _ => False
theorem sc_law_kind : FnScope ["_law_state"] ["_law_state"] (defScope s_law_kind) := ⟨rfl, rfl, rfl, by decide +kernel, rfl, by decide +kernel, by decide +kernel⟩
theorem ok_law_kind (T : Txt K mg) : Cal P w K mg base 2 "_law_kind" (sp_law_kind K) := by
  obtain ⟨fd, F⟩ := D_law_kind T
  refine cal_mk (g_law_kind T) F sc_law_kind (fun _ _ _ _ _ _ us hl => match us, hl with | [_], _ => rfl) (fun vs H Q E h => ?len) (fun cdv A outer s H vs Q E hr h => ⟨_, (pss_one (ps_ret (pe_ix (q_seq (K := K)) (pe_lst (pa_cons pe_str (pa_cons pe_str pa_nil))) (pe_op o_div (u_call (ok_law_take T) hr (by decide) (pa_cons (uv 0) (pa_cons pe_int pa_nil))) pe_int) (fun _ _ => rfl)))), ?body⟩)
  case len => unfold sp_law_kind at h; (split at h) <;> first | rfl | exact h.elim
  case body =>
    unfold sp_law_kind at h
    split at h
    · rename_i d
      obtain ⟨c, n, hst, h⟩ := h
      refine ⟨by rw [sizeLine_eq]; decide, fun p hp => ?_⟩
      have s1 : Same H (upd H p (.lst [V.str "number", V.str "text"])) := same_new hp (Same.refl _)
      refine ⟨c, n, hst.same s1, by decide, by decide, fun a a0 a1 H2 s2 st2 => ?_⟩
      have dp := vw_le _ _ (s2 _ _ (hst.new hp (o := .lst [V.str "number", V.str "text"])))
      have e : ∃ t : Bool, atI [V.str "number", V.str "text"] (a / 2) = some (.str (kindS t)) := by
        have : a / 2 = 0 ∨ a / 2 = 1 := by omega
        rcases this with e | e <;> rw [e]
        · exact ⟨false, rfl⟩
        · exact ⟨true, rfl⟩
      obtain ⟨t, ht⟩ := e
      exact ⟨⟨by decide, by decide +kernel⟩, _, .str (kindS t), .inl (SqL.of dp), ht, h t _ ((vw_same s1).trans s2) st2⟩
    · exact h.elim
end
end K90
namespace K90
open PySem PySem.Spec PyProof.Rows L2 RT RZ
theorem pickA {α : Type} (L : List α) {i : Int} (h0 : 0 ≤ i) (h : i < L.length) : ∃ x ∈ L, atI L i = some x := by
  obtain ⟨n, rfl⟩ := Int.eq_ofNat_of_zero_le h0
  have hn : n < L.length := by omega
  exact ⟨L[n], List.getElem_mem hn, atN (List.getElem?_eq_getElem hn)⟩
def okS (z : Str) : Bool := decide (z.cps.toList.length ≤ 20) && z.cps.toList.all isSign
theorem okS_use {z : Str} (h : okS z = true) : ∃ l : List Nat, z = ⟨l.toArray⟩ ∧ l.length ≤ 20 ∧ l.all isSign = true := by
  unfold okS at h
  rw [Bool.and_eq_true] at h
  exact ⟨z.cps.toList, by cases z; simp, of_decide_eq_true h.1, h.2⟩
theorem joinL_one : ∀ cs : List Nat, TL.joinL [] (cs.map fun c => [c]) = cs
  | [] => rfl
  | [c] => rfl
  | c :: e :: r => by
    have ih := joinL_one (e :: r)
    show [c] ++ ([] ++ TL.joinL [] ((e :: r).map fun c => [c])) = _
    rw [ih]
    rfl
theorem join_one (cs : List Nat) : Txt.join "" (cs.map fun c => (⟨#[c]⟩ : Str)) = ⟨cs.toArray⟩ := by
  have h := SX.join_S [] (cs.map fun c => [c])
  rw [joinL_one, List.map_map] at h
  exact h
theorem sum_one : ∀ cs : List Nat, ((cs.map fun c => (⟨#[c]⟩ : Str)).map (·.length)).sum = cs.length
  | [] => rfl
  | c :: r => by
    have ih := sum_one r
    rw [List.map_cons, List.map_cons, List.sum_cons, ih, List.length_cons]
    show 1 + _ = _
    omega
abbrev wordsL : List Str := ["a", "", "aa", "b", "ab", "~", " ", "zz top", "Aa", "0", "aaaaaaaaaaaaaaaaaaaa", "the twenty signs of "]
theorem words_ok : ∀ z ∈ wordsL, okS z = true := by decide +kernel
abbrev signsZ : Str := " !\"#$&'()*+,-./0123456789:;<=>?@ABCXYZ[]^_`abcxyz{|}~"
theorem signs_ok : ∀ c ∈ signsZ.cps.toList, isSign c = true := by decide +kernel
theorem signs_len : signsZ.length = 53 := by decide +kernel
theorem signs_len2 : signsZ.cps.toList.length = 53 := by decide +kernel
section
variable {P : Program} {w : World} {K : PySem.W.Frag} {mg : Str → Option Value} {base : Heap}
def sp_law_text (K : PySem.W.Frag) : Sp := fun vs H Q E => match vs with
  | [.ref d] => ∃ c n, St d c (n + 30) H ∧ ∀ l : List Nat, l.length ≤ 20 → l.all isSign = true → Dr d c n H (Q (.str ⟨l.toArray⟩))
  | _ => False
theorem sc_law_text : FnScope ["_law_state", "_law_words", "_law_signs", "_law_turn"] ["_law_state"] (defScope s_law_text) := ⟨rfl, rfl, rfl, by decide +kernel, rfl, by decide +kernel, by decide +kernel⟩
theorem ok_law_text (T : Txt K mg) : Cal P w K mg base 2 "_law_text" (sp_law_text K) := by
  obtain ⟨fd, F⟩ := D_law_text T
  refine cal_mk (g_law_text T) F sc_law_text (fun _ _ _ _ _ _ us hl => match us, hl with | [_], _ => rfl) (fun vs H Q E h => ?len) (fun cdv A outer s H vs Q E hr h => ⟨_, (pss_cons (ps_set (i := 1) sc_law_text.nd rfl (by first | exact Or.inl rfl | exact Or.inr rfl) (pe_lst (pa_cons pe_str (pa_cons pe_str (pa_cons pe_str (pa_cons pe_str (pa_cons pe_str (pa_cons pe_str (pa_cons pe_str (pa_cons pe_str (pa_cons pe_str (pa_cons pe_str (pa_cons (pe_op o_mulS pe_str pe_int) (pa_cons (pe_slice (q_sl (K := K)) pe_str po_none (u_some pe_int)) pa_nil))))))))))))))
      (pss_cons (us_if (ut_cmp o_gt (u_call (ok_law_take T) hr (by decide) (pa_cons (uv 0) (pa_cons pe_int pa_nil))) pe_int (nomark _)) (pss_one (ps_ret (pe_ix (q_seq (K := K)) (uv 1) (u_call (ok_law_take T) hr (by decide) (pa_cons (uv 0) (pa_cons pe_int pa_nil))) (fun _ _ => rfl)))) pss_nil)
      (pss_cons (ps_set (i := 2) sc_law_text.nd rfl (by first | exact Or.inl rfl | exact Or.inr rfl) pe_str)
      (pss_one (ps_ret (u_join pe_str (ue_lc (own := [("_law_turn", 3)]) rfl sc_law_text.nd (j_rng (b_range T) (pa_cons (u_call (ok_law_take T) hr (by decide) (pa_cons (uv 0) (pa_cons pe_int pa_nil))) pa_nil)) rfl (fun _ _ _ _ _ => (pg_name (i := 3) sc_law_text.nd rfl (by first | exact Or.inl rfl | exact Or.inr rfl))) (fun _ _ _ _ _ => pts_nil) (fun _ _ _ _ _ => (pe_ix (q_seq (K := K)) (uv 2) (u_call (ok_law_take T) hr (by decide) (pa_cons (uv 0) (pa_cons (pe_callB (q_len (K := K)) rfl (b_len T) (by decide +kernel) (pa_cons (uv 2) pa_nil)) pa_nil))) (fun _ _ => rfl)))))))))), ?body⟩)
  case len => unfold sp_law_text at h; (split at h) <;> first | rfl | exact h.elim
  case body =>
    unfold sp_law_text at h
    split at h
    · rename_i d
      obtain ⟨c, n, hst, h⟩ := h
      refine ⟨rfl, rfl, (by rw [sizeLine_eq]; decide +kernel), (by rw [sizeLine_eq]; decide), fun p hp => ?_⟩
      have e20 : cutS (Str.ofString "the twenty signs of it") none (some 20) = "the twenty signs of " := by decide +kernel
      rw [e20]
      have s1 : Same H (upd H p (.lst (wordsL.map V.str))) := same_new hp (Same.refl _)
      have v1 := hst.new hp (o := .lst (wordsL.map V.str))
      have st1 := hst.same s1
      refine ⟨c, n + 29, st1, by decide, by decide, fun a a0 a1 H2 s2 st2 => ?_⟩
      have s02 := (vw_same s1).trans s2
      refine ⟨fun _ => ?_, fun _ => ?_⟩
      · refine ⟨c, n + 28, st2, by decide, by decide, fun b b0 b1 H3 s3 st3 => ?_⟩
        obtain ⟨x, hx, hxi⟩ := pickS wordsL b0 b1
        obtain ⟨l, el, h1, h2⟩ := okS_use (words_ok x hx)
        refine ⟨_, .str x, .inl (SqL.of (vw_le _ _ (s3 _ _ (s2 _ _ v1)))), hxi, ?_⟩
        rw [el]
        exact h l h1 h2 _ (s02.trans s3) (st3.mono (by omega))
      · refine ⟨⟨_, rfl⟩, c, n + 28, st2, by decide, by decide, fun m m0 m1 H3 s3 st3 => ?_⟩
        refine ⟨by omega, by omega, fun D hD => ?_⟩
        have nd := st3.ned hD
        have nc := st3.nec hD
        refine LcGoes.byV .range (fun i acc H' => ∃ cs : List Nat, acc = cs.map (fun c => V.str ⟨#[c]⟩) ∧ cs.length = i ∧ cs.all isSign = true ∧ Same (vw d c H3) (vw d c H') ∧ St d c (n + 28 - i) H') ⟨[], rfl, rfl, rfl, ?_, st3.put nd nc⟩ (fun _ _ _ _ _ _ => trivial) ?_ ?_
        · exact vw_same (same_new hD (Same.refl _))
        · rintro i _ _ H4 _ hi ha d4 ⟨cs, rfl, el, es, s4, st4⟩ ⟨rfl, rfl⟩
          have hi : i < 21 := by
            have : i < m.toNat := hi
            omega
          refine ⟨rfl, ⟨fun _ => ⟨by rw [signs_len, sizeLine_eq]; decide, c, n + 28 - (i + 1), ?_, by rw [signs_len]; decide, by rw [signs_len]; decide, fun b b0 b1 H5 s5 st5 => ?_⟩, (nomatch ·)⟩⟩
          · have e : n + 28 - i = n + 28 - (i + 1) + 1 := by omega
            rw [← e]
            exact st4
          · rw [signs_len] at b1
            obtain ⟨x, hx, hxi⟩ := pickA signsZ.cps.toList b0 (by rw [signs_len2]; exact b1)
            refine ⟨x, by rw [signs_len, sizeLine_eq]; decide, hxi, ?_⟩
            have d5 : H5 D = some (.lst (cs.map fun c => V.str ⟨#[c]⟩)) := vw_le _ _ (s5 _ _ ((vw_at nd nc).trans d4))
            refine LcV.put (by rw [sizeLine_eq]; omega) ha d5 ⟨cs ++ [x], by simp, by simp [el], ?_, ?_, st5.put nd nc⟩
            · rw [List.all_append, es]
              simp [signs_ok x hx]
            · rw [vw_put nd nc]
              exact same_new ((vw_at nd nc).trans hD) (s4.trans s5)
        · rintro _ H4 ha d4 ⟨cs, rfl, el, es, s4, st4⟩
          have hl : cs.length ≤ 20 := by omega
          refine ⟨cs.map fun c => ⟨#[c]⟩, by rw [d4, List.map_map]; rfl, ?_, ?_⟩
          · rw [sum_one, List.length_map]
            show cs.length + cs.length * 0 ≤ _
            omega
          · have := join_one cs
            show Q (.str (Txt.join "" _)) _
            rw [this]
            exact h cs hl es _ ((s02.trans s3).trans s4) (st4.mono (by omega))
    · exact h.elim
end
end K90
namespace K90
open PySem PySem.Spec PyProof.Rows L2 RT RZ
theorem known_snoc {F : Cell → Prop} {cs : List Cell} {x : Cell} (h : ∀ y ∈ cs, F y) (hx : F x) : ∀ y ∈ cs ++ [x], F y := fun y hy => by
  rcases List.mem_append.mp hy with hy | hy
  · exact h y hy
  · cases List.mem_singleton.mp hy
    exact hx
theorem pickC (cs : List Cell) {i : Int} (h0 : 0 ≤ i) (h : i < cs.length) : ∃ x ∈ cs, atI (cs.map cv) i = some (cv x) := by
  obtain ⟨x, hx, e⟩ := pickV (L := cs.map cv) h0 (by rw [List.length_map]; exact h)
  obtain ⟨y, hy, rfl⟩ := List.mem_map.mp hx
  exact ⟨y, hy, e⟩
theorem lastC {cs : List Cell} (h : cs ≠ []) : ∃ x ∈ cs, atI (cs.map cv) (-1) = some (cv x) := by
  refine ⟨cs.getLast h, List.getLast_mem h, ?_⟩
  conv => lhs; rw [← List.dropLast_concat_getLast h]
  rw [List.map_append]
  exact atLast
theorem rem_small (i m : Int) (hm : 0 < m) (h : m ≤ 1000000000000) : 0 ≤ i % m ∧ i % m < 1000000000000 := ⟨Int.emod_nonneg _ (by omega), Int.lt_of_lt_of_le (Int.emod_lt_of_pos _ hm) h⟩
theorem prod_small {i step : Int} (h0 : 0 ≤ i) (h1 : i ≤ 64) (h2 : -4 ≤ step) (h3 : step ≤ 1000000) : -300 ≤ i * step ∧ i * step ≤ 64000000 := by
  have a := Int.mul_le_mul_of_nonneg_left h3 h0
  have b := Int.mul_le_mul_of_nonneg_left h2 h0
  omega
section
variable {P : Program} {w : World} {K : PySem.W.Frag} {mg : Str → Option Value} {base : Heap}
def DrL (d c : Addr) (n : Nat) (H : Hp) (t : Bool) (many : Nat) (Q : VK) : Prop := ∀ H' p (cs : List Cell), cs.length = many → (∀ x ∈ cs, Kin t x) → vw d c H p = none → Bun d c H [(p, .lst (cs.map cv))] n H' → Q (.ref p) H'
def sp_law_cells (K : PySem.W.Frag) : Sp := fun vs H Q E => match vs with
  | [.ref d, .str k, .int m] => ∃ c n t many, k = kindS t ∧ m = (many : Nat) ∧ many ≤ 64 ∧ St d c (n + 1000) H ∧ DrL d c n H t many Q
  | _ => False
theorem sc_law_cells : FnScope ["_law_state", "_law_kind_here", "_law_many", "_law_way", "_law_open_in", "_law_some", "_law_step", "_law_cells_here", "_law_place", "_law_cell", "_law_turn"] ["_law_state", "_law_kind_here", "_law_many"] (defScope s_law_cells) := ⟨rfl, rfl, rfl, by decide +kernel, rfl, by decide +kernel, by decide +kernel⟩
theorem ok_law_cells (T : Txt K mg) : Cal P w K mg base 3 "_law_cells" (sp_law_cells K) := by
  obtain ⟨fd, F⟩ := D_law_cells T
  refine cal_mk (g_law_cells T) F sc_law_cells (fun _ _ _ _ _ _ us hl => match us, hl with | [_, _, _], _ => rfl) (fun vs H Q E h => ?len) (fun cdv A outer s H vs Q E hr h => ⟨_, (pss_cons (ps_set (i := 3) sc_law_cells.nd rfl (by first | exact Or.inl rfl | exact Or.inr rfl) (u_call (ok_law_take T) hr (by decide) (pa_cons (uv 0) (pa_cons pe_int pa_nil))))
      (pss_cons (ps_set (i := 4) sc_law_cells.nd rfl (by first | exact Or.inl rfl | exact Or.inr rfl) (pe_ix (q_seq (K := K)) (pe_lst (pa_cons pe_int (pa_cons pe_int (pa_cons pe_int pa_nil)))) (u_call (ok_law_take T) hr (by decide) (pa_cons (uv 0) (pa_cons pe_int pa_nil))) (fun _ _ => rfl)))
      (pss_cons (us_lc (i := 5) (own := [("_law_turn", 10)]) rfl sc_law_cells.nd rfl rfl (sw_true rfl rfl rfl (by decide +kernel)) (j_rng (b_range T) (pa_cons (pe_op o_add pe_int (u_call (ok_law_take T) hr (by decide) (pa_cons (uv 0) (pa_cons pe_int pa_nil)))) pa_nil)) rfl (fun _ _ _ _ _ => (pg_name (i := 10) sc_law_cells.nd rfl (by first | exact Or.inl rfl | exact Or.inr rfl))) (fun _ _ _ _ _ => pts_nil) (fun _ _ _ _ _ => (ue_if (ut_cmp (o_eq hr.units) (uv 1) pe_str (nomark _)) (u_call (ok_law_text T) hr (by decide) (pa_cons (uv 0) pa_nil)) (u_call (ok_law_number T) hr (by decide) (pa_cons (uv 0) pa_nil)))))
      (pss_cons (ps_set (i := 6) sc_law_cells.nd rfl (by first | exact Or.inl rfl | exact Or.inr rfl) (pe_ix (q_seq (K := K)) (pe_lst (pa_cons (pe_op o_sub (u_call (ok_law_take T) hr (by decide) (pa_cons (uv 0) (pa_cons pe_int pa_nil))) pe_int) (pa_cons (u_call (ok_law_take T) hr (by decide) (pa_cons (uv 0) (pa_cons (pe_op o_pow pe_int pe_int) pa_nil))) pa_nil))) (u_call (ok_law_take T) hr (by decide) (pa_cons (uv 0) (pa_cons pe_int pa_nil))) (fun _ _ => rfl)))
      (pss_cons (ps_set (i := 7) sc_law_cells.nd rfl (by first | exact Or.inl rfl | exact Or.inr rfl) (pe_lst pa_nil))
      (pss_cons (us_for (passes_of rfl) rfl (j_rng (b_range T) (pa_cons (uv 2) pa_nil)) (pg_name (i := 8) sc_law_cells.nd rfl (by first | exact Or.inl rfl | exact Or.inr rfl)) (pss_cons (ps_set (i := 9) sc_law_cells.nd rfl (by first | exact Or.inl rfl | exact Or.inr rfl) (pe_ix (q_seq (K := K)) (uv 5) (u_call (ok_law_take T) hr (by decide) (pa_cons (uv 0) (pa_cons (pe_callB (q_len (K := K)) rfl (b_len T) (by decide +kernel) (pa_cons (uv 5) pa_nil)) pa_nil))) (fun _ _ => rfl)))
      (pss_cons (us_if (PW.pt (uw_and (ut_cmp (o_eq hr.units) (uv 3) pe_int (nomark _)) (uw_and (ut_cmp o_gt (uv 8) pe_int (nomark _)) (pw_and1 (ut_cmp o_gt (u_call (ok_law_take T) hr (by decide) (pa_cons (uv 0) (pa_cons pe_int pa_nil))) pe_int (nomark _)))))) (pss_one (ps_set (i := 9) sc_law_cells.nd rfl (by first | exact Or.inl rfl | exact Or.inr rfl) (pe_ix (q_seq (K := K)) (uv 7) (pe_un o_neg pe_int) (fun _ _ => rfl)))) (pss_one (us_if (PW.pt (uw_and (ut_cmp (o_eq hr.units) (uv 3) pe_int (nomark _)) (pw_and1 (ut_cmp (o_eq hr.units) (uv 1) pe_str (nomark _))))) (pss_one (ps_set (i := 9) sc_law_cells.nd rfl (by first | exact Or.inl rfl | exact Or.inr rfl) (pe_op o_add (pe_op o_mod (pe_ix (q_seq (K := K)) (uv 5) pe_int (fun _ _ => rfl)) (pe_op o_pow pe_int pe_int)) (pe_op o_mul (uv 8) (uv 6))))) (pss_one (us_if (PW.pt (uw_and (ut_cmp (o_eq hr.units) (uv 3) pe_int (nomark _)) (pw_and1 (ut_cmp (o_eq hr.units) (uv 1) pe_str (nomark _))))) (pss_one (ps_set (i := 9) sc_law_cells.nd rfl (by first | exact Or.inl rfl | exact Or.inr rfl) (u_call (ok_law_number T) hr (by decide) (pa_cons (uv 0) pa_nil)))) pss_nil)))))
      (pss_cons (us_if (PW.pt (uw_and (ut_cmp o_gt (uv 4) pe_int (nomark _)) (uw_and (ut_cmp (o_ne hr.units) (uv 3) pe_int (nomark _)) (pw_and1 (ut_cmp (o_eq hr.units) (u_call (ok_law_take T) hr (by decide) (pa_cons (uv 0) (pa_cons (uv 4) pa_nil))) pe_int (nomark _)))))) (pss_one (ps_set (i := 9) sc_law_cells.nd rfl (by first | exact Or.inl rfl | exact Or.inr rfl) pe_non)) pss_nil)
      (pss_one (ps_expr (pe_bm PySem.F.plainAttrs_list PySem.F.slot_list_append PySem.F.type_list_append m_append (uv 7) (pa_cons (uv 9) pa_nil))))))))
      (pss_one (ps_ret (uv 7))))))))), ?body⟩)
  case len => unfold sp_law_cells at h; (split at h) <;> first | rfl | exact h.elim
  case body =>
    unfold sp_law_cells at h
    split at h
    · rename_i d k m
      obtain ⟨c, n, t, many, rfl, rfl, hm, hst, h⟩ := h
      refine ⟨c, n + 999, hst, by decide, by decide, fun way w0 w1 H1 s1 st1 => ?_⟩
      have b1 := (Bun.start hst).draw s1 st1
      refine ⟨len3, fun p0 hp0 => ?_⟩
      have b2 := b1.new hp0 (o := .lst [V.int 0, V.int 4, V.int 9])
      refine ⟨c, n + 998, b2.st, by decide, by decide, fun a a0 a1 H3 s3 st3 => ?_⟩
      have b3 := b2.draw s3 st3
      obtain ⟨op, hop, hopi⟩ := pickI [0, 4, 9] a0 a1
      refine ⟨_, .int op, .inl (SqL.of b3.hd), hopi, ?_⟩
      refine ⟨c, n + 997, b3.st, by decide, by decide, fun sz z0 z1 H4 s4 st4 => ?_⟩
      have b4 := (b3.draw s4 st4).sub (os' := []) (fun _ h => nomatch h)
      refine ⟨by omega, by omega, fun D hD => ?_⟩
      have fD := b4.fresh hD
      refine LcGoes.byV .range (fun i acc H' => ∃ cs : List Cell, acc = cs.map cv ∧ cs.length = i ∧ (∀ x ∈ cs, Known t x) ∧ Bun d c H [(D, .lst acc)] (n + 997 - 30 * i) H') ⟨[], rfl, rfl, (by simp), (b4.new hD)⟩ (fun _ _ _ _ _ _ => trivial) ?_ ?_
      · rintro i _ _ H5 _ hi ha d5 ⟨cs, rfl, el, ek, b5⟩ ⟨rfl, rfl⟩
        have hi : i < 8 := by
          have : i < (1 + sz).toNat := hi
          omega
        refine ⟨rfl, ⟨fun _ => ⟨rfl, ⟨fun c1 => ?_, fun c1 => ?_⟩⟩, (nomatch ·)⟩⟩
        · rw [kindS_eq] at c1
          subst c1
          refine ⟨c, n + 997 - 30 * (i + 1), b5.st.mono (by omega), fun l h1 h2 H6 s6 st6 => ?_⟩
          have b6 := b5.draw s6 st6
          exact LcV.put (by rw [sizeLine_eq]; omega) ha b6.hd ⟨cs ++ [.str l], by simp [cv], by simp [el], known_snoc ek (Known.str h1 h2), b6.put fD.1 (fun _ h => nomatch h)⟩
        · rw [kindS_eq] at c1
          subst c1
          refine ⟨c, n + 997 - 30 * (i + 1), b5.st.mono (by omega), fun r h1 h2 H6 s6 st6 => ?_⟩
          have b6 := b5.draw s6 st6
          exact LcV.put (by rw [sizeLine_eq]; omega) ha b6.hd ⟨cs ++ [.int r], by simp [cv], by simp [el], known_snoc ek (Known.int ⟨h1, h2⟩), b6.put fD.1 (fun _ h => nomatch h)⟩
      · rintro _ H6 ha d6 ⟨sc, rfl, el, ek, b6⟩
        have el2 : 1 ≤ sc.length ∧ sc.length ≤ 8 := by omega
        have b6 := b6.less (m := n + 753) (by omega)
        have p6 : (10 : Int) ^ Int.toNat 6 = 1000000 := by decide +kernel
        refine ⟨c, n + 752, b6.st, by decide, by decide, fun u u0 u1 H7 s7 st7 => ?_⟩
        have b7 := b6.draw s7 st7
        refine ⟨⟨by decide, by decide, by decide⟩, c, n + 751, b7.st, by rw [p6]; decide, by rw [p6]; decide, fun v v0 v1 H8 s8 st8 => ?_⟩
        rw [p6] at v1
        have b8 := b7.draw s8 st8
        refine ⟨len2, fun p1 hp1 => ?_⟩
        have b9 := b8.new hp1 (o := .lst [V.int (u - 4), V.int v])
        refine ⟨c, n + 750, b9.st, by decide, by decide, fun a2 a20 a21 H10 s10 st10 => ?_⟩
        have b10 := b9.draw s10 st10
        obtain ⟨step, hstep, hstepi⟩ := pickI [u - 4, v] a20 a21
        have hstep : -4 ≤ step ∧ step ≤ 1000000 := by
          rcases List.mem_cons.mp hstep with rfl | hx
          · omega
          · cases List.mem_singleton.mp hx
            omega
        refine ⟨_, .int step, .inl (SqL.of b10.hd), hstepi, ?_⟩
        have b11 := b10.sub (os' := [(D, .lst (sc.map cv))]) (fun x hx => by simp at hx; simp [hx])
        refine ⟨by rw [sizeLine_eq]; decide, fun pc hpc => ?_⟩
        have fpc := b11.fresh hpc
        have b12 := b11.new hpc (o := .lst [])
        refine ⟨by omega, by omega, ?_⟩
        refine ForGoes.by .range (fun i σ H' => ∃ (cs : List Cell) (x y : Option V), σ = [some (.ref d), some (.str (kindS t)), some (.int (many : Nat)), some (.int way), some (.int op), some (.ref D), some (.int step), some (.ref pc), x, y, none] ∧ cs.length = i ∧ (∀ x ∈ cs, Kin t x) ∧ Bun d c H [(pc, .lst (cs.map cv)), (D, .lst (sc.map cv))] (n + 10 * (many - i)) H') ⟨[], none, none, rfl, rfl, (by simp), b12.less (by omega)⟩ (fun _ _ _ _ _ => trivial) ?_ ?_
        · rintro i _ _ H13 _ hi ⟨cs, x, y, rfl, hcl, hck, b13⟩ ⟨rfl, rfl⟩
          have hi : i < many := by
            have : i < ((many : Nat) : Int).toNat := hi
            rwa [Int.toNat_natCast] at this
          have eN : n + 10 * (many - i) = n + 10 * (many - (i + 1)) + 10 := by omega
          rw [eN] at b13
          generalize n + 10 * (many - (i + 1)) = M at *
          refine ⟨_, .inl (SqL.of b13.hd2), c, M + 9, b13.st, by rw [List.length_map]; omega, by rw [List.length_map]; omega, fun r r0 r1 H14 s14 st14 => ?_⟩
          have b14 := b13.draw s14 st14
          rw [List.length_map] at r1
          obtain ⟨cell, hcell, hcelli⟩ := pickC sc r0 r1
          refine ⟨_, _, .inl (SqL.of b14.hd2), hcelli, ?_⟩
          dsimp only [gName]
          refine seq_par (fun σ H' => ∃ y : Cell, σ = [some (.ref d), some (.str (kindS t)), some (.int (many : Nat)), some (.int way), some (.int op), some (.ref D), some (.int step), some (.ref pc), some (.int (0 + (i : Nat))), some (cv y), none] ∧ Kin t y ∧ Bun d c H [(pc, .lst (cs.map cv)), (D, .lst (sc.map cv))] (M + 1) H') (fun N hN => ?_) ?_
          · refine if_par (fun k H' => Bun d c H [(pc, .lst (cs.map cv)), (D, .lst (sc.map cv))] (M + 8) H' ∧ (k = true → 0 < i)) (fun Q' hQ => ?_) (fun H15 hb => ?_) (fun H15 hb => ?_)
            · refine ⟨rfl, ⟨fun c1 => ⟨fun c2 => ⟨c, M + 8, b14.st, by decide, by decide, fun r r0 r1 H15 s15 st15 => hQ _ _ ⟨b14.draw s15 st15, fun _ => ?_⟩⟩, fun c2 => hQ _ _ ⟨b14.less (by omega), fun z => nomatch z⟩⟩, fun c1 => hQ _ _ ⟨b14.less (by omega), fun z => nomatch z⟩⟩⟩
              have := of_decide_eq_true c2
              omega
            · obtain ⟨b15, h15⟩ := hb
              have h15 := h15 rfl
              obtain ⟨z, hz, hzi⟩ := lastC (cs := cs) (fun e => by rw [e] at hcl; simp at hcl; omega)
              exact ⟨_, _, .inl (SqL.of b15.hd), hzi, hN _ _ ⟨z, rfl, hck z hz, b15.less (by omega)⟩⟩
            · obtain ⟨b15, _⟩ := hb
              refine if_par (fun k H' => H' = H15 ∧ (k = true → t = false)) (fun Q' hQ => ?_) (fun H16 hb => ?_) (fun H16 hb => ?_)
              · refine ⟨rfl, ⟨fun c1 => ⟨rfl, hQ _ _ ⟨rfl, fun z => ?_⟩⟩, fun c1 => hQ _ _ ⟨rfl, fun z => nomatch z⟩⟩⟩
                rw [kindS_num] at z
                cases t <;> simp_all
              · obtain ⟨rfl, ht⟩ := hb
                have ht := ht rfl
                subst ht
                obtain ⟨z, hz, hzi⟩ := pickC sc (i := 0) (by decide) (by omega)
                obtain ⟨j, rfl, hj1, hj2⟩ := (ek z hz).isInt
                have p12 : (10 : Int) ^ Int.toNat 12 = 1000000000000 := by decide +kernel
                have hps := prod_small (i := 0 + (i : Nat)) (by omega) (by omega) hstep.1 hstep.2
                have hr := rem_small j ((10 : Int) ^ Int.toNat 12) (by rw [p12]; decide) (by rw [p12]; decide)
                refine ⟨_, _, .inl (SqL.of b15.hd2), hzi, ⟨by decide, by decide, by decide⟩, (by rw [p12]; exact (by decide : (0 : Int) < 1000000000000)), .inl ⟨by omega, by omega⟩, hN _ _ ⟨.int _, rfl, .inr (Known.int ⟨?_, ?_⟩), b15.less (by omega)⟩⟩
                · omega
                · omega
              · obtain ⟨rfl, _⟩ := hb
                refine if_par (fun k H' => H' = H16 ∧ (k = true → t = false)) (fun Q' hQ => ?_) (fun H17 hb => ?_) (fun H17 hb => ?_)
                · refine ⟨rfl, ⟨fun c1 => ⟨rfl, hQ _ _ ⟨rfl, fun z => ?_⟩⟩, fun c1 => hQ _ _ ⟨rfl, fun z => nomatch z⟩⟩⟩
                  rw [kindS_num] at z
                  cases t <;> simp_all
                · obtain ⟨rfl, ht⟩ := hb
                  have ht := ht rfl
                  subst ht
                  refine ⟨c, M + 2, b15.st, fun r h1 h2 H18 s18 st18 => ?_⟩
                  exact hN _ _ ⟨.int r, rfl, .inr (Known.int ⟨h1, h2⟩), (b15.draw s18 st18).less (by omega)⟩
                · obtain ⟨rfl, _⟩ := hb
                  exact hN _ _ ⟨cell, rfl, .inr (ek cell hcell), b15.less (by omega)⟩
          · rintro _ H15 ⟨z, rfl, hz, b15⟩
            refine seq_par (fun σ H' => ∃ y : Cell, σ = [some (.ref d), some (.str (kindS t)), some (.int (many : Nat)), some (.int way), some (.int op), some (.ref D), some (.int step), some (.ref pc), some (.int (0 + (i : Nat))), some (cv y), none] ∧ Kin t y ∧ Bun d c H [(pc, .lst (cs.map cv)), (D, .lst (sc.map cv))] M H') (fun N hN => ?_) ?_
            · refine if_par (fun k H' => Bun d c H [(pc, .lst (cs.map cv)), (D, .lst (sc.map cv))] M H') (fun Q' hQ => ?_) (fun H16 hb => ?_) (fun H16 hb => ?_)
              · refine ⟨fun c1 => ⟨rfl, ⟨fun c2 => ⟨c, M, b15.st, ?_, ?_, fun r r0 r1 H16 s16 st16 => ⟨rfl, hQ _ _ (b15.draw s16 st16)⟩⟩, fun c2 => hQ _ _ (b15.less (by omega))⟩⟩, fun c1 => hQ _ _ (b15.less (by omega))⟩
                · have := of_decide_eq_true c1
                  omega
                · have hb : ∀ x ∈ ([0, 4, 9] : List Int), x ≤ 1000000000 := by decide
                  exact hb op hop
              · exact hN _ _ ⟨.non, rfl, .inl rfl, hb⟩
              · exact hN _ _ ⟨z, rfl, hz, hb⟩
            · rintro _ H16 ⟨z, rfl, hz, b16⟩
              refine ⟨ty_l b16.hd, _, b16.hd, by rw [sizeLine_eq, List.length_map]; omega, ?_⟩
              refine ⟨cs ++ [z], _, _, rfl, by simp [hcl], known_snoc hck hz, ?_⟩
              have := b16.put (o' := .lst (cs.map cv ++ [cv z])) fpc.1 (fun x hx => by
                have := fpc.2 x (by simpa using hx)
                exact this)
              simpa using this
        · rintro _ H13 ⟨cs, x, y, rfl, hcl, hck, b13⟩
          rw [Int.toNat_natCast] at hcl
          exact h _ pc cs hcl hck fpc.1 ((b13.less (m := n) (by omega)).sub fun x hx => by
            cases List.mem_singleton.mp hx
            simp)
    · exact h.elim
end
end K90
namespace K90
open PySem PySem.Spec PyProof.Rows L2 RT RZ
abbrev textsL : List Str := ["", "a", "aa", "ab", "b", "~", " ", "Z"]
theorem texts_ok : ∀ z ∈ textsL, okS z = true := by decide +kernel
section
variable {P : Program} {w : World} {K : PySem.W.Frag} {mg : Str → Option Value} {base : Heap}
def sp_law_near_cells (K : PySem.W.Frag) : Sp := fun vs H Q E => match vs with
  | [.ref d, .str k, .int m] => ∃ c n t many, k = kindS t ∧ m = (many : Nat) ∧ many ≤ 64 ∧ St d c (n + 1000) H ∧ DrL d c n H t many Q
  | _ => False
theorem sc_law_near_cells : FnScope ["_law_state", "_law_kind_here", "_law_many", "_law_first", "_law_texts", "_law_wide", "_law_begin_here", "_law_open_in", "_law_cells_here", "_law_k", "_law_turn", "_law_cell"] ["_law_state", "_law_kind_here", "_law_many"] (defScope s_law_near_cells) := ⟨rfl, rfl, rfl, by decide +kernel, rfl, by decide +kernel, by decide +kernel⟩
theorem ok_law_near_cells (T : Txt K mg) : Cal P w K mg base 3 "_law_near_cells" (sp_law_near_cells K) := by
  obtain ⟨fd, F⟩ := D_law_near_cells T
  refine cal_mk (g_law_near_cells T) F sc_law_near_cells (fun _ _ _ _ _ _ us hl => match us, hl with | [_, _, _], _ => rfl) (fun vs H Q E h => ?len) (fun cdv A outer s H vs Q E hr h => ⟨_, (pss_cons (ps_set (i := 3) sc_law_near_cells.nd rfl (by first | exact Or.inl rfl | exact Or.inr rfl) (pe_ix (q_seq (K := K)) (pe_lst (pa_cons (pe_op o_sub (u_call (ok_law_take T) hr (by decide) (pa_cons (uv 0) (pa_cons pe_int pa_nil))) pe_int) (pa_cons (pe_op o_sub (pe_op o_pow pe_int pe_int) pe_int) (pa_cons (pe_op o_sub pe_int (pe_op o_pow pe_int pe_int)) (pa_cons pe_int pa_nil))))) (u_call (ok_law_take T) hr (by decide) (pa_cons (uv 0) (pa_cons pe_int pa_nil))) (fun _ _ => rfl)))
      (pss_cons (ps_set (i := 4) sc_law_near_cells.nd rfl (by first | exact Or.inl rfl | exact Or.inr rfl) (pe_lst (pa_cons pe_str (pa_cons pe_str (pa_cons pe_str (pa_cons pe_str (pa_cons pe_str (pa_cons pe_str (pa_cons pe_str (pa_cons pe_str pa_nil))))))))))
      (pss_cons (ps_set (i := 5) sc_law_near_cells.nd rfl (by first | exact Or.inl rfl | exact Or.inr rfl) (pe_ix (q_seq (K := K)) (pe_lst (pa_cons pe_int (pa_cons pe_int (pa_cons pe_int (pa_cons pe_int (pa_cons pe_int pa_nil)))))) (u_call (ok_law_take T) hr (by decide) (pa_cons (uv 0) (pa_cons pe_int pa_nil))) (fun _ _ => rfl)))
      (pss_cons (ps_set (i := 6) sc_law_near_cells.nd rfl (by first | exact Or.inl rfl | exact Or.inr rfl) (u_call (ok_law_take T) hr (by decide) (pa_cons (uv 0) (pa_cons pe_int pa_nil))))
      (pss_cons (ps_set (i := 7) sc_law_near_cells.nd rfl (by first | exact Or.inl rfl | exact Or.inr rfl) (pe_ix (q_seq (K := K)) (pe_lst (pa_cons pe_int (pa_cons pe_int (pa_cons pe_int (pa_cons pe_int (pa_cons pe_int pa_nil)))))) (u_call (ok_law_take T) hr (by decide) (pa_cons (uv 0) (pa_cons pe_int pa_nil))) (fun _ _ => rfl)))
      (pss_cons (ps_set (i := 8) sc_law_near_cells.nd rfl (by first | exact Or.inl rfl | exact Or.inr rfl) (pe_lst pa_nil))
      (pss_cons (us_for (passes_of rfl) rfl (j_rng (b_range T) (pa_cons (uv 2) pa_nil)) (pg_name (i := 9) sc_law_near_cells.nd rfl (by first | exact Or.inl rfl | exact Or.inr rfl)) (pss_cons (ps_set (i := 10) sc_law_near_cells.nd rfl (by first | exact Or.inl rfl | exact Or.inr rfl) (u_call (ok_law_take T) hr (by decide) (pa_cons (uv 0) (pa_cons (uv 5) pa_nil))))
      (pss_cons (ps_set (i := 11) sc_law_near_cells.nd rfl (by first | exact Or.inl rfl | exact Or.inr rfl) (pe_ix (q_seq (K := K)) (pe_lst (pa_cons (pe_op o_add (uv 3) (pe_op o_mod (uv 10) pe_int)) (pa_cons (pe_ix (q_seq (K := K)) (uv 4) (pe_op o_mod (pe_op o_add (uv 6) (uv 10)) pe_int) (fun _ _ => rfl)) pa_nil))) (pe_callTy c_int rfl (b_int T) (by decide +kernel) (pa_cons (pe_cmpR (o_eq hr.units) (uv 1) pe_str (nomark _)) pa_nil)) (fun _ _ => rfl)))
      (pss_cons (us_if (PW.pt (uw_and (ut_cmp o_gt (uv 7) pe_int (nomark _)) (pw_and1 (ut_cmp (o_eq hr.units) (u_call (ok_law_take T) hr (by decide) (pa_cons (uv 0) (pa_cons (uv 7) pa_nil))) pe_int (nomark _))))) (pss_one (ps_set (i := 11) sc_law_near_cells.nd rfl (by first | exact Or.inl rfl | exact Or.inr rfl) pe_non)) pss_nil)
      (pss_one (ps_expr (pe_bm PySem.F.plainAttrs_list PySem.F.slot_list_append PySem.F.type_list_append m_append (uv 8) (pa_cons (uv 11) pa_nil))))))))
      (pss_one (ps_ret (uv 8)))))))))), ?body⟩)
  case len => unfold sp_law_near_cells at h; (split at h) <;> first | rfl | exact h.elim
  case body =>
    unfold sp_law_near_cells at h
    split at h
    · rename_i d k m
      obtain ⟨c, n, t, many, rfl, rfl, hm, hst, h⟩ := h
      have p18 : (10 : Int) ^ Int.toNat 18 = 1000000000000000000 := by decide +kernel
      have cp : CPow 10 18 := ⟨by decide, by decide, by decide⟩
      refine ⟨c, n + 999, hst, by decide, by decide, fun a a0 a1 H1 s1 st1 => ?_⟩
      have b1 := (Bun.start hst).draw s1 st1
      refine ⟨cp, cp, len4, fun p0 hp0 => ?_⟩
      rw [p18]
      have b2 := b1.new hp0 (o := .lst [V.int (a - 20), V.int (1000000000000000000 - 4), V.int (4 - 1000000000000000000), V.int 63])
      refine ⟨c, n + 998, b2.st, by decide, by decide, fun u u0 u1 H3 s3 st3 => ?_⟩
      have b3 := b2.draw s3 st3
      obtain ⟨first, hf, hfi⟩ := pickI [a - 20, 1000000000000000000 - 4, 4 - 1000000000000000000, 63] u0 u1
      have hf : -1000000000000000000 < first ∧ first < 1000000000000000000 - 3 := by
        simp only [List.mem_cons, List.mem_nil_iff, or_false] at hf
        omega
      refine ⟨_, .int first, .inl (SqL.of b3.hd), hfi, ?_⟩
      have b3 := b3.sub (os' := []) (fun _ h => nomatch h)
      refine ⟨by rw [sizeLine_eq]; decide, fun pt hpt => ?_⟩
      have b4 := b3.new hpt (o := .lst (textsL.map V.str))
      refine ⟨by rw [sizeLine_eq]; decide, fun p1 hp1 => ?_⟩
      have b5 := b4.new hp1 (o := .lst [V.int 1, V.int 1, V.int 2, V.int 3, V.int 8])
      refine ⟨c, n + 997, b5.st, by decide, by decide, fun u u0 u1 H6 s6 st6 => ?_⟩
      have b6 := b5.draw s6 st6
      obtain ⟨wide, hw, hwi⟩ := pickI [1, 1, 2, 3, 8] u0 u1
      have hw : 1 ≤ wide ∧ wide ≤ 8 := by
        simp only [List.mem_cons, List.mem_nil_iff, or_false] at hw
        omega
      refine ⟨_, .int wide, .inl (SqL.of b6.hd), hwi, ?_⟩
      have b6 := b6.sub (os' := [(pt, .lst (textsL.map V.str))]) (fun x hx => by simp at hx; simp [hx])
      refine ⟨c, n + 996, b6.st, by decide, by decide, fun beg e0 e1 H7 s7 st7 => ?_⟩
      have b7 := b6.draw s7 st7
      refine ⟨by rw [sizeLine_eq]; decide, fun p2 hp2 => ?_⟩
      have b8 := b7.new hp2 (o := .lst [V.int 0, V.int 0, V.int 2, V.int 5, V.int 1])
      refine ⟨c, n + 995, b8.st, by decide, by decide, fun u u0 u1 H9 s9 st9 => ?_⟩
      have b9 := b8.draw s9 st9
      obtain ⟨op, hop, hopi⟩ := pickI [0, 0, 2, 5, 1] u0 u1
      have hop : 0 ≤ op ∧ op ≤ 5 := by
        simp only [List.mem_cons, List.mem_nil_iff, or_false] at hop
        omega
      refine ⟨_, .int op, .inl (SqL.of b9.hd), hopi, ?_⟩
      have b9 := b9.sub (os' := [(pt, .lst (textsL.map V.str))]) (fun x hx => by simp at hx; simp [hx])
      refine ⟨by rw [sizeLine_eq]; decide, fun pc hpc => ?_⟩
      have fpc := b9.fresh hpc
      have b12 := b9.new hpc (o := .lst [])
      refine ⟨by omega, by omega, ?_⟩
      refine ForGoes.by .range (fun i σ H' => ∃ (cs : List Cell) (x y z : Option V), σ = [some (.ref d), some (.str (kindS t)), some (.int (many : Nat)), some (.int first), some (.ref pt), some (.int wide), some (.int beg), some (.int op), some (.ref pc), x, y, z] ∧ cs.length = i ∧ (∀ x ∈ cs, Kin t x) ∧ Bun d c H [(pc, .lst (cs.map cv)), (pt, .lst (textsL.map V.str))] (n + 10 * (many - i)) H') ⟨[], none, none, none, rfl, rfl, (by simp), b12.less (by omega)⟩ (fun _ _ _ _ _ => trivial) ?_ ?_
      · rintro i _ _ H13 _ hi ⟨cs, x, y, z, rfl, hcl, hck, b13⟩ ⟨rfl, rfl⟩
        have hi : i < many := by
          have : i < ((many : Nat) : Int).toNat := hi
          rwa [Int.toNat_natCast] at this
        have eN : n + 10 * (many - i) = n + 10 * (many - (i + 1)) + 10 := by omega
        rw [eN] at b13
        generalize n + 10 * (many - (i + 1)) = M at *
        refine ⟨c, M + 9, b13.st, hw.1, by omega, fun r r0 r1 H14 s14 st14 => ?_⟩
        have b14 := b13.draw s14 st14
        have g0 := Int.emod_nonneg (beg + r) (b := 8) (by decide)
        have g1 := Int.emod_lt_of_pos (beg + r) (b := 8) (by decide)
        have g2 := Int.emod_nonneg r (b := 4) (by decide)
        have g3 := Int.emod_lt_of_pos r (b := 4) (by decide)
        obtain ⟨zt, hzt, hzi⟩ := pickS textsL g0 g1
        obtain ⟨l, rfl, hl1, hl2⟩ := okS_use (texts_ok zt hzt)
        refine ⟨(by decide : (0 : Int) < 4), (by decide : (0 : Int) < 8), _, _, .inl (SqL.of b14.hd2), hzi, len2, fun p3 hp3 => ?_⟩
        have b15 := (b14.new hp3 (o := .lst [V.int (first + r % 4), V.str ⟨l.toArray⟩]))
        have hpick : ∃ z : Cell, Known t z ∧ atI [V.int (first + r % 4), V.str ⟨l.toArray⟩] (if (false != decide (V.str (kindS t) = V.str "text")) = true then 1 else 0) = some (cv z) := by
          rw [kindS_eq]
          cases t with
          | false => exact ⟨.int (first + r % 4), Known.int ⟨by omega, by omega⟩, rfl⟩
          | true => exact ⟨.str l, Known.str hl1 hl2, rfl⟩
        obtain ⟨cell, hcell, hcelli⟩ := hpick
        refine ⟨rfl, _, cv cell, .inl (SqL.of upd_same), hcelli, ?_⟩
        have b15 := b15.sub (os' := [(pc, .lst (cs.map cv)), (pt, .lst (textsL.map V.str))]) (fun x hx => List.mem_cons_of_mem _ hx)
        generalize upd H14 p3 _ = H15 at *
        dsimp only [gName]
        refine seq_par (fun σ H' => ∃ y : Cell, σ = [some (.ref d), some (.str (kindS t)), some (.int (many : Nat)), some (.int first), some (.ref pt), some (.int wide), some (.int beg), some (.int op), some (.ref pc), some (.int (0 + (i : Nat))), some (.int r), some (cv y)] ∧ Kin t y ∧ Bun d c H [(pc, .lst (cs.map cv)), (pt, .lst (textsL.map V.str))] M H') (fun N hN => ?_) ?_
        · refine if_par (fun k H' => Bun d c H [(pc, .lst (cs.map cv)), (pt, .lst (textsL.map V.str))] M H') (fun Q' hQ => ?_) (fun H16 hb => ?_) (fun H16 hb => ?_)
          · refine ⟨fun c1 => ⟨c, M + 8, b15.st, ?_, by omega, fun r r0 r1 H16 s16 st16 => ⟨rfl, hQ _ _ ((b15.draw s16 st16).less (by omega))⟩⟩, fun c1 => hQ _ _ (b15.less (by omega))⟩
            have := of_decide_eq_true c1
            omega
          · exact hN _ _ ⟨.non, rfl, .inl rfl, hb⟩
          · exact hN _ _ ⟨cell, rfl, .inr hcell, hb⟩
        · rintro _ H16 ⟨z, rfl, hz, b16⟩
          refine ⟨ty_l b16.hd, _, b16.hd, by rw [sizeLine_eq, List.length_map]; omega, ?_⟩
          refine ⟨cs ++ [z], _, _, _, rfl, by simp [hcl], known_snoc hck hz, ?_⟩
          have := b16.put (o' := .lst (cs.map cv ++ [cv z])) fpc.1 (fun x hx => by
            have := fpc.2 x (by simpa using hx)
            exact this)
          simpa using this
      · rintro _ H13 ⟨cs, x, y, z, rfl, hcl, hck, b13⟩
        rw [Int.toNat_natCast] at hcl
        exact h _ pc cs hcl hck fpc.1 ((b13.less (m := n) (by omega)).sub fun x hx => by
          cases List.mem_singleton.mp hx
          simp)
    · exact h.elim
def sp_law_some_cells (K : PySem.W.Frag) : Sp := fun vs H Q E => match vs with
  | [.ref d, .str k, .int m] => ∃ c n t many, k = kindS t ∧ m = (many : Nat) ∧ many ≤ 64 ∧ St d c (n + 1001) H ∧ DrL d c n H t many Q
  | _ => False
theorem sc_law_some_cells : FnScope ["_law_state", "_law_kind_here", "_law_many"] ["_law_state", "_law_kind_here", "_law_many"] (defScope s_law_some_cells) := ⟨rfl, rfl, rfl, by decide +kernel, rfl, by decide +kernel, by decide +kernel⟩
theorem ok_law_some_cells (T : Txt K mg) : Cal P w K mg base 4 "_law_some_cells" (sp_law_some_cells K) := by
  obtain ⟨fd, F⟩ := D_law_some_cells T
  refine cal_mk (g_law_some_cells T) F sc_law_some_cells (fun _ _ _ _ _ _ us hl => match us, hl with | [_, _, _], _ => rfl) (fun vs H Q E h => ?len) (fun cdv A outer s H vs Q E hr h => ⟨_, (pss_cons (us_if (ut_cmp (o_eq hr.units) (u_call (ok_law_take T) hr (by decide) (pa_cons (uv 0) (pa_cons pe_int pa_nil))) pe_int (nomark _)) (pss_one (ps_ret (u_call (ok_law_cells T) hr (by decide) (pa_cons (uv 0) (pa_cons (uv 1) (pa_cons (uv 2) pa_nil)))))) pss_nil)
      (pss_one (ps_ret (u_call (ok_law_near_cells T) hr (by decide) (pa_cons (uv 0) (pa_cons (uv 1) (pa_cons (uv 2) pa_nil))))))), ?body⟩)
  case len => unfold sp_law_some_cells at h; (split at h) <;> first | rfl | exact h.elim
  case body =>
    unfold sp_law_some_cells at h
    split at h
    · rename_i d k m
      obtain ⟨c, n, t, many, rfl, rfl, hm, hst, h⟩ := h
      refine ⟨c, n + 1000, hst, by decide, by decide, fun a a0 a1 H1 s1 st1 => ?_⟩
      have b1 := (Bun.start hst).draw s1 st1
      have go : ∀ H' p (cs : List Cell), cs.length = many → (∀ x ∈ cs, Kin t x) → vw d c H1 p = none → Bun d c H1 [(p, .lst (cs.map cv))] n H' → Q (.ref p) H' := fun H' p cs h1 h2 h3 h4 => by
        refine h H' p cs h1 h2 ?_ ⟨s1.trans h4.same, h4.own, h4.st⟩
        cases z : vw d c H p with
        | none => rfl
        | some o => rw [s1 _ _ z] at h3; cases h3
      exact ⟨rfl, ⟨fun _ => ⟨c, n, t, many, rfl, rfl, hm, st1, go⟩, fun _ => ⟨c, n, t, many, rfl, rfl, hm, st1, go⟩⟩⟩
    · exact h.elim
end
end K90
namespace K90
open PySem PySem.Spec PyProof.Rows L2 RT RZ
theorem cut20 (l : List Nat) : cutS ⟨l.toArray⟩ none (some 20) = ⟨(l.take 20).toArray⟩ := by
  have e : HT.sIx l.length l.length (some ((20 : Nat) : Int)) = min 20 l.length := HT.sIx_nat _ _ _
  have e0 : HT.sIx l.length 0 none = 0 := HT.sIx_none _ _
  show (⟨(((l.toArray).toList.drop (HT.sIx l.toArray.size 0 none)).take (HT.sIx l.toArray.size l.toArray.size (some 20) - HT.sIx l.toArray.size 0 none)).toArray⟩ : Str) = _
  rw [List.size_toArray, e0, show HT.sIx l.length l.length (some 20) = min 20 l.length from e, Nat.sub_zero, List.drop_zero]
  have e3 : l.toArray.toList = l := by simp
  rw [e3]
  congr 2
  rw [List.take_eq_take_iff]
  omega
theorem cat_S (a b : List Nat) : (⟨a.toArray⟩ : Str) ++ ⟨b.toArray⟩ = ⟨(a ++ b).toArray⟩ := SX.S_cat a b
theorem all_take {l : List Nat} {n : Nat} (h : l.all isSign = true) : (l.take n).all isSign = true := by
  rw [List.all_eq_true] at *
  exact fun x hx => h x (List.mem_of_mem_take hx)
abbrev tailsL : List Str := ["", "", " ", "a"]
theorem tails_ok : ∀ z ∈ tailsL, okS z = true := by decide +kernel
section
variable {P : Program} {w : World} {K : PySem.W.Frag} {mg : Str → Option Value} {base : Heap}
def sp_law_value (K : PySem.W.Frag) : Sp := fun vs H Q E => match vs with
  | [.ref d, .str k, .ref l] => ∃ c n t, ∃ cs : List Cell, k = kindS t ∧ cs.length ≤ 64 ∧ (∀ x ∈ cs, Kin t x) ∧ vw d c H l = some (.lst (cs.map cv)) ∧ St d c (n + 40) H ∧ ∀ x, Known t x → Dr d c n H (Q (cv x))
  | _ => False
theorem sc_law_value : FnScope ["_law_state", "_law_kind_here", "_law_cells_here", "_law_known", "_law_way", "_law_number_here", "_law_cell"] ["_law_state", "_law_kind_here", "_law_cells_here"] (defScope s_law_value) := ⟨rfl, rfl, rfl, by decide +kernel, rfl, by decide +kernel, by decide +kernel⟩
theorem ok_law_value (T : Txt K mg) : Cal P w K mg base 3 "_law_value" (sp_law_value K) := by
  obtain ⟨fd, F⟩ := D_law_value T
  refine cal_mk (g_law_value T) F sc_law_value (fun _ _ _ _ _ _ us hl => match us, hl with | [_, _, _], _ => rfl) (fun vs H Q E h => ?len) (fun cdv A outer s H vs Q E hr h => ⟨_, (pss_cons (us_lc (i := 3) (own := [("_law_cell", 6)]) rfl sc_law_value.nd rfl rfl (sw_true rfl rfl rfl (by decide +kernel)) (j_list (uv 2)) rfl (fun _ _ _ _ _ => (pg_name (i := 6) sc_law_value.nd rfl (by first | exact Or.inl rfl | exact Or.inr rfl))) (fun _ _ _ _ _ => (pts_one (ut_cmp o_isnot (uv 6) pe_non (nomark _)))) (fun _ _ _ _ _ => (uv 6)))
      (pss_cons (ps_set (i := 4) sc_law_value.nd rfl (by first | exact Or.inl rfl | exact Or.inr rfl) (u_call (ok_law_take T) hr (by decide) (pa_cons (uv 0) (pa_cons pe_int pa_nil))))
      (pss_cons (us_if (ut_cmp (o_eq hr.units) (uv 1) pe_str (nomark _)) (pss_cons (us_if (PW.pt (uw_and (ut_cmp o_lt (uv 4) pe_int (nomark _)) (pw_and1 (ut_cmp o_gt (pe_callB (q_len (K := K)) rfl (b_len T) (by decide +kernel) (pa_cons (uv 3) pa_nil)) pe_int (nomark _))))) (pss_one (ps_ret (pe_slice (q_sl (K := K)) (pe_op o_add (pe_ix (q_seq (K := K)) (uv 3) (u_call (ok_law_take T) hr (by decide) (pa_cons (uv 0) (pa_cons (pe_callB (q_len (K := K)) rfl (b_len T) (by decide +kernel) (pa_cons (uv 3) pa_nil)) pa_nil))) (fun _ _ => rfl)) (pe_ix (q_seq (K := K)) (pe_lst (pa_cons pe_str (pa_cons pe_str (pa_cons pe_str (pa_cons pe_str pa_nil))))) (uv 4) (fun _ _ => rfl))) po_none (u_some pe_int)))) pss_nil)
      (pss_one (ps_ret (u_call (ok_law_text T) hr (by decide) (pa_cons (uv 0) pa_nil))))) pss_nil)
      (pss_cons (us_if (PW.pt (uw_and (ut_cmp o_lt (uv 4) pe_int (nomark _)) (pw_and1 (ut_cmp o_gt (pe_callB (q_len (K := K)) rfl (b_len T) (by decide +kernel) (pa_cons (uv 3) pa_nil)) pe_int (nomark _))))) (pss_cons (ps_set (i := 5) sc_law_value.nd rfl (by first | exact Or.inl rfl | exact Or.inr rfl) (pe_op o_add (pe_ix (q_seq (K := K)) (uv 3) (u_call (ok_law_take T) hr (by decide) (pa_cons (uv 0) (pa_cons (pe_callB (q_len (K := K)) rfl (b_len T) (by decide +kernel) (pa_cons (uv 3) pa_nil)) pa_nil))) (fun _ _ => rfl)) (pe_ix (q_seq (K := K)) (pe_lst (pa_cons pe_int (pa_cons pe_int (pa_cons pe_int (pa_cons (pe_un o_neg pe_int) pa_nil))))) (uv 4) (fun _ _ => rfl))))
      (pss_one (ps_ret (pe_callB c_min2 rfl (b_min T) (by decide +kernel) (pa_cons (pe_op o_sub (pe_op o_pow pe_int pe_int) pe_int) (pa_cons (pe_callB c_max2 rfl (b_max T) (by decide +kernel) (pa_cons (pe_op o_sub pe_int (pe_op o_pow pe_int pe_int)) (pa_cons (uv 5) pa_nil))) pa_nil)))))) pss_nil)
      (pss_one (ps_ret (u_call (ok_law_number T) hr (by decide) (pa_cons (uv 0) pa_nil)))))))), ?body⟩)
  case len => unfold sp_law_value at h; (split at h) <;> first | rfl | exact h.elim
  case body =>
    unfold sp_law_value at h
    split at h
    · rename_i d k l
      obtain ⟨c, n, t, cs, rfl, hcl, hck, hlv, hst, h⟩ := h
      have hl := vw_le _ _ hlv
      have p18 : (10 : Int) ^ Int.toNat 18 = 1000000000000000000 := by decide +kernel
      have cp : CPow 10 18 := ⟨by decide, by decide, by decide⟩
      refine ⟨⟨_, SqL.of hl⟩, fun D hD => ?_⟩
      refine LcGoes.by (.list (xs := cs.map cv)) hD (fun i acc H' => ∃ ks : List Cell, acc = ks.map cv ∧ ks.length ≤ i ∧ ∀ x ∈ ks, Known t x) ⟨[], rfl, Nat.le_refl _, by simp⟩ (fun i acc H' _ s' _ _ => SqL.of (s' _ _ hl)) ?_ ?_
      · rintro i _ v H3 _ hi ha s3 d3 ⟨ks, rfl, hkl, hk⟩ ⟨hv, rfl⟩
        rw [List.length_map] at hi
        obtain ⟨x, hx⟩ := get_lt hi
        rw [List.getElem?_map, hx] at hv
        cases hv
        have kx := hck x (List.mem_of_getElem? hx)
        refine ⟨rfl, ⟨fun e => ?_, fun e => ?_⟩⟩
        · have hc : x ≠ .non := fun z => by
            rw [z] at e
            exact absurd e (by decide)
          have kn : Known t x := kx.resolve_left hc
          exact LcP.put hD (by rw [sizeLine_eq]; omega) ha s3 d3 ⟨ks ++ [x], by simp, by simp; omega, known_snoc hk kn⟩
        · exact LcP.skip ha s3 d3 ⟨ks, rfl, by omega, hk⟩
      · rintro _ H3 ha s3 d3 ⟨ks, rfl, hkl, hk⟩
        have b3 : Bun d c H [(D, .lst (ks.map cv))] (n + 40) H3 := (((Bun.start hst).keep s3).add (by rw [vw_at (hst.ned hD) (hst.nec hD)]; exact d3))
        rw [List.length_map] at hkl
        refine ⟨c, n + 39, b3.st, by decide, by decide, fun way w0 w1 H4 s4 st4 => ?_⟩
        have b4 := b3.draw s4 st4
        refine ⟨rfl, ⟨fun c1 => ?_, fun c1 => ?_⟩⟩
        · rw [kindS_eq] at c1
          subst c1
          refine if_par (fun k H' => H' = H4 ∧ (k = true → way < 4 ∧ 0 < ks.length)) (fun Q' hQ => ?_) (fun H5 hb => ?_) (fun H5 hb => ?_)
          · refine ⟨fun c1 => ⟨_, .inl (SqL.of b4.hd), hQ _ _ ⟨rfl, fun z => ?_⟩⟩, fun c1 => hQ _ _ ⟨rfl, fun z => nomatch z⟩⟩
            have a := of_decide_eq_true c1
            have b := of_decide_eq_true z
            rw [List.length_map] at b
            exact ⟨a, by omega⟩
          · obtain ⟨rfl, hw⟩ := hb
            have hw := hw rfl
            refine ⟨_, .inl (SqL.of b4.hd), c, n + 38, b4.st, by rw [List.length_map]; omega, by rw [List.length_map]; omega, fun r r0 r1 H6 s6 st6 => ?_⟩
            have b6 := b4.draw s6 st6
            rw [List.length_map] at r1
            obtain ⟨x, hx, hxi⟩ := pickC ks r0 r1
            obtain ⟨lx, rfl, hx1, hx2⟩ := (hk x hx).isStr
            obtain ⟨z, hz, hzi⟩ := pickS tailsL w0 (by show way < 4; exact hw.1)
            obtain ⟨lz, rfl, hz1, hz2⟩ := okS_use (tails_ok z hz)
            refine ⟨_, _, .inl (SqL.of b6.hd), hxi, len4, fun p hp => ⟨_, _, .inl (SqL.of upd_same), hzi, ?_, ?_, ?_⟩⟩
            · show lx.toArray.size + lz.toArray.size ≤ _
              rw [sizeLine_eq, List.size_toArray, List.size_toArray]
              omega
            · rw [cat_S]
              show (lx ++ lz).toArray.size ≤ _
              rw [sizeLine_eq, List.size_toArray, List.length_append]
              omega
            · rw [cat_S, cut20]
              have b7 := b6.new hp (o := .lst (tailsL.map V.str))
              refine h (.str ((lx ++ lz).take 20)) (Known.str ?_ ?_) _ b7.same (b7.st.mono (by omega))
              · rw [List.length_take]
                omega
              · refine all_take ?_
                rw [List.all_append, hx2, hz2]
                rfl
          · obtain ⟨rfl, _⟩ := hb
            refine ⟨c, n, b4.st.mono (by omega), fun l h1 h2 H5 s5 st5 => ?_⟩
            have b5 := b4.draw s5 st5
            exact h (.str l) (Known.str h1 h2) _ b5.same b5.st
        · rw [kindS_eq] at c1
          subst c1
          dsimp only [tNext]
          refine if_par (fun k H' => H' = H4 ∧ (k = true → way < 4 ∧ 0 < ks.length)) (fun Q' hQ => ?_) (fun H5 hb => ?_) (fun H5 hb => ?_)
          · refine ⟨fun c1 => ⟨_, .inl (SqL.of b4.hd), hQ _ _ ⟨rfl, fun z => ?_⟩⟩, fun c1 => hQ _ _ ⟨rfl, fun z => nomatch z⟩⟩
            have a := of_decide_eq_true c1
            have b := of_decide_eq_true z
            rw [List.length_map] at b
            exact ⟨a, by omega⟩
          · obtain ⟨rfl, hw⟩ := hb
            have hw := hw rfl
            refine ⟨_, .inl (SqL.of b4.hd), c, n + 38, b4.st, by rw [List.length_map]; omega, by rw [List.length_map]; omega, fun r r0 r1 H6 s6 st6 => ?_⟩
            have b6 := b4.draw s6 st6
            rw [List.length_map] at r1
            obtain ⟨x, hx, hxi⟩ := pickC ks r0 r1
            obtain ⟨j, rfl, hj1, hj2⟩ := (hk x hx).isInt
            obtain ⟨e, he, hei⟩ := pickI [0, 0, 1, -1] w0 (by show way < 4; exact hw.1)
            refine ⟨_, _, .inl (SqL.of b6.hd), hxi, len4, fun p hp => ⟨_, _, .inl (SqL.of upd_same), hei, cp, cp, ?_⟩⟩
            have b7 := b6.new hp (o := .lst [V.int 0, V.int 0, V.int 1, V.int (-1)])
            refine h (.int _) (Known.int ?_) _ b7.same (b7.st.mono (by omega))
            rw [p18]
            have he : -1 ≤ e ∧ e ≤ 1 := by
              simp only [List.mem_cons, List.mem_nil_iff, or_false] at he
              omega
            constructor <;> split <;> split <;> omega
          · obtain ⟨rfl, _⟩ := hb
            refine ⟨c, n, b4.st.mono (by omega), fun r h1 h2 H5 s5 st5 => ?_⟩
            have b5 := b4.draw s5 st5
            exact h (.int r) (Known.int ⟨h1, h2⟩) _ b5.same b5.st
    · exact h.elim
end
end K90
namespace K90
open PySem PySem.Spec PyProof.Rows L2 RT RZ
abbrev testL : List Str := ["=", "<>", "<", "<=", ">", ">=", "open", "among"]
theorem test_word {z : Str} (h : z ∈ testL) (h1 : z ≠ "open") (h2 : z ≠ "among") : z ∈ signs6 := by
  unfold signs6
  simp only [testL, List.mem_cons, List.mem_nil_iff, or_false] at h ⊢
  rcases h with h | h | h | h | h | h | h | h <;> simp_all
theorem known_mate {t : Bool} {x v : Cell} (h : Kin t x) (hv : Known t v) : x = .non ∨ mate x v := by
  rcases h with rfl | h
  · exact .inl rfl
  · right
    cases t with
    | false =>
      obtain ⟨i, rfl, _⟩ := h.isInt
      obtain ⟨j, rfl, _⟩ := hv.isInt
      trivial
    | true =>
      obtain ⟨i, rfl, _⟩ := h.isStr
      obtain ⟨j, rfl, _⟩ := hv.isStr
      trivial
section
variable {P : Program} {w : World} {K : PySem.W.Frag} {mg : Str → Option Value} {base : Heap}
def sp_law_test (K : PySem.W.Frag) : Sp := fun vs H Q E => match vs with
  | [.ref d, .str k, .ref l] => ∃ c n t, ∃ cs : List Cell, k = kindS t ∧ cs.length ≤ 64 ∧ (∀ x ∈ cs, Kin t x) ∧ vw d c H l = some (.lst (cs.map cv)) ∧ St d c (n + 400) H ∧
      ∀ H' p τ, Same (vw d c H) (vw d c H') → St d c n H' → vw d c H p = none → TestAt (vw d c H') p τ → (∀ x, Kin t x → τ.fits x) → Q (.ref p) H'
  | _ => False
theorem sc_law_test : FnScope ["_law_state", "_law_kind_here", "_law_cells_here", "_law_word", "_law_many", "_law_k"] ["_law_state", "_law_kind_here", "_law_cells_here"] (defScope s_law_test) := ⟨rfl, rfl, rfl, by decide +kernel, rfl, by decide +kernel, by decide +kernel⟩
theorem ok_law_test (T : Txt K mg) : Cal P w K mg base 4 "_law_test" (sp_law_test K) := by
  obtain ⟨fd, F⟩ := D_law_test T
  refine cal_mk (g_law_test T) F sc_law_test (fun _ _ _ _ _ _ us hl => match us, hl with | [_, _, _], _ => rfl) (fun vs H Q E h => ?len) (fun cdv A outer s H vs Q E hr h => ⟨_, (pss_cons (ps_set (i := 3) sc_law_test.nd rfl (by first | exact Or.inl rfl | exact Or.inr rfl) (pe_ix (q_seq (K := K)) (pe_lst (pa_cons pe_str (pa_cons pe_str (pa_cons pe_str (pa_cons pe_str (pa_cons pe_str (pa_cons pe_str (pa_cons pe_str (pa_cons pe_str pa_nil))))))))) (u_call (ok_law_take T) hr (by decide) (pa_cons (uv 0) (pa_cons pe_int pa_nil))) (fun _ _ => rfl)))
      (pss_cons (us_if (ut_cmp (o_eq hr.units) (uv 3) pe_str (nomark _)) (pss_one (ps_ret (pe_tup (pa_cons pe_str pa_nil)))) pss_nil)
      (pss_cons (us_if (ut_cmp (o_eq hr.units) (uv 3) pe_str (nomark _)) (pss_cons (ps_set (i := 4) sc_law_test.nd rfl (by first | exact Or.inl rfl | exact Or.inr rfl) (pe_ix (q_seq (K := K)) (pe_lst (pa_cons pe_int (pa_cons pe_int (pa_cons pe_int (pa_cons pe_int (pa_cons pe_int pa_nil)))))) (u_call (ok_law_take T) hr (by decide) (pa_cons (uv 0) (pa_cons pe_int pa_nil))) (fun _ _ => rfl)))
      (pss_one (ps_ret (pe_tup (pa_cons pe_str (pa_cons (ue_lc (own := [("_law_k", 5)]) rfl sc_law_test.nd (j_rng (b_range T) (pa_cons (uv 4) pa_nil)) rfl (fun _ _ _ _ _ => (pg_name (i := 5) sc_law_test.nd rfl (by first | exact Or.inl rfl | exact Or.inr rfl))) (fun _ _ _ _ _ => pts_nil) (fun _ _ _ _ _ => (u_call (ok_law_value T) hr (by decide) (pa_cons (uv 0) (pa_cons (uv 1) (pa_cons (uv 2) pa_nil)))))) pa_nil)))))) pss_nil)
      (pss_one (ps_ret (pe_tup (pa_cons (uv 3) (pa_cons (u_call (ok_law_value T) hr (by decide) (pa_cons (uv 0) (pa_cons (uv 1) (pa_cons (uv 2) pa_nil)))) pa_nil)))))))), ?body⟩)
  case len => unfold sp_law_test at h; (split at h) <;> first | rfl | exact h.elim
  case body =>
    unfold sp_law_test at h
    split at h
    · rename_i d k l
      obtain ⟨c, n, t, cs, rfl, hcl, hck, hlv, hst, h⟩ := h
      refine ⟨by rw [sizeLine_eq]; decide, fun p0 hp0 => ?_⟩
      have b0 : Bun d c H [(l, .lst (cs.map cv))] (n + 400) H := (Bun.start hst).add hlv
      have b1 := b0.new hp0 (o := .lst (testL.map V.str))
      refine ⟨c, n + 399, b1.st, by decide, by decide, fun u u0 u1 H2 s2 st2 => ?_⟩
      have b2 := b1.draw s2 st2
      obtain ⟨z, hz, hzi⟩ := pickS testL u0 u1
      refine ⟨_, _, .inl (SqL.of b2.hd), hzi, ?_⟩
      have b2 := b2.sub (os' := [(l, .lst (cs.map cv))]) (fun x hx => List.mem_cons_of_mem _ hx)
      have le1 : [V.str "open"].length ≤ sizeLine := by rw [sizeLine_eq]; decide
      refine ⟨rfl, ⟨fun c1 => ?_, fun c1 => ?_⟩⟩
      · refine ⟨le1, fun p hp => ?_⟩
        have fp := b2.fresh hp
        have b3 := b2.new hp (o := .tup [V.str "open"])
        exact h _ p .open b3.same (b3.st.mono (by omega)) fp.1 (b3.v1) (fun x _ => trivial)
      · have n1 : z ≠ "open" := fun e => by subst e; exact absurd c1 (by decide +kernel)
        refine ⟨rfl, ⟨fun c2 => ?_, fun c2 => ?_⟩⟩
        · refine ⟨by rw [sizeLine_eq]; decide, fun p1 hp1 => ?_⟩
          have b3 := b2.new hp1 (o := .lst ([V.int 0, V.int 1, V.int 2, V.int 4, V.int 9]))
          refine ⟨c, n + 398, b3.st, by decide, by decide, fun u u0 u1 H4 s4 st4 => ?_⟩
          have b4 := b3.draw s4 st4
          obtain ⟨m, hm, hmi⟩ := pickI [0, 1, 2, 4, 9] u0 u1
          have hm : 0 ≤ m ∧ m ≤ 9 := by
            simp only [List.mem_cons, List.mem_nil_iff, or_false] at hm
            omega
          refine ⟨_, _, .inl (SqL.of b4.hd), hmi, by omega, by omega, fun D hD => ?_⟩
          have b4 := b4.sub (os' := [(l, .lst (cs.map cv))]) (fun x hx => List.mem_cons_of_mem _ hx)
          have fD := b4.fresh hD
          refine LcGoes.byV .range (fun i acc H' => ∃ vs : List Cell, acc = vs.map cv ∧ vs.length = i ∧ Bun d c H [(D, .lst acc), (l, .lst (cs.map cv))] (n + 398 - 40 * i) H') ⟨[], rfl, rfl, (b4.new hD)⟩ (fun _ _ _ _ _ _ => trivial) ?_ ?_
          · rintro i _ _ H5 _ hi ha d5 ⟨vs, rfl, el, b5⟩ ⟨rfl, rfl⟩
            have hi : i < 9 := by
              have : i < m.toNat := hi
              omega
            refine ⟨rfl, ⟨fun _ => ⟨c, n + 398 - 40 * (i + 1), t, cs, rfl, hcl, hck, b5.v2, b5.st.mono (by omega), fun x hx H6 s6 st6 => ?_⟩, (nomatch ·)⟩⟩
            have b6 := b5.draw s6 st6
            exact LcV.put (by rw [sizeLine_eq]; omega) ha b6.hd ⟨vs ++ [x], by simp, by simp [el], by simpa using b6.put fD.1 (fun y hy => fD.2 y hy)⟩
          · rintro _ H6 ha d6 ⟨vs, rfl, el, b6⟩
            refine ⟨len2, fun p hp => ?_⟩
            have fp := b6.fresh hp
            have b7 := b6.new hp (o := .tup [V.str "among", V.ref D])
            exact h _ p (.among vs) b7.same (b7.st.mono (by omega)) fp.1 ⟨D, b7.v1, b7.v2⟩ (fun x _ => trivial)
        · have n2 : z ≠ "among" := fun e => by subst e; exact absurd c2 (by decide +kernel)
          refine ⟨c, n, t, cs, rfl, hcl, hck, b2.v1, b2.st.mono (by omega), fun x hx H3 s3 st3 => ?_⟩
          have b3 := b2.draw s3 st3
          refine ⟨len2, fun p hp => ?_⟩
          have fp := b3.fresh hp
          have b4 := b3.new hp (o := .tup [V.str z, cv x])
          exact h _ p (.op z x) b4.same b4.st fp.1 (b4.v1) (fun y hy => ⟨test_word hz n1 n2, known_mate hy hx⟩)
    · exact h.elim
def sp_law_kinds (K : PySem.W.Frag) : Sp := fun vs H Q E => match vs with
  | [.ref d] => ∃ c n, St d c (n + 20) H ∧ ∀ H' p (kinds : List Bool), 1 ≤ kinds.length → kinds.length ≤ 8 → vw d c H p = none → Bun d c H [(p, .lst (kindsV kinds))] n H' → Q (.ref p) H'
  | _ => False
theorem sc_law_kinds : FnScope ["_law_state", "_law_many", "_law_turn"] ["_law_state"] (defScope s_law_kinds) := ⟨rfl, rfl, rfl, by decide +kernel, rfl, by decide +kernel, by decide +kernel⟩
theorem ok_law_kinds (T : Txt K mg) : Cal P w K mg base 2 "_law_kinds" (sp_law_kinds K) := by
  obtain ⟨fd, F⟩ := D_law_kinds T
  refine cal_mk (g_law_kinds T) F sc_law_kinds (fun _ _ _ _ _ _ us hl => match us, hl with | [_], _ => rfl) (fun vs H Q E h => ?len) (fun cdv A outer s H vs Q E hr h => ⟨_, (pss_cons (ps_set (i := 1) sc_law_kinds.nd rfl (by first | exact Or.inl rfl | exact Or.inr rfl) (ue_if (ut_cmp (o_eq hr.units) (u_call (ok_law_take T) hr (by decide) (pa_cons (uv 0) (pa_cons pe_int pa_nil))) pe_int (nomark _)) (pe_op o_add pe_int (u_call (ok_law_take T) hr (by decide) (pa_cons (uv 0) (pa_cons pe_int pa_nil)))) (pe_op o_add pe_int (u_call (ok_law_take T) hr (by decide) (pa_cons (uv 0) (pa_cons pe_int pa_nil))))))
      (pss_one (ps_ret (ue_lc (own := [("_law_turn", 2)]) rfl sc_law_kinds.nd (j_rng (b_range T) (pa_cons (uv 1) pa_nil)) rfl (fun _ _ _ _ _ => (pg_name (i := 2) sc_law_kinds.nd rfl (by first | exact Or.inl rfl | exact Or.inr rfl))) (fun _ _ _ _ _ => pts_nil) (fun _ _ _ _ _ => (pe_ix (q_seq (K := K)) (pe_lst (pa_cons pe_str (pa_cons pe_str pa_nil))) (pe_op o_div (u_call (ok_law_take T) hr (by decide) (pa_cons (uv 0) (pa_cons pe_int pa_nil))) pe_int) (fun _ _ => rfl))))))), ?body⟩)
  case len => unfold sp_law_kinds at h; (split at h) <;> first | rfl | exact h.elim
  case body =>
    unfold sp_law_kinds at h
    split at h
    · rename_i d
      obtain ⟨c, n, hst, h⟩ := h
      refine seq_par (fun σ H' => ∃ m : Int, σ = [some (.ref d), some (.int m), none] ∧ 1 ≤ m ∧ m ≤ 8 ∧ Bun d c H [] (n + 18) H') (fun N hN => ?_) ?_
      · refine ⟨c, n + 19, hst, by decide, by decide, fun a a0 a1 H1 s1 st1 => ?_⟩
        have b1 := (Bun.start hst).draw s1 st1
        refine ⟨rfl, ⟨fun _ => ?_, fun _ => ?_⟩⟩
        · exact ⟨c, n + 18, b1.st, by decide, by decide, fun a a0 a1 H2 s2 st2 => hN _ _ ⟨_, rfl, by omega, by omega, b1.draw s2 st2⟩⟩
        · exact ⟨c, n + 18, b1.st, by decide, by decide, fun a a0 a1 H2 s2 st2 => hN _ _ ⟨_, rfl, by omega, by omega, b1.draw s2 st2⟩⟩
      · rintro _ H2 ⟨m, rfl, hm1, hm2, b2⟩
        refine ⟨by omega, by omega, fun D hD => ?_⟩
        have fD := b2.fresh hD
        refine LcGoes.byV .range (fun i acc H' => ∃ ks : List Bool, acc = kindsV ks ∧ ks.length = i ∧ Bun d c H [(D, .lst acc)] (n + 18 - i) H') ⟨[], rfl, rfl, (b2.new hD)⟩ (fun _ _ _ _ _ _ => trivial) ?_ ?_
        · rintro i _ _ H5 _ hi ha d5 ⟨vs, rfl, el, b5⟩ ⟨rfl, rfl⟩
          have hi : i < 8 := by
            have : i < m.toNat := hi
            omega
          refine ⟨rfl, ⟨fun _ => ⟨len2, fun p hp => ?_⟩, (nomatch ·)⟩⟩
          have b6 := b5.new hp (o := .lst [V.str "number", V.str "text"])
          refine ⟨c, n + 18 - (i + 1), b6.st.mono (by omega), by decide, by decide, fun a a0 a1 H7 s7 st7 => ?_⟩
          have b7 := b6.draw s7 st7
          have e : ∃ t : Bool, atI [V.str "number", V.str "text"] (a / 2) = some (.str (kindS t)) := by
            have : a / 2 = 0 ∨ a / 2 = 1 := by omega
            rcases this with e | e <;> rw [e]
            · exact ⟨false, rfl⟩
            · exact ⟨true, rfl⟩
          obtain ⟨t, ht⟩ := e
          refine ⟨⟨by decide, by decide +kernel⟩, _, _, .inl (SqL.of b7.hd), ht, ?_⟩
          have b8 := b7.sub (os' := [(D, .lst (kindsV vs))]) (fun x hx => List.mem_cons_of_mem _ hx)
          refine LcV.put (by rw [sizeLine_eq]; omega) ha b8.hd ⟨vs ++ [t], kindsV_snoc vs t, by simp [el], by simpa using b8.put fD.1 (fun y hy => fD.2 y hy)⟩
        · rintro _ H6 ha d6 ⟨vs, rfl, el, b6⟩
          exact h _ D vs (by omega) (by omega) fD.1 (b6.less (by omega))
    · exact h.elim
end
end K90
namespace K90
open PySem PySem.Spec PyProof.Rows L2 RT RZ
theorem Bun.top {d c p : Addr} {H0 H : Hp} {o : HO} {os : List (Addr × HO)} {n m : Nat} (b : Bun d c H0 ((p, o) :: os) n H) (l : m ≤ n) : Bun d c H0 [(p, o)] m H := (b.less l).sub fun x hx => by
  cases List.mem_singleton.mp hx
  simp
theorem seqIx {i : Int} {n : Nat} (h0 : 0 ≤ i) (h1 : i < n) : seqIndex? i n = some i.toNat := by
  have e : ¬ i < 0 := by omega
  unfold seqIndex?
  simp [e, h0, h1]
theorem ixAt {i : Int} {n : Nat} (h0 : 0 ≤ i) (h1 : i < n) : ixN n i = some i.toNat := by
  obtain ⟨k, rfl⟩ := Int.eq_ofNat_of_zero_le h0
  unfold ixN
  rw [if_pos (by omega)]
  simp
  omega
theorem xor_nn {x y : Int} (h0 : 0 ≤ x) (h1 : 0 ≤ y) : 0 ≤ Builtin.bitXor x y := by
  rw [bitXor_and, bitAnd_pp h0 h1]
  have a := Nat.and_le_left (n := x.toNat) (m := y.toNat)
  have b := Nat.and_le_right (n := x.toNat) (m := y.toNat)
  omega
theorem NN.set {l : List Int} {i : Nat} {x : Int} (h : NN l) (hx : 0 ≤ x) : NN (l.set i x) := fun b hb => by
  rcases List.mem_or_eq_of_mem_set hb with h1 | h1
  · exact h b h1
  · omega
theorem pickB (L : List Int) {i : Int} (h0 : 0 ≤ i) (h : i < L.length) : ∃ x ∈ L, atI (L.map V.int) i = some (.int x) ∧ (L.map V.int)[i.toNat]? = some (.int x) := by
  obtain ⟨n, rfl⟩ := Int.eq_ofNat_of_zero_le h0
  have hn : n < L.length := by omega
  exact ⟨L[n], List.getElem_mem hn, atI_int (List.getElem?_eq_getElem hn), by
    show (L.map V.int)[n]? = _
    rw [List.getElem?_map, List.getElem?_eq_getElem hn]
    rfl⟩
theorem eraseIdx_int : ∀ (l : List Int) (i : Nat), (l.map V.int).eraseIdx i = (l.eraseIdx i).map V.int
  | [], _ => rfl
  | _ :: _, 0 => rfl
  | a :: r, i + 1 => by
    show V.int a :: (r.map V.int).eraseIdx i = _
    rw [eraseIdx_int r i]
    rfl
theorem NN.app {l m : List Int} (h : NN l) (g : NN m) : NN (l ++ m) := fun b hb => (List.mem_append.mp hb).elim (h b) (g b)
theorem NN.one {x : Int} (h : 0 ≤ x) : NN [x] := fun b hb => by
  cases List.mem_singleton.mp hb
  exact h
theorem map_set_int {l : List Int} {i : Nat} {x : Int} : (l.map V.int).set i (.int x) = (l.set i x).map V.int := by rw [List.map_set]
section
variable {P : Program} {w : World} {K : PySem.W.Frag} {mg : Str → Option Value} {base : Heap}
def sp_law_bent (K : PySem.W.Frag) : Sp := fun vs H Q E => match vs with
  | [.ref d, .ref r] => ∃ c n, ∃ bs : List Int, vw d c H r = some (.lst (bs.map V.int)) ∧ 1 ≤ bs.length ∧ bs.length ≤ 20000 ∧ NN bs ∧ St d c (n + 10) H ∧
      ∀ H' p (bs' : List Int), NN bs' → bs'.length ≤ bs.length + 1 → vw d c H p = none → Bun d c H [(p, .lst (bs'.map V.int))] n H' → Q (.ref p) H'
  | _ => False
theorem sc_law_bent : FnScope ["_law_state", "_law_row", "_law_made", "_law_at", "_law_way", "_law_other"] ["_law_state", "_law_row"] (defScope s_law_bent) := ⟨rfl, rfl, rfl, by decide +kernel, rfl, by decide +kernel, by decide +kernel⟩
theorem ok_law_bent (T : Txt K mg) : Cal P w K mg base 2 "_law_bent" (sp_law_bent K) := by
  obtain ⟨fd, F⟩ := D_law_bent T
  refine cal_mk (g_law_bent T) F sc_law_bent (fun _ _ _ _ _ _ us hl => match us, hl with | [_, _], _ => rfl) (fun vs H Q E h => ?len) (fun cdv A outer s H vs Q E hr h => ⟨_, (pss_cons (ps_set (i := 2) sc_law_bent.nd rfl (by first | exact Or.inl rfl | exact Or.inr rfl) (pe_callTy (q_list (K := K)) rfl (b_list T) (by decide +kernel) (pa_cons (uv 1) pa_nil)))
      (pss_cons (ps_set (i := 3) sc_law_bent.nd rfl (by first | exact Or.inl rfl | exact Or.inr rfl) (u_call (ok_law_take T) hr (by decide) (pa_cons (uv 0) (pa_cons (pe_callB (q_len (K := K)) rfl (b_len T) (by decide +kernel) (pa_cons (uv 2) pa_nil)) pa_nil))))
      (pss_cons (ps_set (i := 4) sc_law_bent.nd rfl (by first | exact Or.inl rfl | exact Or.inr rfl) (u_call (ok_law_take T) hr (by decide) (pa_cons (uv 0) (pa_cons pe_int pa_nil))))
      (pss_cons (us_if (ut_cmp (o_eq hr.units) (uv 4) pe_int (nomark _)) (pss_one (ps_asg (u_call (ok_law_take T) hr (by decide) (pa_cons (uv 0) (pa_cons pe_int pa_nil))) (pg_sub (uv 2) (uv 3) h_set))) (pss_one (us_if (ut_cmp (o_eq hr.units) (uv 4) pe_int (nomark _)) (pss_one (ps_expr (pe_bm PySem.F.plainAttrs_list PySem.F.slot_list_pop PySem.F.type_list_pop m_pop (uv 2) (pa_cons (uv 3) pa_nil)))) (pss_one (us_if (ut_cmp (o_eq hr.units) (uv 4) pe_int (nomark _)) (pss_one (ps_expr (pe_bm PySem.F.plainAttrs_list PySem.F.slot_list_insert PySem.F.type_list_insert m_insert (uv 2) (pa_cons (uv 3) (pa_cons (pe_ix (q_seq (K := K)) (pe_lst (pa_cons (u_call (ok_law_take T) hr (by decide) (pa_cons (uv 0) (pa_cons pe_int pa_nil))) (pa_cons (pe_ix (q_seq (K := K)) (uv 2) (uv 3) (fun _ _ => rfl)) pa_nil))) (u_call (ok_law_take T) hr (by decide) (pa_cons (uv 0) (pa_cons pe_int pa_nil))) (fun _ _ => rfl)) pa_nil))))) (pss_one (us_if (ut_cmp (o_eq hr.units) (uv 4) pe_int (nomark _)) (pss_cons (ps_set (i := 5) sc_law_bent.nd rfl (by first | exact Or.inl rfl | exact Or.inr rfl) (u_call (ok_law_take T) hr (by decide) (pa_cons (uv 0) (pa_cons (pe_callB (q_len (K := K)) rfl (b_len T) (by decide +kernel) (pa_cons (uv 2) pa_nil)) pa_nil))))
      (pss_one (ps_asg (pe_tup (pa_cons (pe_ix (q_seq (K := K)) (uv 2) (uv 5) (fun _ _ => rfl)) (pa_cons (pe_ix (q_seq (K := K)) (uv 2) (uv 3) (fun _ _ => rfl)) pa_nil))) (q_tup (K := K) (n := 2) rfl (hg_cons (pg_sub (uv 2) (uv 3) h_set) (hg_cons (pg_sub (uv 2) (uv 5) h_set) hg_nil)))))) (pss_one (us_if (ut_cmp (o_eq hr.units) (uv 4) pe_int (nomark _)) (pss_one (ps_set (i := 2) sc_law_bent.nd rfl (by first | exact Or.inl rfl | exact Or.inr rfl) (pe_slice (q_sl (K := K)) (uv 2) po_none (u_some (uv 3))))) (pss_one (us_if (ut_cmp (o_eq hr.units) (uv 4) pe_int (nomark _)) (pss_one (ps_expr (pe_bm PySem.F.plainAttrs_list PySem.F.slot_list_append PySem.F.type_list_append m_append (uv 2) (pa_cons (pe_ix (q_seq (K := K)) (pe_lst (pa_cons pe_int (pa_cons (u_call (ok_law_take T) hr (by decide) (pa_cons (uv 0) (pa_cons pe_int pa_nil))) pa_nil))) (u_call (ok_law_take T) hr (by decide) (pa_cons (uv 0) (pa_cons pe_int pa_nil))) (fun _ _ => rfl)) pa_nil)))) (pss_one (us_if (ut_cmp (o_eq hr.units) (uv 4) pe_int (nomark _)) (pss_one (ps_asg (u_call (ok_law_take T) hr (by decide) (pa_cons (uv 0) (pa_cons pe_int pa_nil))) (pg_sub (uv 2) pe_int h_set))) (pss_one (ps_asg (pe_op o_xor (pe_ix (q_seq (K := K)) (uv 2) (uv 3) (fun _ _ => rfl)) (pe_op o_shl pe_int (u_call (ok_law_take T) hr (by decide) (pa_cons (uv 0) (pa_cons pe_int pa_nil))))) (pg_sub (uv 2) (uv 3) h_set))))))))))))))))
      (pss_one (ps_ret (uv 2))))))), ?body⟩)
  case len => unfold sp_law_bent at h; (split at h) <;> first | rfl | exact h.elim
  case body =>
    unfold sp_law_bent at h
    split at h
    · rename_i d r
      obtain ⟨c, n, bs, hr, hl1, hl2, hnn, hst, h⟩ := h
      have b0 : Bun d c H [] (n + 10) H := Bun.start hst
      refine ⟨_, .inl (SqL.of (vw_le _ _ hr)), fun p hp => ?_⟩
      have fp := b0.fresh hp
      have b1 := b0.new hp (o := .lst (bs.map V.int))
      refine ⟨_, .inl (SqL.of b1.hd), c, n + 9, b1.st, by rw [List.length_map]; omega, by rw [List.length_map]; omega, fun at1 t0 t1 H2 s2 st2 => ?_⟩
      rw [List.length_map] at t1
      have b2 := b1.draw s2 st2
      refine ⟨c, n + 8, b2.st, by decide, by decide, fun way w0 w1 H3 s3 st3 => ?_⟩
      have b3 := b2.draw s3 st3
      obtain ⟨x, hx, hxi, hxg⟩ := pickB bs t0 t1
      have hx0 := hnn x hx
      dsimp only [gName]
      refine seq_par (fun σ H' => ∃ (p : Addr) (bs' : List Int) (z : Option V), σ = [some (.ref d), some (.ref r), some (.ref p), some (.int at1), some (.int way), z] ∧ NN bs' ∧ bs'.length ≤ bs.length + 1 ∧ vw d c H p = none ∧ Bun d c H [(p, .lst (bs'.map V.int))] n H') (fun N hN => ?_) ?_
      · have fin : ∀ {H' : Hp} {m : Nat} {z : Option V} (bs' : List Int), Bun d c H [(p, .lst (bs.map V.int))] (n + m) H' → NN bs' → bs'.length ≤ bs.length + 1 → N [some (.ref d), some (.ref r), some (.ref p), some (.int at1), some (.int way), z] (upd H' p (.lst (bs'.map V.int))) := fun {H' m z} bs' b h1 h2 =>
          hN _ _ ⟨p, bs', z, rfl, h1, h2, fp.1, (b.put fp.1 (fun _ h => nomatch h)).less (by omega)⟩
        refine ⟨rfl, ⟨fun _ => ?_, fun _ => ⟨rfl, ⟨fun _ => ?_, fun _ => ⟨rfl, ⟨fun _ => ?_, fun _ => ⟨rfl, ⟨fun _ => ?_, fun _ => ⟨rfl, ⟨fun _ => ?_, fun _ => ⟨rfl, ⟨fun _ => ?_, fun _ => ⟨rfl, ⟨fun _ => ?_, fun _ => ?_⟩⟩⟩⟩⟩⟩⟩⟩⟩⟩⟩⟩⟩⟩
        · refine ⟨c, n + 7, b3.st, by decide, by decide, fun v v0 v1 H4 s4 st4 => ?_⟩
          have b4 := b3.draw s4 st4
          refine ⟨_, _, b4.hd, by rw [List.length_map]; exact ixAt t0 t1, ?_⟩
          rw [map_set_int]
          exact fin _ b4 (hnn.set v0) (by simp)
        · refine ⟨ty_l b3.hd, _, _, .int x, b3.hd, by omega, by omega, by rw [List.length_map]; exact seqIx t0 t1, ?_, ?_⟩
          · exact hxg
          · rw [eraseIdx_int]
            exact fin (m := 8) _ b3 (hnn.sub fun y hy => List.mem_of_mem_eraseIdx hy) (by have := List.length_eraseIdx_le bs at1.toNat; omega)
        · refine ⟨ty_l b3.hd, c, n + 7, b3.st, by decide, by decide, fun v v0 v1 H4 s4 st4 => ?_⟩
          have b4 := b3.draw s4 st4
          refine ⟨_, _, .inl (SqL.of b4.hd), hxi, len2, fun q hq => ?_⟩
          have b5 := b4.new hq (o := .lst [V.int v, V.int x])
          refine ⟨c, n + 6, b5.st, by decide, by decide, fun u u0 u1 H6 s6 st6 => ?_⟩
          have b6 := b5.draw s6 st6
          obtain ⟨y, hy, hyi⟩ := pickI [v, x] u0 u1
          have hy0 : 0 ≤ y := by
            simp only [List.mem_cons, List.mem_nil_iff, or_false] at hy
            omega
          refine ⟨_, _, .inl (SqL.of b6.hd), hyi, _, b6.hd2, by rw [sizeLine_eq, List.length_map]; omega, t0, by omega, ?_⟩
          have e : (bs.map V.int).take at1.toNat ++ [V.int y] ++ (bs.map V.int).drop at1.toNat = (bs.take at1.toNat ++ [y] ++ bs.drop at1.toNat).map V.int := by simp
          rw [e]
          refine fin (m := 6) _ (b6.sub fun x hx => List.mem_cons_of_mem _ hx) (((hnn.sub fun y hy => List.mem_of_mem_take hy).app (NN.one hy0)).app (hnn.sub fun y hy => List.mem_of_mem_drop hy)) ?_
          simp
          omega
        · refine ⟨_, .inl (SqL.of b3.hd), c, n + 7, b3.st, by rw [List.length_map]; omega, by rw [List.length_map]; omega, fun v v0 v1 H4 s4 st4 => ?_⟩
          have b4 := b3.draw s4 st4
          rw [List.length_map] at v1
          obtain ⟨y, hy, hyi, hyg⟩ := pickB bs v0 v1
          refine ⟨_, _, .inl (SqL.of b4.hd), hyi, _, _, .inl (SqL.of b4.hd), hxi, len2, fun q hq => ?_⟩
          have b5 := b4.new hq (o := .tup [V.int y, V.int x])
          refine ⟨_, SqT.of b5.hd, rfl, _, _, b5.hd2, by rw [List.length_map]; exact ixAt t0 t1, ?_⟩
          rw [map_set_int]
          refine ⟨_, _, upd_same, by rw [List.length_map, List.length_set]; exact ixAt v0 v1, ?_⟩
          rw [map_set_int, upd_upd]
          exact fin (m := 7) _ (b5.sub fun x hx => List.mem_cons_of_mem _ hx) ((hnn.set (hnn y hy)).set hx0) (by simp)
        · refine .inl ⟨_, SqL.of b3.hd, fun q hq => ?_⟩
          have b5 := b3.new hq (o := .lst ((bs.take at1.toNat).map V.int))
          have fq := b3.fresh hq
          have e : cutV (bs.map V.int) none (some at1) = (bs.take at1.toNat).map V.int := by
            have e2 : at1 = ((at1.toNat : Nat) : Int) := by omega
            have h1 : HT.sIx bs.length bs.length (some ((at1.toNat : Nat) : Int)) = min at1.toNat bs.length := HT.sIx_nat _ _ _
            rw [← e2] at h1
            have h0 : HT.sIx bs.length 0 none = 0 := HT.sIx_none _ _
            unfold cutV
            rw [List.length_map, h1, h0, Nat.sub_zero, List.drop_zero, Nat.min_eq_left (by omega), List.map_take]
          rw [e]
          exact hN _ _ ⟨q, bs.take at1.toNat, none, rfl, hnn.sub fun y hy => List.mem_of_mem_take hy, by rw [List.length_take]; omega, fq.1, b5.top (by omega)⟩
        · refine ⟨ty_l b3.hd, c, n + 7, b3.st, by decide, by decide, fun v v0 v1 H4 s4 st4 => ?_⟩
          have b4 := b3.draw s4 st4
          refine ⟨len2, fun q hq => ?_⟩
          have b5 := b4.new hq (o := .lst [V.int 0, V.int v])
          refine ⟨c, n + 6, b5.st, by decide, by decide, fun u u0 u1 H6 s6 st6 => ?_⟩
          have b6 := b5.draw s6 st6
          obtain ⟨y, hy, hyi⟩ := pickI [0, v] u0 u1
          have hy0 : 0 ≤ y := by
            simp only [List.mem_cons, List.mem_nil_iff, or_false] at hy
            omega
          refine ⟨_, _, .inl (SqL.of b6.hd), hyi, _, b6.hd2, by rw [sizeLine_eq, List.length_map]; omega, ?_⟩
          have e : bs.map V.int ++ [V.int y] = (bs ++ [y]).map V.int := by simp
          rw [e]
          exact fin (m := 6) _ (b6.sub fun x hx => List.mem_cons_of_mem _ hx) (hnn.app (NN.one hy0)) (by simp)
        · refine ⟨c, n + 7, b3.st, by decide, by decide, fun v v0 v1 H4 s4 st4 => ?_⟩
          have b4 := b3.draw s4 st4
          refine ⟨_, _, b4.hd, by rw [List.length_map]; exact ixAt (by decide) (by omega), ?_⟩
          rw [map_set_int]
          exact fin _ b4 (hnn.set v0) (by simp)
        · refine ⟨_, _, .inl (SqL.of b3.hd), hxi, c, n + 7, b3.st, by decide, by decide, fun v v0 v1 H4 s4 st4 => ?_⟩
          have b4 := b3.draw s4 st4
          refine ⟨⟨v0, by omega, by decide⟩, _, _, b4.hd, by rw [List.length_map]; exact ixAt t0 t1, ?_⟩
          rw [map_set_int]
          refine fin _ b4 (hnn.set (xor_nn hx0 ?_)) (by simp)
          have := two_pow_pos v.toNat
          omega
      · rintro _ H4 ⟨p, bs', z, rfl, h1, h2, h3, h4⟩
        exact h _ p bs' h1 h2 h3 h4
    · exact h.elim
end
end K90
namespace K90
open PySem PySem.Spec PyProof.Rows L2 RT RZ
/-- a drawn row -/
def RowOk (kinds : List Bool) (r : List Cell) : Prop := r.length = kinds.length ∧ ∀ (j : Nat) (t : Bool) (x : Cell), kinds[j]? = some t → r[j]? = some x → Kin t x
def colAt (cols : List (List Cell)) (i : Nat) : List Cell := cols.map fun c => c.getD i Cell.non
theorem Pts.imp {α : Type} {F G : Hp → Addr → α → Prop} {H H' : Hp} (s : ∀ p x, F H p x → G H' p x) : ∀ {vs : List Addr} {os : List α}, Pts F H vs os → Pts G H' vs os
  | [], [], _ => trivial
  | v :: r, o :: q, ⟨d, h⟩ => ⟨s _ _ d, Pts.imp s h⟩
  | [], _ :: _, h => h.elim
  | _ :: _, [], h => h.elim
theorem Pts.set {α : Type} {F : Hp → Addr → α → Prop} {H : Hp} {p : Addr} {x : α} (d : F H p x) : ∀ {vs : List Addr} {os : List α} (j : Nat), Pts F H vs os → Pts F H (vs.set j p) (os.set j x)
  | [], [], _, _ => trivial
  | v :: r, o :: q, 0, ⟨_, h⟩ => ⟨d, h⟩
  | v :: r, o :: q, j + 1, ⟨e, h⟩ => ⟨e, Pts.set d j h⟩
  | [], _ :: _, _, h => h.elim
  | _ :: _, [], _, h => h.elim
theorem map_set_ref {l : List Addr} {i : Nat} {x : Addr} : (l.map V.ref).set i (.ref x) = (l.set i x).map V.ref := by rw [List.map_set]
theorem St.ne_of {d c p : Addr} {n : Nat} {H H' : Hp} (st : St d c n H) (e : H p = none) : p ≠ d ∧ p ≠ c := ⟨st.ned e, st.nec e⟩
section
variable {P : Program} {w : World} {K : PySem.W.Frag} {mg : Str → Option Value} {base : Heap}
def sp_law_rows (K : PySem.W.Frag) : Sp := fun vs H Q E => match vs with
  | [.ref d, .ref k, .int m] => ∃ c n, ∃ (kinds : List Bool) (many : Nat), m = (many : Nat) ∧ 1 ≤ many ∧ many ≤ 64 ∧ vw d c H k = some (.lst (kindsV kinds)) ∧ kinds.length ≤ 8 ∧ St d c (n + 8100) H ∧
      ∀ H' p (ps : List Addr) (rs : List (List Cell)), rs.length = many → (∀ r ∈ rs, RowOk kinds r) → vw d c H p = none → Bun d c H [(p, .lst (ps.map V.ref))] n H' → Pts RowT (vw d c H') ps rs → Q (.ref p) H'
  | _ => False
theorem sc_law_rows : FnScope ["_law_state", "_law_kinds_here", "_law_many", "_law_columns", "_law_rows_here", "_law_turn", "_law_kind_here", "_law_place", "_law_column"] ["_law_state", "_law_kinds_here", "_law_many"] (defScope s_law_rows) := ⟨rfl, rfl, rfl, by decide +kernel, rfl, by decide +kernel, by decide +kernel⟩
theorem ok_law_rows (T : Txt K mg) : Cal P w K mg base 4 "_law_rows" (sp_law_rows K) := by
  obtain ⟨fd, F⟩ := D_law_rows T
  refine cal_mk (g_law_rows T) F sc_law_rows (fun _ _ _ _ _ _ us hl => match us, hl with | [_, _, _], _ => rfl) (fun vs H Q E h => ?len) (fun cdv A outer s H vs Q E hr h => ⟨_, (pss_cons (ps_set (i := 3) sc_law_rows.nd rfl (by first | exact Or.inl rfl | exact Or.inr rfl) (ue_lc (own := [("_law_kind_here", 6)]) rfl sc_law_rows.nd (j_list (uv 1)) rfl (fun _ _ _ _ _ => (pg_name (i := 6) sc_law_rows.nd rfl (by first | exact Or.inl rfl | exact Or.inr rfl))) (fun _ _ _ _ _ => pts_nil) (fun _ _ _ _ _ => (u_call (ok_law_cells T) hr (by decide) (pa_cons (uv 0) (pa_cons (uv 6) (pa_cons (uv 2) pa_nil)))))))
      (pss_cons (us_lc (i := 4) (own := [("_law_place", 7)]) rfl sc_law_rows.nd rfl rfl (sw_true rfl rfl rfl (by decide +kernel)) (j_rng (b_range T) (pa_cons (uv 2) pa_nil)) rfl (fun _ _ _ _ _ => (pg_name (i := 7) sc_law_rows.nd rfl (by first | exact Or.inl rfl | exact Or.inr rfl))) (fun _ _ _ _ _ => pts_nil) (fun _ _ _ _ _ => (u_tupLc (b_tuple T) (ue_lc (own := [("_law_column", 8)]) rfl sc_law_rows.nd (j_listK (K := K) (uv 3)) rfl (fun _ _ _ _ _ => (pg_name (i := 8) sc_law_rows.nd rfl (by first | exact Or.inl rfl | exact Or.inr rfl))) (fun _ _ _ _ _ => pts_nil) (fun _ _ _ _ _ => (pe_ix (q_seq (K := K)) (uv 8) (uv 7) (fun _ _ => rfl)))))))
      (pss_cons (us_for (passes_of rfl) rfl (j_rng (b_range T) (pa_cons (pe_op o_div (uv 2) pe_int) pa_nil)) (pg_name (i := 5) sc_law_rows.nd rfl (by first | exact Or.inl rfl | exact Or.inr rfl)) (pss_one (ps_asg (pe_ix (q_seq (K := K)) (uv 4) (u_call (ok_law_take T) hr (by decide) (pa_cons (uv 0) (pa_cons (uv 2) pa_nil))) (fun _ _ => rfl)) (pg_sub (uv 4) (u_call (ok_law_take T) hr (by decide) (pa_cons (uv 0) (pa_cons (uv 2) pa_nil))) h_set))))
      (pss_one (ps_ret (uv 4)))))), ?body⟩)
  case len => unfold sp_law_rows at h; (split at h) <;> first | rfl | exact h.elim
  case body =>
    unfold sp_law_rows at h
    split at h
    · rename_i d k m
      obtain ⟨c, n, kinds, many, rfl, hm1, hm2, hk, hkl, hst, h⟩ := h
      have b0 : Bun d c H [(k, .lst (kindsV kinds))] (n + 8100) H := (Bun.start hst).add hk
      have hkvl : (kindsV kinds).length = kinds.length := by simp [kindsV]
      refine ⟨⟨_, SqL.of b0.hd⟩, fun D hD => ?_⟩
      have fD := b0.fresh hD
      refine LcGoes.byV (.list (xs := kindsV kinds)) (fun i acc H' => ∃ (qs : List Addr) (cols : List (List Cell)), acc = qs.map V.ref ∧ cols.length = i ∧ Pts (fun H x cs => x ≠ D ∧ ColAt H x cs) (vw d c H') qs cols ∧ (∀ (j : Nat) (t : Bool) (cs : List Cell), kinds[j]? = some t → cols[j]? = some cs → cs.length = many ∧ ∀ x ∈ cs, Kin t x) ∧ Bun d c H [(D, .lst acc), (k, .lst (kindsV kinds))] (n + 8100 - 1000 * i) H') ⟨[], [], rfl, rfl, trivial, (fun _ _ _ _ z => by simp at z), b0.new hD⟩ (fun i acc H' _ d' ⟨_, _, _, _, _, _, b⟩ => SqL.of b.hd2) ?_ ?_
      · rintro i _ v H5 _ hi ha d5 ⟨qs, cols, rfl, el, hq, hco, b5⟩ ⟨hv, rfl⟩
        rw [hkvl] at hi
        obtain ⟨t, ht⟩ := get_lt hi
        unfold kindsV at hv
        rw [List.getElem?_map, ht] at hv
        cases hv
        refine ⟨rfl, ⟨fun _ => ⟨c, n + 8100 - 1000 * (i + 1), t, many, rfl, rfl, hm2, b5.st.mono (by omega), fun H6 p cs hcl hck hp6 b6 => ?_⟩, (nomatch ·)⟩⟩
        have b6a := b5.draw b6.same b6.st
        have hpD : p ≠ D := fun z => by
          rw [z, b5.v1] at hp6
          cases hp6
        refine LcV.put (by rw [sizeLine_eq]; omega) ha b6a.hd ⟨qs ++ [p], cols ++ [cs], by simp, by simp [el], ?_, ?_, by simpa using b6a.put fD.1 (fun y hy => fD.2 y hy)⟩
        · have ne := vw_ne b6a.v1
          rw [vw_put ne.1 ne.2]
          refine Pts.snoc ⟨hpD, (upd_ne hpD).trans b6.v1⟩ (Pts.mono (fun u cs h => ⟨h.1, ?_⟩) hq)
          exact (upd_ne h.1).trans (b6.same _ _ h.2)
        · intro j t' cs' h1 h2
          by_cases hj : j < cols.length
          · rw [List.getElem?_append_left hj] at h2
            exact hco j t' cs' h1 h2
          · rw [List.getElem?_append_right (by omega)] at h2
            have : j - cols.length = 0 := by
              have := (List.getElem?_eq_some_iff.mp h2).1
              simp at this
              omega
            have ej : j = i := by omega
            subst ej
            rw [this] at h2
            cases h2
            rw [ht] at h1
            cases h1
            exact ⟨hcl, hck⟩
      · rintro _ H6 ha d6 ⟨qs, cols, rfl, el, hq, hco, b6⟩
        rw [hkvl] at el
        have b6 := b6.less (m := n + 100) (by omega)
        have hq6 : Pts ColAt H6 qs cols := Pts.imp (fun u cs h => vw_le _ _ h.2) hq
        have hql := Pts.len hq
        refine ⟨by omega, by omega, fun D1 hD1 => ?_⟩
        have fD1 := b6.fresh hD1
        refine LcGoes.by .range hD1 (fun i out H' => ∃ ts : List Addr, out = ts.map V.ref ∧ Pts RowT (hid H6 D1 H') ts ((List.range i).map (colAt cols))) ⟨[], rfl, trivial⟩ (fun _ _ _ _ _ _ _ => trivial) ?_ ?_
        · rintro i _ _ H8 _ hi ha s8 d8 ⟨ts, rfl, hts⟩ ⟨rfl, rfl⟩
          have hi : i < many := by
            have : i < ((many : Nat) : Int).toNat := hi
            omega
          have d8q := s8 _ _ b6.hd
          refine ⟨rfl, ⟨fun _ => ⟨⟨_, SqL.of d8q⟩, fun D2 hD2 => ?_⟩, (nomatch ·)⟩⟩
          refine LcGoes.by (.list (xs := qs.map V.ref)) hD2 (fun j out H' => out = ((colAt cols i).take j).map cv) rfl (fun j out H' _ s' _ _ => SqL.of (s' _ _ d8q)) ?_ ?_
          · rintro j _ v H10 _ hj ha2 s10 d10 rfl ⟨hv, rfl⟩
            rw [List.getElem?_map] at hv
            cases ep : qs[j]? with
            | none =>
              rw [ep] at hv
              cases hv
            | some u =>
              rw [ep] at hv
              cases hv
              obtain ⟨cs, hcs1, hcs2⟩ := Pts.get hq6 ep
              have hjk : j < kinds.length := by
                have := (List.getElem?_eq_some_iff.mp hcs1).1
                omega
              obtain ⟨t, ht⟩ := get_lt hjk
              have hcl := (hco j t cs ht hcs1).1
              obtain ⟨x, hx⟩ := get_lt (l := cs) (i := i) (by omega)
              have hr : (colAt cols i)[j]? = some x := by
                unfold colAt
                rw [List.getElem?_map, hcs1]
                show some (cs.getD i Cell.non) = _
                rw [List.getD_eq_getElem?_getD, hx]
                rfl
              have e0 : (0 : Int) + (i : Nat) = ((i : Nat) : Int) := by omega
              refine ⟨rfl, ⟨fun _ => ⟨_, cv x, .inl (SqL.of (s10 _ _ (s8 _ _ hcs2))), ?_, ?_⟩, (nomatch ·)⟩⟩
              · rw [e0]
                exact atN (by rw [List.getElem?_map, hx]; rfl)
              · refine LcP.put hD2 (by rw [sizeLine_eq]; rw [List.length_map] at hj; omega) ha2 s10 d10 ?_
                rw [take_snoc hr]
                simp
          · rintro _ H10 ha2 s10 d10 rfl
            have e4 : (colAt cols i).take (qs.map V.ref).length = colAt cols i := List.take_of_length_le (by unfold colAt; simp; omega)
            rw [e4] at d10
            refine ⟨_, SqL.of d10, fun t ht => ?_⟩
            have s11 : Same H8 (upd H10 t (.tup ((colAt cols i).map cv))) := same_new (s10.free ht) s10
            have dt := upd_same (H := H10) (a := t) (o := .tup ((colAt cols i).map cv))
            generalize upd H10 t (.tup ((colAt cols i).map cv)) = H11 at *
            refine LcP.put hD1 (by rw [sizeLine_eq]; omega) ha (s8.trans s11) (s11 _ _ d8) ⟨ts ++ [t], by simp, ?_⟩
            rw [hid_upd, List.range_succ, List.map_append]
            refine Pts.snoc ?_ (Pts.mono (fun p x h => hid_same s11 _ _ h) hts)
            have htD : t ≠ D1 := fun z => by
              rw [z, s10 _ _ d8] at ht
              cases ht
            exact (hid_eq htD ((s8.trans s10).free ht)).trans dt
        · rintro _ H8 ha s8 d8 ⟨ts, rfl, hts⟩
          have hmN : ((many : Nat) : Int).toNat = many := Int.toNat_natCast _
          rw [hmN] at hts
          have b8 : Bun d c H [(D1, .lst (ts.map V.ref))] (n + 100) H8 := by
            have := b6.keep s8
            refine ⟨this.same, fun x hx => ?_, this.st⟩
            cases List.mem_singleton.mp hx
            exact (vw_at (b6.st.ned hD1) (b6.st.nec hD1)).trans d8
          have hts8 : Pts RowT (vw d c H8) ts ((List.range many).map (colAt cols)) := Pts.imp (fun p x (h : hid H6 D1 H8 p = _) => (vw_at (b6.st.ned (hid_new h)) (b6.st.nec (hid_new h))).trans (hid_le _ _ h)) hts
          have hrs : ∀ r ∈ (List.range many).map (colAt cols), RowOk kinds r := fun r hr => by
            obtain ⟨i, hi, rfl⟩ := List.mem_map.mp hr
            have hi := List.mem_range.mp hi
            refine ⟨by simp [colAt, el], fun j t x h1 h2 => ?_⟩
            unfold colAt at h2
            rw [List.getElem?_map] at h2
            cases ec : cols[j]? with
            | none =>
              rw [ec] at h2
              cases h2
            | some cs =>
              rw [ec] at h2
              have hc := hco j t cs h1 ec
              obtain ⟨y, hy⟩ := get_lt (l := cs) (i := i) (by omega)
              have h2 : some (cs.getD i Cell.non) = some x := h2
              rw [List.getD_eq_getElem?_getD, hy] at h2
              cases h2
              exact hc.2 _ (List.mem_of_getElem? hy)
          have hrl : ((List.range many).map (colAt cols)).length = many := by simp
          generalize (List.range many).map (colAt cols) = rs at *
          refine ⟨⟨by decide, by decide +kernel⟩, by omega, by omega, ?_⟩
          refine ForGoes.by .range (fun i σ H' => ∃ (ts : List Addr) (rs : List (List Cell)) (x : Option V), σ = [some (.ref d), some (.ref k), some (.int (many : Nat)), some (.ref D), some (.ref D1), x, none, none, none] ∧ rs.length = many ∧ (∀ r ∈ rs, RowOk kinds r) ∧ Pts RowT (vw d c H') ts rs ∧ Bun d c H [(D1, .lst (ts.map V.ref))] (n + 100 - 2 * i) H') ⟨ts, rs, none, rfl, hrl, hrs, hts8, b8⟩ (fun _ _ _ _ _ => trivial) ?_ ?_
          · rintro i _ _ H9 _ hi ⟨ts, rs, x, rfl, hrl, hrs, hts, b9⟩ ⟨rfl, rfl⟩
            have hi : i < 16 := by
              have : i < (((many : Nat) : Int) / 4).toNat := hi
              omega
            have htl := Pts.len hts
            refine ⟨c, n + 100 - 2 * i - 1, b9.st.mono (by omega), by omega, by omega, fun v v0 v1 H10 s10 st10 => ?_⟩
            have b10 := b9.draw s10 st10
            obtain ⟨j, rfl⟩ := Int.eq_ofNat_of_zero_le v0
            obtain ⟨t, ht⟩ := get_lt (l := ts) (i := j) (by omega)
            obtain ⟨r, hr1, hr2⟩ := Pts.get hts ht
            refine ⟨_, .ref t, .inl (SqL.of b10.hd), atN (by rw [List.getElem?_map, ht]; rfl), c, n + 100 - 2 * (i + 1), b10.st.mono (by omega), by omega, by omega, fun u u0 u1 H11 s11 st11 => ?_⟩
            have b11 := b10.draw s11 st11
            refine ⟨_, _, b11.hd, by rw [List.length_map]; exact ixAt u0 (by omega), ?_⟩
            rw [map_set_ref]
            have hts11 : Pts RowT (vw d c H11) ts rs := Pts.mono (fun p x h => s11 _ _ (s10 _ _ h)) hts
            have hr11 : RowT (vw d c H11) t r := s11 _ _ (s10 _ _ hr2)
            refine ⟨ts.set u.toNat t, rs.set u.toNat r, _, rfl, by simp [hrl], fun y hy => ?_, ?_, b11.put fD1.1 (fun _ h => nomatch h)⟩
            · rcases List.mem_or_eq_of_mem_set hy with h1 | h1
              · exact hrs y h1
              · rw [h1]
                exact hrs r (List.mem_of_getElem? hr1)
            · have ne := vw_ne b11.v1
              rw [vw_put ne.1 ne.2]
              refine Pts.mono (fun p x h => ?_) (Pts.set hr11 u.toNat hts11)
              have hp : p ≠ D1 := fun z => by
                have h : vw d c H11 p = _ := h
                rw [z, b11.v1] at h
                cases h
              exact (upd_ne hp).trans h
          · rintro _ H9 ⟨ts, rs, x, rfl, hrl, hrs, hts, b9⟩
            exact h _ D1 ts rs hrl hrs fD1.1 (b9.less (by omega)) hts
    · exact h.elim
end
end K90
namespace K90
open PySem PySem.Spec PyProof.Rows L2 RT RZ
/-- drawn entries -/
structure Drawn (kinds : List Bool) (es : List Entry) : Prop where
  e1 : 1 ≤ es.length
  e2 : es.length ≤ 20
  row : ∀ e ∈ es, RowOk kinds e.row
  small : ∀ e ∈ es, 0 ≤ e.num ∧ e.num ≤ 1000 ∧ 1 ≤ e.cnt ∧ e.cnt ≤ 1000
  rise : riseFrom (-1) (colN es) = true
theorem rise_snoc : ∀ {cs : List Cell} {a v : Int}, riseFrom a cs = true → (∀ i, Cell.int i ∈ cs → i < v) → a < v → riseFrom a (cs ++ [.int v]) = true
  | [], a, v, _, _, hv => by
    show (if v ≤ a then false else riseFrom v []) = true
    rw [if_neg (by omega)]
    rfl
  | .int i :: r, a, v, h, hm, hv => by
    have h : (if i ≤ a then false else riseFrom i r) = true := h
    show (if i ≤ a then false else riseFrom i (r ++ [.int v])) = true
    split at h
    · cases h
    · rename_i c
      rw [if_neg c]
      exact rise_snoc h (fun j hj => hm j (by simp [hj])) (hm i (by simp))
  | .non :: _, _, _, h, _, _ => by cases h
  | .str _ :: _, _, _, h, _, _ => by cases h
theorem Kin.isOf {t : Bool} {x : Cell} (h : Kin t x) : x.isOf t = true := by
  rcases h with rfl | h
  · rfl
  · cases t with
    | false =>
      obtain ⟨i, rfl, h1, h2⟩ := h.isInt
      simp [Cell.isOf]
      split <;> omega
    | true =>
      obtain ⟨l, rfl, _⟩ := h.isStr
      rfl
theorem Drawn.col {kinds : List Bool} {es : List Entry} (h : Drawn kinds es) {j : Nat} {t : Bool} (ht : kinds[j]? = some t) : ∀ x ∈ colR es j, Kin t x := fun x hx => by
  unfold colR at hx
  obtain ⟨e, he, rfl⟩ := List.mem_map.mp hx
  have hr := h.row e he
  have hj := (List.getElem?_eq_some_iff.mp ht).1
  obtain ⟨y, hy⟩ := get_lt (l := e.row) (i := j) (by rw [hr.1]; exact hj)
  rw [hy]
  exact hr.2 j t y ht hy
theorem Drawn.ok {kinds : List Bool} {long : Nat} {es : List Entry} (k1 : 1 ≤ kinds.length) (k8 : kinds.length ≤ 8) (l1 : 1 ≤ long) (l64 : long ≤ 64) (h : Drawn kinds es) : HeapOk kinds long es := by
  refine ⟨k1, k8, l1, l64, h.e1, by have := h.e2; omega, fun e he => (h.row e he).1, fun cs hc c hcc => ?_, ?_⟩
  · unfold columns at hc
    rcases List.mem_cons.mp hc with rfl | hc
    · obtain ⟨e, he, rfl⟩ := List.mem_map.mp hcc
      have := h.small e he
      show -1000000000000000000 < e.num ∧ e.num < 1000000000000000000
      omega
    · rcases List.mem_cons.mp hc with rfl | hc
      · obtain ⟨e, he, rfl⟩ := List.mem_map.mp hcc
        have := h.small e he
        show -1000000000000000000 < e.cnt ∧ e.cnt < 1000000000000000000
        omega
      · obtain ⟨j, hj, rfl⟩ := List.mem_map.mp hc
        obtain ⟨t, ht⟩ := get_lt (List.mem_range.mp hj)
        exact (h.col ht c hcc).fit
  · unfold areEntries
    rw [Bool.and_eq_true, Bool.and_eq_true, Bool.and_eq_true]
    refine ⟨⟨⟨?_, h.rise⟩, ?_⟩, ?_⟩
    · rw [List.all_eq_true]
      exact fun cs hc => decide_eq_true (column_len hc)
    · rw [List.all_eq_true]
      intro c hc
      have hc : c ∈ colC es := hc
      obtain ⟨e, he, rfl⟩ := List.mem_map.mp hc
      have := h.small e he
      show decide (1 ≤ e.cnt) = true
      exact decide_eq_true this.2.2.1
    · rw [List.all_eq_true]
      intro p hp
      obtain ⟨j, hj, e⟩ := List.getElem_of_mem hp
      have e3 : (columns kinds.length es).drop 2 = (List.range kinds.length).map (colR es) := rfl
      have hj2 : j < kinds.length := by
        rw [List.length_zip, e3] at hj
        omega
      rw [List.getElem_zip] at e
      subst e
      rw [List.all_eq_true]
      intro c hc
      simp only [e3, List.getElem_map, List.getElem_range] at hc
      exact (h.col (List.getElem?_eq_getElem hj2) c hc).isOf
theorem EntAt.put {H : Hp} {pe e : Addr} {xs : List V} {o : HO} {x : Entry} (hp : H pe = some (.lst xs)) (h : EntAt H e x) : EntAt (upd H pe o) e x := by
  obtain ⟨t, h1, h2⟩ := h
  exact ⟨t, (upd_ne fun z => by rw [z, hp] at h1; cases h1).trans h1, (upd_ne fun z => by rw [z, hp] at h2; cases h2).trans h2⟩
section
variable {P : Program} {w : World} {K : PySem.W.Frag} {mg : Str → Option Value} {base : Heap}
def sp_law_entries (K : PySem.W.Frag) : Sp := fun vs H Q E => match vs with
  | [.ref d, .ref k] => ∃ c n, ∃ (kinds : List Bool), vw d c H k = some (.lst (kindsV kinds)) ∧ kinds.length ≤ 8 ∧ St d c (n + 8200) H ∧
      ∀ H' p (ps : List Addr) (es : List Entry), Drawn kinds es → vw d c H p = none → Bun d c H [(p, .lst (ps.map V.ref))] n H' → Pts EntAt (vw d c H') ps es → Q (.ref p) H'
  | _ => False
theorem sc_law_entries : FnScope ["_law_state", "_law_kinds_here", "_law_rows_here", "_law_entries_here", "_law_number_here", "_law_row"] ["_law_state", "_law_kinds_here"] (defScope s_law_entries) := ⟨rfl, rfl, rfl, by decide +kernel, rfl, by decide +kernel, by decide +kernel⟩
theorem ok_law_entries (T : Txt K mg) : Cal P w K mg base 5 "_law_entries" (sp_law_entries K) := by
  obtain ⟨fd, F⟩ := D_law_entries T
  refine cal_mk (g_law_entries T) F sc_law_entries (fun _ _ _ _ _ _ us hl => match us, hl with | [_, _], _ => rfl) (fun vs H Q E h => ?len) (fun cdv A outer s H vs Q E hr h => ⟨_, (pss_cons (ps_set (i := 2) sc_law_entries.nd rfl (by first | exact Or.inl rfl | exact Or.inr rfl) (u_call (ok_law_rows T) hr (by decide) (pa_cons (uv 0) (pa_cons (uv 1) (pa_cons (pe_op o_add pe_int (u_call (ok_law_take T) hr (by decide) (pa_cons (uv 0) (pa_cons pe_int pa_nil)))) pa_nil)))))
      (pss_cons (ps_set (i := 3) sc_law_entries.nd rfl (by first | exact Or.inl rfl | exact Or.inr rfl) (pe_lst pa_nil))
      (pss_cons (ps_set (i := 4) sc_law_entries.nd rfl (by first | exact Or.inl rfl | exact Or.inr rfl) (u_call (ok_law_take T) hr (by decide) (pa_cons (uv 0) (pa_cons pe_int pa_nil))))
      (pss_cons (us_for (passes_of rfl) rfl (j_list (uv 2)) (pg_name (i := 5) sc_law_entries.nd rfl (by first | exact Or.inl rfl | exact Or.inr rfl)) (pss_cons (ps_expr (pe_bm PySem.F.plainAttrs_list PySem.F.slot_list_append PySem.F.type_list_append m_append (uv 3) (pa_cons (pe_tup (pa_cons (uv 4) (pa_cons (pe_op o_add pe_int (u_call (ok_law_take T) hr (by decide) (pa_cons (uv 0) (pa_cons pe_int pa_nil)))) (pa_cons (uv 5) pa_nil)))) pa_nil)))
      (pss_one (ps_set (i := 4) sc_law_entries.nd rfl (by first | exact Or.inl rfl | exact Or.inr rfl) (pe_op o_add (pe_op o_add (uv 4) pe_int) (u_call (ok_law_take T) hr (by decide) (pa_cons (uv 0) (pa_cons pe_int pa_nil))))))))
      (pss_one (ps_ret (uv 3))))))), ?body⟩)
  case len => unfold sp_law_entries at h; (split at h) <;> first | rfl | exact h.elim
  case body =>
    unfold sp_law_entries at h
    split at h
    · rename_i d k
      obtain ⟨c, n, kinds, hk, hkl, hst, h⟩ := h
      have b0 : Bun d c H [(k, .lst (kindsV kinds))] (n + 8200) H := (Bun.start hst).add hk
      refine ⟨c, n + 8199, hst, by decide, by decide, fun a a0 a1 H1 s1 st1 => ?_⟩
      have b1 := b0.draw s1 st1
      obtain ⟨a, rfl⟩ := Int.eq_ofNat_of_zero_le a0
      refine ⟨c, n + 99, kinds, 1 + a, by omega, by omega, by omega, b1.v1, hkl, st1, fun H2 pr rs0 rs hrl hrs hpr b2 hts => ?_⟩
      have b2 : Bun d c H [(pr, .lst (rs0.map V.ref))] (n + 99) H2 := ⟨b1.same.trans b2.same, b2.own, b2.st⟩
      have hrl0 := Pts.len hts
      refine ⟨by rw [sizeLine_eq]; decide, fun pe hpe => ?_⟩
      have fpe := b2.fresh hpe
      have b3 := b2.new hpe (o := .lst [])
      refine ⟨c, n + 98, b3.st, by decide, by decide, fun v v0 v1 H4 s4 st4 => ?_⟩
      have b4 := b3.draw s4 st4
      refine ⟨⟨_, SqL.of b4.hd2⟩, ?_⟩
      have hts4 : Pts RowT (vw d c H4) rs0 rs := Pts.mono (fun p x h => s4 _ _ (by
        have h : vw d c H2 p = _ := h
        have ne := vw_ne h
        rw [vw_at ne.1 ne.2, upd_ne (fun z => by rw [z] at h; rw [vw_le _ _ h] at hpe; cases hpe)]
        exact vw_le _ _ h)) hts
      refine ForGoes.by (.list (xs := rs0.map V.ref)) (fun i σ H' => ∃ (qs : List Addr) (es : List Entry) (num : Int) (x : Option V), σ = [some (.ref d), some (.ref k), some (.ref pr), some (.ref pe), some (.int num), x] ∧ es.length = i ∧ 0 ≤ num ∧ num ≤ 4 + 4 * i ∧ (∀ e ∈ es, RowOk kinds e.row) ∧ (∀ e ∈ es, 0 ≤ e.num ∧ e.num ≤ 1000 ∧ 1 ≤ e.cnt ∧ e.cnt ≤ 1000) ∧ (∀ e ∈ es, e.num < num) ∧ riseFrom (-1) (colN es) = true ∧ Pts EntAt (vw d c H') qs es ∧ Pts RowT (vw d c H') rs0 rs ∧ Bun d c H [(pe, .lst (qs.map V.ref)), (pr, .lst (rs0.map V.ref))] (n + 98 - 2 * i) H') ⟨[], [], v, none, rfl, rfl, v0, by omega, by simp, by simp, by simp, rfl, trivial, hts4, b4⟩ ?_ ?_ ?_
      · rintro i _ H' _ ⟨_, _, _, _, _, _, _, _, _, _, _, _, _, _, b⟩
        exact SqL.of b.hd2
      · rintro i _ _ H5 _ hi ⟨qs, es, num, x, rfl, el, n0, n1, hro, hsm, hlt, hri, hq, hts5, b5⟩ ⟨hv, rfl⟩
        rw [List.length_map] at hi
        obtain ⟨t, ht⟩ := get_lt hi
        rw [List.getElem?_map, ht] at hv
        cases hv
        obtain ⟨r, hr1, hr2⟩ := Pts.get hts5 ht
        refine ⟨ty_l b5.hd, c, n + 98 - 2 * i - 1, b5.st.mono (by omega), by decide, by decide, fun u u0 u1 H6 s6 st6 => ?_⟩
        have b6 := b5.draw s6 st6
        refine ⟨len3, fun q hq0 => ?_⟩
        have b7 := b6.new hq0 (o := .tup [V.int num, V.int (1 + u), V.ref t])
        have fq := b6.fresh hq0
        have s67 : Same (vw d c H5) (vw d c (upd H6 q (.tup [V.int num, V.int (1 + u), V.ref t]))) := s6.trans (vw_same (same_new hq0 (Same.refl _)))
        refine ⟨_, b7.hd2, by rw [sizeLine_eq, List.length_map, Pts.len hq]; omega, ?_⟩
        have hpq : pe ≠ q := fq.2 (pe, .lst (qs.map V.ref)) (by simp)
        have b8 : Bun d c H [(pe, .lst (qs.map V.ref ++ [V.ref q])), (q, .tup [V.int num, V.int (1 + u), V.ref t]), (pr, .lst (rs0.map V.ref))] (n + 98 - 2 * i - 1) _ := (b7.sub (os' := [(pe, .lst (qs.map V.ref)), (q, .tup [V.int num, V.int (1 + u), V.ref t]), (pr, .lst (rs0.map V.ref))]) (fun x hx => by simp at hx ⊢; rcases hx with h | h | h <;> simp [h])).put fpe.1 (fun x hx => by
          simp at hx
          rcases hx with h | h
          · rw [h]
            exact Ne.symm hpq
          · rw [h]
            exact fpe.2 (pr, .lst (rs0.map V.ref)) (by simp))
        have ne := vw_ne b7.v2
        have vq := b7.v1
        have vpe := b7.v2
        have vt : vw d c _ t = _ := s67 _ _ hr2
        have hq7 : Pts EntAt _ qs es := Pts.mono (fun p x h => EntAt.same s67 h) hq
        have hts7 : Pts RowT _ rs0 rs := Pts.mono (fun p x h => s67 _ _ h) hts5
        generalize upd H6 q (.tup [V.int num, V.int (1 + u), V.ref t]) = H7 at *
        have ev : vw d c (upd H7 pe (.lst (qs.map V.ref ++ [V.ref q]))) = upd (vw d c H7) pe (.lst (qs.map V.ref ++ [V.ref q])) := vw_put ne.1 ne.2
        have hts8 : Pts RowT (vw d c (upd H7 pe (.lst (qs.map V.ref ++ [V.ref q])))) rs0 rs := by
          rw [ev]
          exact Pts.mono (fun p x (h : vw d c H7 p = _) => (upd_ne fun z => by rw [z, vpe] at h; cases h).trans h) hts7
        have hq8 : Pts EntAt (vw d c (upd H7 pe (.lst (qs.map V.ref ++ [V.ref q])))) (qs ++ [q]) (es ++ [⟨num, 1 + u, r⟩]) := by
          rw [ev]
          exact Pts.snoc (EntAt.put vpe ⟨t, vq, vt⟩) (Pts.mono (fun p x h => EntAt.put vpe h) hq7)
        have er : qs.map V.ref ++ [V.ref q] = (qs ++ [q]).map V.ref := by simp
        rw [er] at b8 hts8 hq8
        rw [er]
        have b8 := b8.sub (os' := [(pe, .lst ((qs ++ [q]).map V.ref)), (pr, .lst (rs0.map V.ref))]) (fun x hx => by simp only [List.mem_cons, List.mem_nil_iff, or_false] at hx ⊢; rcases hx with h | h <;> simp [h])
        generalize upd H7 pe (.lst ((qs ++ [q]).map V.ref)) = H8 at *
        refine ⟨c, n + 98 - 2 * (i + 1), b8.st.mono (by omega), by decide, by decide, fun z z0 z1 H9 s9 st9 => ?_⟩
        have b9 := b8.draw s9 st9
        have hrow : RowOk kinds r := hrs r (List.mem_of_getElem? hr1)
        refine ⟨qs ++ [q], es ++ [⟨num, 1 + u, r⟩], num + 1 + z, _, rfl, by simp [el], by omega, by omega, fun e he => ?_, fun e he => ?_, fun e he => ?_, ?_, Pts.mono (fun p x h => EntAt.same s9 h) hq8, Pts.mono (fun p x h => s9 _ _ h) hts8, b9⟩
        · rcases List.mem_append.mp he with he | he
          · exact hro e he
          · cases List.mem_singleton.mp he
            exact hrow
        · rcases List.mem_append.mp he with he | he
          · exact hsm e he
          · cases List.mem_singleton.mp he
            dsimp only
            omega
        · rcases List.mem_append.mp he with he | he
          · have := hlt e he
            omega
          · cases List.mem_singleton.mp he
            dsimp only
            omega
        · unfold colN
          rw [List.map_append]
          refine rise_snoc (v := num) hri (fun i hi => ?_) (by omega)
          unfold colN at hi
          obtain ⟨e, he, e2⟩ := List.mem_map.mp hi
          cases e2
          exact hlt e he
      · rintro _ H5 ⟨qs, es, num, x, rfl, el, n0, n1, hro, hsm, hlt, hri, hq, hts5, b5⟩
        rw [List.length_map] at el
        refine h _ pe qs es ⟨by omega, by omega, hro, hsm, hri⟩ fpe.1 (b5.top (by rw [List.length_map]; omega)) hq
    · exact h.elim
end
end K90
namespace K90
open PySem PySem.Spec PyProof.Rows L2 RT RZ
/-- the same data, so deep at the most -/
inductive SameV (H : Hp) : Nat → V → V → Prop
  | non (n : Nat) : SameV H n .non .non
  | int (n : Nat) (i : Int) : SameV H n (.int i) (.int i)
  | str (n : Nat) (z : Str) : SameV H n (.str z) (.str z)
  | lst {n : Nat} {a b : Addr} {xs ys : List V} (ha : H a = some (.lst xs)) (hb : H b = some (.lst ys)) (hl : xs.length = ys.length) (h0 : xs.length ≤ 100000) (h : ∀ (i : Nat) (x y : V), xs[i]? = some x → ys[i]? = some y → SameV H n x y) : SameV H (n + 1) (.ref a) (.ref b)
  | tup {n : Nat} {a b : Addr} {xs ys : List V} (ha : H a = some (.tup xs)) (hb : H b = some (.tup ys)) (hl : xs.length = ys.length) (h0 : xs.length ≤ 100000) (h : ∀ (i : Nat) (x y : V), xs[i]? = some x → ys[i]? = some y → SameV H n x y) : SameV H (n + 1) (.ref a) (.ref b)
theorem SameV.same {H H' : Hp} (s : Same H H') {n : Nat} {x y : V} (h : SameV H n x y) : SameV H' n x y := by
  induction h with
  | non n => exact .non n
  | int n i => exact .int n i
  | str n z => exact .str n z
  | lst ha hb hl h0 _ ih => exact .lst (s _ _ ha) (s _ _ hb) hl h0 ih
  | tup ha hb hl h0 _ ih => exact .tup (s _ _ ha) (s _ _ hb) hl h0 ih
section
variable {P : Program} {w : World} {K : PySem.W.Frag} {mg : Str → Option Value} {base : Heap}
def sp_law_same (n : Nat) (K : PySem.W.Frag) : Sp := fun vs H Q E => match vs with
  | [x, y] => SameV H n x y ∧ ∀ H', Same H H' → Q (.bl true) H'
  | _ => False
def sp_no (K : PySem.W.Frag) : Sp := fun vs H Q E => False
theorem sc_law_same : FnScope ["_law_found", "_law_due", "_law_name", "_law_one", "_law_other"] ["_law_found", "_law_due"] (defScope s_law_same) := ⟨rfl, rfl, rfl, by decide +kernel, rfl, by decide +kernel, by decide +kernel⟩
theorem step_law_same (T : Txt K mg) (j m : Nat) (sp : PySem.W.Frag → Sp) (c0 : Cal P w K mg base j "_law_same" (sp K)) (hs : ∀ n, m = n + 1 → ∀ x y H Q, SameV H n x y → (∀ H', Same H H' → Q (.bl true) H') → sp K [x, y] H Q E0) : Cal P w K mg base (j + 1) "_law_same" (sp_law_same m K) := by
  obtain ⟨fd, F⟩ := D_law_same T
  refine cal_mk (g_law_same T) F sc_law_same (fun _ _ _ _ _ _ us hl => match us, hl with | [_, _], _ => rfl) (fun vs H Q E h => ?len) (fun cdv A outer s H vs Q E hr h => ⟨_,
(pss_cons (us_if (ut_cmp o_is (uv 1) pe_non (nomark _)) (pss_one (ps_ret (pe_cmpR o_is (uv 0) pe_non (nomark _)))) pss_nil)
      (pss_cons (us_if (ut_val (pe_callB (q_isi (K := K)) rfl (b_isinstance T) (by decide +kernel) (pa_cons (uv 1) (pa_cons (pe_bltn (v := .ty "dict") rfl (b_dict T) (by decide +kernel) rfl) pa_nil)))) (pss_cons ps_never
      (pss_one ps_never)) pss_nil)
      (pss_cons (us_if (PW.pt (uw_or (ut_val (pe_callB (q_isi (K := K)) rfl (b_isinstance T) (by decide +kernel) (pa_cons (uv 1) (pa_cons (pe_bltn (v := .ty "list") rfl (b_list T) (by decide +kernel) rfl) pa_nil)))) (pw_or1 (ut_val (pe_callB (q_isi (K := K)) rfl (b_isinstance T) (by decide +kernel) (pa_cons (uv 1) (pa_cons (pe_bltn (v := .ty "tuple") rfl (b_tuple T) (by decide +kernel) rfl) pa_nil))))))) (pss_cons (us_if (ut_cmp (o_ne hr.units) (pe_callB (q_isi (K := K)) rfl (b_isinstance T) (by decide +kernel) (pa_cons (uv 0) (pa_cons (pe_bltn (v := .ty "list") rfl (b_list T) (by decide +kernel) rfl) pa_nil))) (pe_callB (q_isi (K := K)) rfl (b_isinstance T) (by decide +kernel) (pa_cons (uv 1) (pa_cons (pe_bltn (v := .ty "list") rfl (b_list T) (by decide +kernel) rfl) pa_nil))) (nomark _)) (pss_one (ps_ret pe_bl)) pss_nil)
      (pss_cons (us_if (PW.pt (uw_or (ut_cmp (o_ne hr.units) (pe_callB (q_isi (K := K)) rfl (b_isinstance T) (by decide +kernel) (pa_cons (uv 0) (pa_cons (pe_bltn (v := .ty "tuple") rfl (b_tuple T) (by decide +kernel) rfl) pa_nil))) (pe_callB (q_isi (K := K)) rfl (b_isinstance T) (by decide +kernel) (pa_cons (uv 1) (pa_cons (pe_bltn (v := .ty "tuple") rfl (b_tuple T) (by decide +kernel) rfl) pa_nil))) (nomark _)) (pw_or1 (ut_cmp (o_ne hr.units) (pe_callB (q_len (K := K)) rfl (b_len T) (by decide +kernel) (pa_cons (uv 0) pa_nil)) (pe_callB (q_len (K := K)) rfl (b_len T) (by decide +kernel) (pa_cons (uv 1) pa_nil)) (nomark _))))) (pss_one (ps_ret pe_bl)) pss_nil)
      (pss_one (ps_ret (pe_callB (q_all (K := K)) rfl (b_all T) (by decide +kernel) (pa_cons (ue_lc (own := [("_law_one", 3), ("_law_other", 4)]) rfl sc_law_same.nd (j_zip (b_zip T) (pa_cons (uv 0) (pa_cons (uv 1) pa_nil))) rfl (fun _ _ _ _ _ => (q_tup (K := K) (n := 2) rfl (hg_cons (pg_name (i := 3) sc_law_same.nd rfl (by first | exact Or.inl rfl | exact Or.inr rfl)) (hg_cons (pg_name (i := 4) sc_law_same.nd rfl (by first | exact Or.inl rfl | exact Or.inr rfl)) hg_nil)))) (fun _ _ _ _ _ => pts_nil) (fun _ _ _ _ _ => (u_call c0 hr (Nat.le_refl _) (pa_cons (uv 3) (pa_cons (uv 4) pa_nil))))) pa_nil)))))) pss_nil)
      (pss_cons (us_if (ut_val (pe_callB (q_isi (K := K)) rfl (b_isinstance T) (by decide +kernel) (pa_cons (uv 1) (pa_cons (pe_bltn (v := .ty "str") rfl (b_str T) (by decide +kernel) rfl) pa_nil)))) (pss_one (ps_ret (ue_and (pe_callB (q_isi (K := K)) rfl (b_isinstance T) (by decide +kernel) (pa_cons (uv 0) (pa_cons (pe_bltn (v := .ty "str") rfl (b_str T) (by decide +kernel) rfl) pa_nil))) (pe_one (pe_cmpR (o_eq hr.units) (uv 0) (uv 1) (nomark _)))))) pss_nil)
      (pss_one (ps_ret (ue_and (pe_callB (q_isi (K := K)) rfl (b_isinstance T) (by decide +kernel) (pa_cons (uv 0) (pa_cons (pe_bltn (v := .ty "int") rfl (b_int T) (by decide +kernel) rfl) pa_nil))) (ue_and (ue_not (pe_callB (q_isi (K := K)) rfl (b_isinstance T) (by decide +kernel) (pa_cons (uv 0) (pa_cons (pe_bltn (v := .ty "bool") rfl (b_bool T) (by decide +kernel) rfl) pa_nil)))) (pe_one (pe_cmpR (o_eq hr.units) (uv 0) (uv 1) (nomark _)))))))))))
    , ?body⟩)
  case len => unfold sp_law_same at h; (split at h) <;> first | rfl | exact h.elim
  case body =>
    unfold sp_law_same at h
    split at h
    · rename_i x y
      obtain ⟨hv, h⟩ := h
      have hf := h H (Same.refl _)
      cases hv with
      | non => exact ⟨fun _ => hf, fun c => absurd c (by decide)⟩
      | int _ i =>
        refine ⟨fun c => absurd c (by simp), fun _ => ?_⟩
        refine ⟨_, _, .base (.int _), rfl, ⟨fun c => absurd c (by decide), fun _ => ?_⟩⟩
        refine ⟨_, _, .base (.int _), rfl, ⟨fun c => absurd c (by decide), fun _ => ?_⟩⟩
        refine ⟨_, _, .base (.int _), rfl, ⟨fun c => absurd c (by decide), fun _ => ?_⟩⟩
        refine ⟨_, _, .base (.int _), rfl, ⟨fun c => absurd c (by decide), fun _ => ?_⟩⟩
        refine ⟨_, _, .base (.int _), rfl, ⟨fun _ => ⟨_, _, .base (.int _), rfl, ⟨fun _ => ⟨rfl, ?_⟩, fun c => absurd c (by decide)⟩⟩, fun c => absurd c (by decide)⟩⟩
        simpa using hf
      | str _ z =>
        refine ⟨fun c => absurd c (by simp), fun _ => ?_⟩
        refine ⟨_, _, .base (.str _), rfl, ⟨fun c => absurd c (by decide), fun _ => ?_⟩⟩
        refine ⟨_, _, .base (.str _), rfl, ⟨fun c => absurd c (by decide), fun _ => ?_⟩⟩
        refine ⟨_, _, .base (.str _), rfl, ⟨fun c => absurd c (by decide), fun _ => ?_⟩⟩
        refine ⟨_, _, .base (.str _), rfl, ⟨fun _ => ?_, fun c => absurd c (by decide)⟩⟩
        refine ⟨_, _, .base (.str _), rfl, ⟨fun _ => ⟨rfl, ?_⟩, fun c => absurd c (by decide)⟩⟩
        simpa using hf
      | lst ha hb hl h0 hx =>
        rename_i n a b xs ys
        refine ⟨fun c => absurd c (by simp), fun _ => ?_⟩
        refine ⟨_, _, .base (.lst hb), rfl, ⟨fun c => absurd c (by decide), fun _ => ?_⟩⟩
        refine ⟨_, _, .base (.lst hb), rfl, ⟨fun _ => ⟨fun _ => ?_, fun c => absurd c (by decide)⟩, fun c => absurd c (by decide)⟩⟩
        refine ⟨_, _, .base (.lst ha), rfl, _, _, .base (.lst hb), rfl, rfl, ⟨fun c => absurd c (by decide), fun _ => ?_⟩⟩
        refine ⟨_, _, .base (.lst ha), rfl, _, _, .base (.lst hb), rfl, rfl, ⟨fun c => absurd c (by decide), fun _ => ?_⟩⟩
        refine ⟨_, .inl (SqL.of ha), _, .inl (SqL.of hb), rfl, ⟨fun c => absurd c (by simp [hl]), fun _ => ?_⟩⟩
        refine ⟨xs, ys, .inl ⟨SqL.of ha, SqL.of hb, fun D hD => ?_⟩⟩
        refine LcGoes.by .zip hD (fun i acc H' => acc = (List.replicate i true).map V.bl) rfl (fun i acc H' _ s' _ _ => ⟨SqL.of (s' _ _ ha), SqL.of (s' _ _ hb)⟩) ?_ ?_
        · rintro i _ v H3 _ hi hac s3 d3 rfl ⟨t, u, z, rfl, ht, rfl, hu, hz⟩
          have s4 : Same H (upd H3 t (.tup [u, z])) := same_new (s3.free ht) s3
          refine ⟨_, SqT.of upd_same, rfl, rfl, ⟨fun _ => hs n rfl u z _ _ (SameV.same s4 (hx i u z hu hz)) (fun H5 s5 => ?_), (nomatch ·)⟩⟩
          have htD : t ≠ D := fun z => by rw [z, d3] at ht; cases ht
          refine LcP.put hD (by rw [sizeLine_eq]; omega) hac (s4.trans s5) (s5 _ _ ((upd_ne (Ne.symm htD)).trans d3)) ?_
          simp [List.replicate_succ']
        · rintro _ H3 hac s3 d3 rfl
          refine ⟨_, SqL.of d3, ?_⟩
          rw [List.all_eq_true.mpr (fun b hb => by rw [List.eq_of_mem_replicate hb]; rfl)]
          exact h _ s3
      | tup ha hb hl h0 hx =>
        rename_i n a b xs ys
        refine ⟨fun c => absurd c (by simp), fun _ => ?_⟩
        refine ⟨_, _, .base (.tup hb), rfl, ⟨fun c => absurd c (by decide), fun _ => ?_⟩⟩
        refine ⟨_, _, .base (.tup hb), rfl, ⟨fun c => absurd c (by decide), fun _ => ?_⟩⟩
        refine ⟨_, _, .base (.tup hb), rfl, ⟨fun _ => ?_, fun c => absurd c (by decide)⟩⟩
        refine ⟨_, _, .base (.tup ha), rfl, _, _, .base (.tup hb), rfl, rfl, ⟨fun c => absurd c (by decide), fun _ => ?_⟩⟩
        refine ⟨_, _, .base (.tup ha), rfl, _, _, .base (.tup hb), rfl, rfl, ⟨fun c => absurd c (by decide), fun _ => ?_⟩⟩
        refine ⟨_, .inr (SqT.of ha), _, .inr (SqT.of hb), rfl, ⟨fun c => absurd c (by simp [hl]), fun _ => ?_⟩⟩
        refine ⟨xs, ys, .inr ⟨SqT.of ha, SqT.of hb, fun D hD => ?_⟩⟩
        refine LcGoes.by .zipT hD (fun i acc H' => acc = (List.replicate i true).map V.bl) rfl (fun i acc H' _ s' _ _ => ⟨SqT.of (s' _ _ ha), SqT.of (s' _ _ hb)⟩) ?_ ?_
        · rintro i _ v H3 _ hi hac s3 d3 rfl ⟨t, u, z, rfl, ht, rfl, hu, hz⟩
          have s4 : Same H (upd H3 t (.tup [u, z])) := same_new (s3.free ht) s3
          refine ⟨_, SqT.of upd_same, rfl, rfl, ⟨fun _ => hs n rfl u z _ _ (SameV.same s4 (hx i u z hu hz)) (fun H5 s5 => ?_), (nomatch ·)⟩⟩
          have htD : t ≠ D := fun z => by rw [z, d3] at ht; cases ht
          refine LcP.put hD (by rw [sizeLine_eq]; omega) hac (s4.trans s5) (s5 _ _ ((upd_ne (Ne.symm htD)).trans d3)) ?_
          simp [List.replicate_succ']
        · rintro _ H3 hac s3 d3 rfl
          refine ⟨_, SqL.of d3, ?_⟩
          rw [List.all_eq_true.mpr (fun b hb => by rw [List.eq_of_mem_replicate hb]; rfl)]
          exact h _ s3
    · exact h.elim
theorem no_law_same (T : Txt K mg) : Cal P w K mg base 1 "_law_same" (sp_no K) := by
  obtain ⟨fd, F⟩ := D_law_same T
  exact cal_mk (g_law_same T) F sc_law_same (fun _ _ _ _ _ _ us hl => match us, hl with | [_, _], _ => rfl) (fun vs H Q E h => h.elim) (fun cdv A outer s H vs Q E hr h => h.elim)
theorem ok_law_same (T : Txt K mg) : ∀ n, Cal P w K mg base (n + 2) "_law_same" (sp_law_same n K)
  | 0 => step_law_same T 1 0 sp_no (no_law_same T) (fun n e => nomatch e)
  | n + 1 => step_law_same T (n + 2) (n + 1) (sp_law_same n) (ok_law_same T n) (fun m e x y H Q h q => by
      cases e
      exact ⟨h, q⟩)
end
end K90
namespace K90
open PySem PySem.Spec PyProof.Rows L2 RT RZ
theorem exm_bad {K : PySem.W.Frag} {mg : Str → Option Value} (T : Txt K mg) : PySem.W.exmOne K (.ref (CB K)) (.ref (CB K)) = some true := by
  have O := (bad_txt T).oex
  obtain ⟨nm, q, N, bs, bm, sn, sub, ab, col, dd, k0, k1, k2, k3, k5, e, _⟩ := O.cls
  have hc : ∃ cd, PySem.W.clsIn K (CB K) = some cd ∧ cd.mro = .ref (CB K) :: bm := by
    unfold PySem.W.clsIn
    rw [e]
    exact ⟨_, rfl, rfl⟩
  obtain ⟨cd, hc, hm⟩ := hc
  have h3 : PySem.W.mroIn K (CB K) (.ref (CB K)) = some true := by
    unfold PySem.W.mroIn
    rw [hc]
    show (if cd.mro.isEmpty = true then none else some (cd.mro.contains (.ref (CB K)))) = _
    rw [hm]
    simp
  unfold PySem.W.exmOne
  rw [if_pos (by rw [O.exC]; rfl)]
  show (if ((PySem.W.clsIn K (CB K)).isSome && PySem.W.typeIn K (.ref (CB K)) == some (.type "type")) = true then PySem.W.subIn K (.ref (CB K)) (.ref (CB K)) else none) = _
  rw [if_pos (by rw [hc, O.tyC]; simp)]
  exact h3
section
variable {P : Program} {w : World} {K : PySem.W.Frag} {mg : Str → Option Value} {base : Heap}
def sp_law_read (K : PySem.W.Frag) : Sp := fun vs H Q E => match vs with
  | [.ref r] => ∃ bs : List Int, NN bs ∧ RowAt H r bs ∧ ok (unpressed bs) (fun cs => NewCs H cs Q) (∀ H', Same H H' → Q .non H')
  | _ => False
theorem sc_law_read : FnScope ["_law_row", "_law_cells_here"] ["_law_row"] (defScope s_law_read) := ⟨rfl, rfl, rfl, by decide +kernel, rfl, by decide +kernel, by decide +kernel⟩
theorem ok_law_read (T : Txt K mg) : Cal P w K mg base 13 "_law_read" (sp_law_read K) := by
  obtain ⟨fd, F⟩ := D_law_read T
  refine cal_mk (g_law_read T) F sc_law_read (fun _ _ _ _ _ _ us hl => match us, hl with | [_], _ => rfl) (fun vs H Q E h => ?len) (fun cdv A outer s H vs Q E hr h => ⟨_, (pss_cons (us_try T (takes_of rfl rfl rfl rfl) (fun W pn xe tk _ => (pss_one (ps_set (i := 1) sc_law_read.nd rfl (by first | exact Or.inl rfl | exact Or.inr rfl) (u_callX (ok_unpressed T) tk hr (by decide) (pa_cons (uv 0) pa_nil))))) (fun a oe cls d pn _ _ => (pss_one (ps_set (i := 1) sc_law_read.nd rfl (by first | exact Or.inl rfl | exact Or.inr rfl) pe_non))))
      (pss_one (ps_ret (uv 1)))), ?body⟩)
  case len => unfold sp_law_read at h; (split at h) <;> first | rfl | exact h.elim
  case body =>
    unfold sp_law_read at h
    split at h
    · rename_i r
      obtain ⟨bs, hnn, hR, h⟩ := h
      refine ⟨bs, hnn, hR, ok_imp h (fun cs e hc => fun H1 p s1 hp d1 => hc H1 p s1 hp d1) fun hr => ?_⟩
      intro d H1 s1
      exact ⟨true, exm_bad T, fun _ a ha => hr _ s1, (nomatch ·)⟩
    · exact h.elim
end
end K90
/-! The rows' bytes are from nought on. -/
namespace K90
open PySem PySem.Spec PyProof.Rows L2 RT RZ
theorem nn_app {l m : List Int} (h : NN l) (g : NN m) : NN (l ++ m) := fun b hb => (List.mem_append.mp hb).elim (h b) (g b)
theorem nn_cons {x : Int} {l : List Int} (hx : 0 ≤ x) (h : NN l) : NN (x :: l) := fun b hb => by
  rcases List.mem_cons.mp hb with rfl | hb
  · exact hx
  · exact h b hb
theorem nn_nil : NN [] := fun _ h => nomatch h
theorem nn_flat {ls : List (List Int)} (h : ∀ l ∈ ls, NN l) : NN ls.flatten := fun b hb => by
  obtain ⟨l, hl, hb⟩ := List.mem_flatten.mp hb
  exact h l hl b hb
theorem digs_nn (z : Nat) : NN (digs z) := by
  induction z using Nat.strongRecOn with
  | _ z ih =>
    rw [digs]
    split
    · exact nn_cons (by omega) nn_nil
    · exact nn_cons (by omega) (ih _ (by omega))
theorem number_nn (n : Int) : NN (numberBytes n) := digs_nn _
theorem cell_nn (c : Cell) : NN (cellBytes c) := by
  cases c with
  | non => exact nn_cons (by decide) nn_nil
  | int i => exact nn_cons (by decide) (number_nn i)
  | str l =>
    refine nn_cons (by decide) (nn_app (number_nn _) fun b hb => ?_)
    obtain ⟨c, _, rfl⟩ := List.mem_map.mp hb
    omega
theorem cells_nn (cs : List Cell) : NN (cellsBytes cs) := nn_flat fun l hl => by
  obtain ⟨c, _, rfl⟩ := List.mem_map.mp hl
  exact cell_nn c
theorem bytesOf_nn : ∀ (n : Nat) (r : Int), NN (bytesOf n r)
  | 0, _ => nn_nil
  | n + 1, r => nn_cons (Int.emod_nonneg _ (by decide)) (bytesOf_nn n _)
theorem runs_nn (rs : List (Cell × Nat)) : NN (runsBytes rs) := nn_flat fun l hl => by
  obtain ⟨c, _, rfl⟩ := List.mem_map.mp hl
  exact nn_app (cell_nn _) (number_nn _)
theorem small_nn (ns : List Int) : NN (smallBytes ns) := nn_cons (by omega) (bytesOf_nn _ _)
theorem pressBy_nn {way : Nat} {cs : List Cell} {bs : List Int} (h : pressBy way cs = some bs) : NN bs := by
  have hh : ∀ body, NN body → NN ((way : Int) :: numberBytes cs.length ++ body) := fun body hb => nn_app (nn_cons (by omega) (number_nn _)) hb
  unfold pressBy at h
  split at h
  · cases h
    exact hh _ (cells_nn cs)
  · split at h
    · cases h
      exact hh _ (nn_app (number_nn _) (runs_nn _))
    · split at h
      · cases h
        exact hh _ (nn_app (nn_app (number_nn _) (cells_nn _)) (bytesOf_nn _ _))
      · split at h
        · split at h
          · cases h
            exact hh _ (nn_app (number_nn _) (small_nn _))
          · cases h
            exact hh _ (nn_app (nn_app (number_nn _) (number_nn _)) (small_nn _))
        · cases h
theorem pressed_nn (cs : List Cell) : NN (pressed cs) := by
  obtain ⟨way, _, h⟩ := pressed_way cs
  exact pressBy_nn h
theorem heap_nn (kinds : List Bool) (long : Nat) (es : List Entry) : NN (heapBytes kinds long es) := by
  refine nn_app ?_ (bytesOf_nn _ _)
  rw [heapBody_eq]
  refine nn_app ?_ (nn_flat fun l hl => ?_)
  · refine nn_app (nn_app (nn_cons (by decide) (number_nn _)) fun b hb => ?_) (nn_cons (by omega) (number_nn _))
    obtain ⟨t, _, rfl⟩ := List.mem_map.mp hb
    cases t <;> decide
  · obtain ⟨cs, _, rfl⟩ := List.mem_map.mp hl
    rw [rowPart_eq]
    refine nn_flat fun l hl => ?_
    obtain ⟨c, _, rfl⟩ := List.mem_map.mp hl
    exact nn_app (number_nn _) (pressed_nn c)
/-! ### the rows of a stretch -/
theorem pressBy_none {way : Nat} {cs : List Cell} : (pressBy way cs).isNone = (decide (3 ≤ way) && !allInt cs) := by
  unfold pressBy
  by_cases h0 : way = 0
  · subst h0; rfl
  · rw [if_neg h0]
    by_cases h1 : way = 1
    · subst h1; rfl
    · rw [if_neg h1]
      by_cases h2 : way = 2
      · subst h2; rfl
      · rw [if_neg h2]
        have h3 : 3 ≤ way := by omega
        cases ha : allInt cs with
        | true =>
          rw [if_pos rfl]
          split <;> simp
        | false => simp [h3]
theorem rows_any (cs : List Cell) : ((List.range 5).map fun way => pressBy way cs).any Option.isNone = !allInt cs := by
  rw [show List.range 5 = [0, 1, 2, 3, 4] from rfl]
  simp only [List.map_cons, List.map_nil, List.any_cons, List.any_nil, pressBy_none]
  cases allInt cs <;> rfl
theorem rows_any3 (cs : List Cell) : (((List.range 5).map fun way => pressBy way cs).take 3).any Option.isNone = false := by
  rw [show List.range 5 = [0, 1, 2, 3, 4] from rfl]
  simp only [List.map_cons, List.map_nil, List.take_succ_cons, List.take_zero, List.any_cons, List.any_nil, pressBy_none]
  rfl
theorem ORows.any {H : Hp} : ∀ {vs : List V} {os : List (Option (List Int))}, ORows H vs os → (vs.any fun v => decide (v = V.non)) = os.any Option.isNone
  | [], [], _ => rfl
  | v :: r, some bs :: q, ⟨⟨p, e, _⟩, h⟩ => by
    rw [List.any_cons, List.any_cons, ORows.any h, e]
    simp
  | v :: r, none :: q, ⟨e, h⟩ => by
    rw [List.any_cons, List.any_cons, ORows.any h, e]
    simp
  | [], _ :: _, h => h.elim
  | _ :: _, [], h => h.elim
theorem ORows.all {H : Hp} : ∀ {vs : List V} {os : List (Option (List Int))}, ORows H vs os → ∀ v ∈ vs, v = .non ∨ ∃ (q : Addr) (ns : List Int), v = .ref q ∧ H q = some (.lst (ns.map V.int))
  | [], [], _, v, hv => nomatch hv
  | v :: r, some bs :: q, ⟨⟨p, e, d⟩, h⟩, x, hx => by
    rcases List.mem_cons.mp hx with rfl | hx
    · exact .inr ⟨p, bs, e, d⟩
    · exact ORows.all h x hx
  | v :: r, none :: q, ⟨e, h⟩, x, hx => by
    rcases List.mem_cons.mp hx with rfl | hx
    · exact .inl e
    · exact ORows.all h x hx
  | [], _ :: _, h, _, _ => h.elim
  | _ :: _, [], h, _, _ => h.elim
theorem ORows.take {H : Hp} : ∀ {vs : List V} {os : List (Option (List Int))} (n : Nat), ORows H vs os → ORows H (vs.take n) (os.take n)
  | [], [], n, h => by simpa using h
  | v :: r, o :: q, 0, _ => trivial
  | v :: r, o :: q, n + 1, ⟨e, h⟩ => ⟨e, ORows.take n h⟩
  | [], _ :: _, _, h => h.elim
  | _ :: _, [], _, h => h.elim
theorem LRows.imp {H H' : Hp} : ∀ {vs : List Addr} {os : List (List Int)}, (∀ p ∈ vs, ∀ o, H p = some o → H' p = some o) → LRows H vs os → LRows H' vs os
  | [], [], _, _ => trivial
  | v :: r, o :: q, s, ⟨d, h⟩ => ⟨s v (by simp) _ d, LRows.imp (fun p hp => s p (by simp [hp])) h⟩
  | [], _ :: _, _, h => h.elim
  | _ :: _, [], _, h => h.elim
theorem kin_onekind {t : Bool} {cs : List Cell} (h : ∀ x ∈ cs, Kin t x) : OneKind cs := by
  cases t with
  | false =>
    refine .inl fun c hc => ?_
    rcases h c hc with rfl | h
    · exact .inl rfl
    · obtain ⟨i, rfl, _⟩ := h.isInt
      exact .inr rfl
  | true =>
    refine .inr fun c hc => ?_
    rcases h c hc with rfl | h
    · exact .inl rfl
    · obtain ⟨l, rfl, _⟩ := h.isStr
      exact .inr ⟨l, rfl⟩
theorem kin_good {t : Bool} {cs : List Cell} (h : ∀ x ∈ cs, Kin t x) (h1 : 0 < cs.length) (h2 : cs.length ≤ 64) : Good cs := ⟨h1, h2, fun c hc => (h c hc).fit⟩
theorem kin_stretch {t : Bool} {cs : List Cell} (h : ∀ x ∈ cs, Kin t x) : isStretch cs = true := stretch_of (kin_onekind h) fun c hc => (h c hc).fit
end K90
namespace K90
open PySem PySem.Spec PyProof.Rows L2 RT RZ
theorem SameV.cv {H : Hp} (n : Nat) (c : Cell) : SameV H n (cv c) (K90.cv c) := by
  cases c with
  | non => exact .non n
  | int i => exact .int n i
  | str l => exact .str n _
theorem SameV.cells {H : Hp} {n : Nat} {a b : Addr} {cs : List Cell} (ha : H a = some (.lst (cs.map K90.cv))) (hb : H b = some (.lst (cs.map K90.cv))) (hl : cs.length ≤ 100000) : SameV H (n + 1) (.ref a) (.ref b) :=
  .lst ha hb rfl (by rw [List.length_map]; exact hl) fun i x y hx hy => by
    rw [hx] at hy
    cases hy
    rw [List.getElem?_map] at hx
    cases e : cs[i]? with
    | none =>
      rw [e] at hx
      cases hx
    | some c =>
      rw [e] at hx
      cases hx
      exact .cv n c
def isStrC : Cell → Bool
  | .str _ => true
  | _ => false
theorem kin_any {t : Bool} {cs : List Cell} (h : ∀ x ∈ cs, Kin t x) : ∀ x ∈ cs, Kin (cs.any isStrC) x := fun x hx => by
  rcases h x hx with rfl | hk
  · exact .inl rfl
  · right
    cases t with
    | false =>
      have e : cs.any isStrC = false := by
        rw [List.any_eq_false]
        intro y hy
        rcases h y hy with rfl | hy
        · exact Bool.false_ne_true
        · obtain ⟨i, rfl, _⟩ := hy.isInt
          exact Bool.false_ne_true
      rw [e]
      exact hk
    | true =>
      have e : cs.any isStrC = true := by
        obtain ⟨l, rfl, _⟩ := hk.isStr
        exact List.any_eq_true.mpr ⟨_, hx, rfl⟩
      rw [e]
      exact hk
theorem head_byte {bs : List Int} (h0 : NN bs) {way m n : Nat} (h : takeHead bs = some (way, m, n)) : ∃ b : Int, bs[0]? = some b ∧ b = ((way : Nat) : Int) := by
  cases bs with
  | nil => cases h
  | cons b r =>
    have hb := h0 b (by simp)
    have h : (if 4 < b then none else (takeCount 64 r).map fun x => (b.toNat, x.1, 1 + x.2)) = some (way, m, n) := h
    split at h
    · cases h
    · rw [Option.map_eq_some_iff] at h
      obtain ⟨x, _, e⟩ := h
      have e1 := congrArg Prod.fst e
      refine ⟨b, rfl, ?_⟩
      dsimp only at e1
      omega
section
variable {P : Program} {w : World} {K : PySem.W.Frag} {mg : Str → Option Value} {base : Heap}
def sp_law_one_row (K : PySem.W.Frag) : Sp := fun vs H Q E => match vs with
  | [.ref d, .ref l, .ref r] => ∃ c n t way, ∃ (cs : List Cell) (bs : List Int), way ≤ 4 ∧ pressBy way cs = some bs ∧ NN bs ∧ Good cs ∧ (∀ x ∈ cs, Kin t x) ∧ unpressed bs = some cs ∧ vw d c H l = some (.lst (cs.map cv)) ∧ vw d c H r = some (.lst (bs.map V.int)) ∧ St d c (n + 500) H ∧ Dr d c n H (Q (.bl true))
  | _ => False
theorem sc_law_one_row : FnScope ["_law_state", "_law_cells_here", "_law_row", "_law_kept", "_law_test_here", "_law_turn", "_law_bent_here", "_law_told", "_law_cell"] ["_law_state", "_law_cells_here", "_law_row"] (defScope s_law_one_row) := ⟨rfl, rfl, rfl, by decide +kernel, rfl, by decide +kernel, by decide +kernel⟩
theorem ok_law_one_row (T : Txt K mg) : Cal P w K mg base 14 "_law_one_row" (sp_law_one_row K) := by
  obtain ⟨fd, F⟩ := D_law_one_row T
  refine cal_mk (g_law_one_row T) F sc_law_one_row (fun _ _ _ _ _ _ us hl => match us, hl with | [_, _, _], _ => rfl) (fun vs H Q E h => ?len) (fun cdv A outer s H vs Q E hr h => ⟨_, (pss_cons (ps_set (i := 3) sc_law_one_row.nd rfl (by first | exact Or.inl rfl | exact Or.inr rfl) (pe_callTy (q_list (K := K)) rfl (b_list T) (by decide +kernel) (pa_cons (uv 2) pa_nil)))
      (pss_cons (us_if (PW.pt (uw_or (pt_not (ut_val (u_call (ok_law_same T 4) hr (by decide) (pa_cons (u_call (ok_unpressed T) hr (by decide) (pa_cons (uv 2) pa_nil)) (pa_cons (uv 1) pa_nil))))) (uw_or (pt_not (ut_val (u_call (ok_law_same T 4) hr (by decide) (pa_cons (u_call (ok_unpressed T) hr (by decide) (pa_cons (pe_callTy (q_tuple (K := K)) rfl (b_tuple T) (by decide +kernel) (pa_cons (uv 2) pa_nil)) pa_nil)) (pa_cons (uv 1) pa_nil))))) (pw_or1 (ut_cmp (o_ne hr.units) (uv 2) (uv 3) (nomark _)))))) (pss_one (ps_ret pe_bl)) pss_nil)
      (pss_cons (us_if (pt_not (ut_val (u_call (ok_law_same T 4) hr (by decide) (pa_cons (pe_lst (pa_cons (u_call (ok_count_in T) hr (by decide) (pa_cons (uv 2) pa_nil)) (pa_cons (u_call (ok_cell_in T) hr (by decide) (pa_cons (uv 2) (pa_cons (pe_op o_sub (pe_callB (q_len (K := K)) rfl (b_len T) (by decide +kernel) (pa_cons (uv 1) pa_nil)) pe_int) pa_nil))) (pa_cons (u_call (ok_cell_in T) hr (by decide) (pa_cons (uv 2) (pa_cons pe_int pa_nil))) pa_nil)))) (pa_cons (pe_lst (pa_cons (pe_callB (q_len (K := K)) rfl (b_len T) (by decide +kernel) (pa_cons (uv 1) pa_nil)) (pa_cons (pe_ix (q_seq (K := K)) (uv 1) (pe_un o_neg pe_int) (fun _ _ => rfl)) (pa_cons (pe_ix (q_seq (K := K)) (uv 1) pe_int (fun _ _ => rfl)) pa_nil)))) pa_nil))))) (pss_one (ps_ret pe_bl)) pss_nil)
      (pss_cons (ps_set (i := 4) sc_law_one_row.nd rfl (by first | exact Or.inl rfl | exact Or.inr rfl) (u_call (ok_law_test T) hr (by decide) (pa_cons (uv 0) (pa_cons (pe_ix (q_seq (K := K)) (pe_lst (pa_cons pe_str (pa_cons pe_str pa_nil))) (pe_callTy c_int rfl (b_int T) (by decide +kernel) (pa_cons (pe_callB (q_any (K := K)) rfl (b_any T) (by decide +kernel) (pa_cons (ue_lc (own := [("_law_cell", 8)]) rfl sc_law_one_row.nd (j_list (uv 1)) rfl (fun _ _ _ _ _ => (pg_name (i := 8) sc_law_one_row.nd rfl (by first | exact Or.inl rfl | exact Or.inr rfl))) (fun _ _ _ _ _ => pts_nil) (fun _ _ _ _ _ => (pe_callB (q_isi (K := K)) rfl (b_isinstance T) (by decide +kernel) (pa_cons (uv 8) (pa_cons (pe_bltn (v := .ty "str") rfl (b_str T) (by decide +kernel) rfl) pa_nil))))) pa_nil)) pa_nil)) (fun _ _ => rfl)) (pa_cons (uv 1) pa_nil)))))
      (pss_cons (us_if (ut_cmp (o_ne hr.units) (pe_ix (q_seq (K := K)) (u_call (ok_kept_in T) hr (by decide) (pa_cons (uv 2) (pa_cons (uv 4) pa_nil))) pe_int (fun _ _ => rfl)) (ue_lc (own := [("_law_cell", 8)]) rfl sc_law_one_row.nd (j_list (uv 1)) rfl (fun _ _ _ _ _ => (pg_name (i := 8) sc_law_one_row.nd rfl (by first | exact Or.inl rfl | exact Or.inr rfl))) (fun _ _ _ _ _ => pts_nil) (fun _ _ _ _ _ => (pe_callTy c_int rfl (b_int T) (by decide +kernel) (pa_cons (u_call (ok_meets T) hr (by decide) (pa_cons (uv 8) (pa_cons (uv 4) pa_nil))) pa_nil)))) (nomark _)) (pss_one (ps_ret pe_bl)) pss_nil)
      (pss_cons (us_for (passes_of rfl) rfl (j_rng (b_range T) (pa_cons pe_int pa_nil)) (pg_name (i := 5) sc_law_one_row.nd rfl (by first | exact Or.inl rfl | exact Or.inr rfl)) (pss_cons (ps_set (i := 6) sc_law_one_row.nd rfl (by first | exact Or.inl rfl | exact Or.inr rfl) (u_call (ok_law_bent T) hr (by decide) (pa_cons (uv 0) (pa_cons (uv 2) pa_nil))))
      (pss_cons (ps_set (i := 7) sc_law_one_row.nd rfl (by first | exact Or.inl rfl | exact Or.inr rfl) (u_call (ok_law_read T) hr (by decide) (pa_cons (uv 6) pa_nil)))
      (pss_one (us_if (PW.pt (uw_and (ut_cmp o_isnot (uv 7) pe_non (nomark _)) (pw_and1 (PW.pt (uw_or (ut_cmp (o_eq hr.units) (pe_callB (q_len (K := K)) rfl (b_len T) (by decide +kernel) (pa_cons (uv 7) pa_nil)) pe_int (nomark _)) (pw_or1 (ut_cmp (o_ne hr.units) (u_call (ok_press_by T) hr (by decide) (pa_cons (pe_ix (q_seq (K := K)) (uv 6) pe_int (fun _ _ => rfl)) (pa_cons (uv 7) pa_nil))) (uv 6) (nomark _)))))))) (pss_one (ps_ret pe_bl)) pss_nil)))))
      (pss_one (ps_ret (pe_cmpR (o_eq hr.units) (uv 2) (uv 3) (nomark _)))))))))), ?body⟩)
  case len => unfold sp_law_one_row at h; (split at h) <;> first | rfl | exact h.elim
  case body =>
    unfold sp_law_one_row at h
    split at h
    · rename_i d l r
      obtain ⟨c, n, t, way, cs, bs, hw, hp, hnn, hg, hk, hu, hl, hr, hst, h⟩ := h
      have gl := hg.len
      have gp := hg.pos
      have hbl := pressBy_len hg hp
      have b0 : Bun d c H [(l, .lst (cs.map cv)), (r, .lst (bs.map V.int))] (n + 500) H := ((Bun.start hst).add hr).add hl
      refine ⟨_, .inl (SqL.of b0.hd2), fun pk hpk => ?_⟩
      have b1 := b0.new hpk (o := .lst (bs.map V.int))
      dsimp only [gName]
      have key : ∀ {m : Nat} {H2 H3 : Hp}, Bun d c H [(pk, .lst (bs.map V.int)), (l, .lst (cs.map cv)), (r, .lst (bs.map V.int))] m H2 → Same H2 H3 → Bun d c H [(pk, .lst (bs.map V.int)), (l, .lst (cs.map cv)), (r, .lst (bs.map V.int))] m H3 := fun b s => b.keep s
      refine seq_par (fun σ H' => σ = [some (.ref d), some (.ref l), some (.ref r), some (.ref pk), none, none, none, none, none] ∧ Bun d c H [(pk, .lst (bs.map V.int)), (l, .lst (cs.map cv)), (r, .lst (bs.map V.int))] (n + 500) H') (fun N hN => ?_) ?_
      · refine if_par (fun k H' => k = false ∧ Bun d c H [(pk, .lst (bs.map V.int)), (l, .lst (cs.map cv)), (r, .lst (bs.map V.int))] (n + 500) H') (fun Q' hQ => ?_) (fun H' hb => nomatch hb.1) (fun H2 hb => hN _ _ ⟨rfl, hb.2⟩)
        refine ⟨bs, hnn, .inl b1.hd3, ?_⟩
        rw [hu]
        intro H2 q2 s2 hq2 d2
        have b2 := b1.keep s2
        refine ⟨SameV.cells d2 b2.hd2 (by omega), fun H3 s3 => ?_⟩
        have b3 := b2.keep s3
        refine ⟨fun c => absurd c (by decide), fun _ => ?_⟩
        refine ⟨_, SqL.of b3.hd3, fun p4 hp4 => ?_⟩
        have b4 := b3.keep (same_new (o := .tup (bs.map V.int)) hp4 (Same.refl _))
        refine ⟨bs, hnn, .inr upd_same, ?_⟩
        rw [hu]
        intro H5 q5 s5 hq5 d5
        have b5 := b4.keep s5
        refine ⟨SameV.cells d5 b5.hd2 (by omega), fun H6 s6 => ?_⟩
        have b6 := b5.keep s6
        refine ⟨fun c => absurd c (by decide), fun _ => ?_⟩
        refine ⟨_, _, b6.hd3, b6.hd, hQ _ _ ⟨by simp, b6⟩⟩
      · rintro _ H2 ⟨rfl, b2⟩
        refine seq_par (fun σ H' => σ = [some (.ref d), some (.ref l), some (.ref r), some (.ref pk), none, none, none, none, none] ∧ Bun d c H [(pk, .lst (bs.map V.int)), (l, .lst (cs.map cv)), (r, .lst (bs.map V.int))] (n + 500) H') (fun N hN => ?_) ?_
        · refine if_par (fun k H' => k = false ∧ Bun d c H [(pk, .lst (bs.map V.int)), (l, .lst (cs.map cv)), (r, .lst (bs.map V.int))] (n + 500) H') (fun Q' hQ => ?_) (fun H' hb => nomatch hb.1) (fun H2 hb => hN _ _ ⟨rfl, hb.2⟩)
          obtain ⟨x0, hx0⟩ := get_lt (l := cs) (i := 0) (by omega)
          obtain ⟨x1, hx1⟩ := get_lt (l := cs) (i := cs.length - 1) (by omega)
          have el : atI (cs.map cv) (-1) = some (cv x1) := by
            have hne : cs ≠ [] := fun e => by rw [e] at gp; simp at gp
            have e1 := List.dropLast_concat_getLast hne
            have e2 : cs.getLast hne = x1 := by
              rw [List.getLast_eq_getElem]
              rw [List.getElem?_eq_getElem (by omega)] at hx1
              injection hx1
            conv => lhs; rw [← e1]
            rw [List.map_append, e2]
            exact atLast
          have e0 : atI (cs.map cv) 0 = some (cv x0) := atN (n := 0) (by rw [List.getElem?_map, hx0]; rfl)
          refine ⟨bs, cs, hnn, .inl b2.hd3, hu, fun H3 s3 => ?_⟩
          have b3 := b2.keep s3
          refine ⟨_, .inl (SqL.of b3.hd2), bs, cs, cs.length - 1, x1, by rw [List.length_map]; omega, hx1, hnn, .inl b3.hd3, hu, fun H4 s4 => ?_⟩
          have b4 := b3.keep s4
          refine ⟨bs, cs, 0, x0, rfl, hx0, hnn, .inl b4.hd3, hu, fun H5 s5 => ?_⟩
          have b5 := b4.keep s5
          refine ⟨len3, fun p6 hp6 => ?_⟩
          have s6 : Same H5 (upd H5 p6 (.lst [V.int (cs.length : Nat), cv x1, cv x0])) := same_new hp6 (Same.refl _)
          have d6 := upd_same (H := H5) (a := p6) (o := .lst [V.int (cs.length : Nat), cv x1, cv x0])
          have b6 := b5.keep s6
          generalize upd H5 p6 (.lst [V.int (cs.length : Nat), cv x1, cv x0]) = H6 at *
          refine ⟨_, .inl (SqL.of b6.hd2), _, _, .inl (SqL.of b6.hd2), el, _, _, .inl (SqL.of b6.hd2), e0, len3, fun p7 hp7 => ?_⟩
          rw [List.length_map]
          have s7 : Same H6 (upd H6 p7 (.lst [V.int (cs.length : Nat), cv x1, cv x0])) := same_new hp7 (Same.refl _)
          have d7 := upd_same (H := H6) (a := p7) (o := .lst [V.int (cs.length : Nat), cv x1, cv x0])
          have b7 := b6.keep s7
          have d67 := s7 _ _ d6
          generalize upd H6 p7 (.lst [V.int (cs.length : Nat), cv x1, cv x0]) = H7 at *
          refine ⟨.lst d67 d7 rfl (by simp) (fun i x y hx hy => ?_), fun H8 s8 => hQ _ _ ⟨rfl, b7.keep s8⟩⟩
          rw [hx] at hy
          cases hy
          match i, hx with
          | 0, hx => cases hx; exact .int 3 _
          | 1, hx => cases hx; exact .cv 3 _
          | 2, hx => cases hx; exact .cv 3 _
          | i + 3, hx => simp at hx
        · rintro _ H3 ⟨rfl, b3⟩
          refine ⟨len2, fun pn hpn => ?_⟩
          have b4 := b3.new hpn (o := .lst [V.str "number", V.str "text"])
          refine ⟨⟨_, SqL.of b4.hd3⟩, fun D hD => ?_⟩
          refine LcGoes.by (.list (xs := cs.map cv)) hD (fun i acc H' => acc = ((cs.take i).map isStrC).map V.bl) rfl (fun i acc H' _ s' _ _ => SqL.of (s' _ _ b4.hd3)) ?_ ?_
          · rintro i _ v H5 _ hi ha s5 d5 rfl ⟨hv, rfl⟩
            rw [List.length_map] at hi
            obtain ⟨x, hx⟩ := get_lt hi
            rw [List.getElem?_map, hx] at hv
            cases hv
            have fin : LcPut D (LcP _ D (fun i acc H' => acc = ((cs.take i).map isStrC).map V.bl) (i + 1)) (.bl (isStrC x)) H5 := LcP.put hD (by rw [sizeLine_eq]; omega) ha s5 d5 (by rw [take_snoc hx]; simp)
            refine ⟨rfl, ⟨fun _ => ?_, (nomatch ·)⟩⟩
            cases x with
            | non => exact ⟨_, _, .base .non, rfl, fin⟩
            | int i => exact ⟨_, _, .base (.int _), rfl, fin⟩
            | str z => exact ⟨_, _, .base (.str _), rfl, fin⟩
          · rintro _ H5 ha s5 d5 rfl
            have b5 := b4.keep s5
            have e5 : cs.take (cs.map cv).length = cs := List.take_of_length_le (by simp)
            rw [e5] at d5
            have ea : (cs.map isStrC).any id = cs.any isStrC := by rw [List.any_map]; rfl
            have ei : atI [V.str "number", V.str "text"] (if (cs.map isStrC).any id = true then 1 else 0) = some (.str (kindS (cs.any isStrC))) := by
              rw [ea]
              cases cs.any isStrC <;> rfl
            refine ⟨_, SqL.of d5, _, _, .inl (SqL.of b5.hd), ei, c, n + 100, cs.any isStrC, cs, rfl, gl, kin_any hk, b5.v3, b5.st.mono (by omega), fun H6 pt τ s6 st6 hpt ht hf => ?_⟩
            have b6 := (b5.draw s6 st6).sub (os' := [(pk, .lst (bs.map V.int)), (l, .lst (cs.map cv)), (r, .lst (bs.map V.int))]) (fun x hx => List.mem_cons_of_mem _ hx)
            have ht : TestAt H6 pt τ := ht.same vw_le
            dsimp only [gName]
            refine seq_par (fun σ H' => σ = [some (.ref d), some (.ref l), some (.ref r), some (.ref pk), some (.ref pt), none, none, none, none] ∧ Bun d c H [(pk, .lst (bs.map V.int)), (l, .lst (cs.map cv)), (r, .lst (bs.map V.int))] (n + 100) H') (fun N hN => ?_) ?_
            · refine if_par (fun k H' => k = false ∧ Bun d c H [(pk, .lst (bs.map V.int)), (l, .lst (cs.map cv)), (r, .lst (bs.map V.int))] (n + 100) H') (fun Q' hQ => ?_) (fun H' hb => nomatch hb.1) (fun H2 hb => hN _ _ ⟨rfl, hb.2⟩)
              refine ⟨bs, cs, τ, hnn, .inl b6.hd3, hu, ht, fun x hx => hf x (kin_any hk x hx), fun n x h1 h2 y hy => hf y (kin_any hk y (book_fits hg hw hp h1 h2 y hy)), fun H7 q lq nn s7 hq hlq dlq dq => ?_⟩
              have b7 := b6.keep s7
              have ht7 := ht.same s7
              refine ⟨_, .ref lq, .inr (SqT.of dq), rfl, ⟨_, SqL.of b7.hd2⟩, fun D2 hD2 => ?_⟩
              refine LcGoes.by (.list (xs := cs.map cv)) hD2 (fun i acc H' => acc = ((maskOf τ cs).take i).map V.int) rfl (fun i acc H' _ s' _ _ => SqL.of (s' _ _ b7.hd2)) ?_ ?_
              · rintro i _ v H8 _ hi ha s8 d8 rfl ⟨hv, rfl⟩
                rw [List.length_map] at hi
                obtain ⟨x, hx⟩ := get_lt hi
                rw [List.getElem?_map, hx] at hv
                cases hv
                have hm : (maskOf τ cs)[i]? = some (if meets x τ = true then 1 else 0) := by
                  unfold maskOf
                  rw [List.getElem?_map, hx]
                  rfl
                refine ⟨rfl, ⟨fun _ => ⟨x, τ, rfl, ht7.same s8, hf x (kin_any hk x (List.mem_of_getElem? hx)), ?_⟩, (nomatch ·)⟩⟩
                refine LcP.put hD2 (by rw [sizeLine_eq]; omega) ha s8 d8 ?_
                rw [take_snoc hm]
                simp
              · rintro _ H8 ha s8 d8 rfl
                have e8 : (maskOf τ cs).take (cs.map cv).length = maskOf τ cs := List.take_of_length_le (by rw [maskOf_len]; simp)
                rw [e8] at d8
                exact ⟨_, _, s8 _ _ dlq, d8, hQ _ _ ⟨by simp, b7.keep s8⟩⟩
            · rintro _ H7 ⟨rfl, b7⟩
              refine ⟨by decide, by decide, ?_⟩
              refine ForGoes.by .range (fun i σ H' => ∃ x y z u : Option V, σ = [some (.ref d), some (.ref l), some (.ref r), some (.ref pk), some (.ref pt), x, y, z, u] ∧ Bun d c H [(pk, .lst (bs.map V.int)), (l, .lst (cs.map cv)), (r, .lst (bs.map V.int))] (n + 100 - 10 * i) H') ⟨none, none, none, none, rfl, b7⟩ (fun _ _ _ _ _ => trivial) ?_ ?_
              · rintro i _ _ H8 _ hi ⟨x, y, z, u, rfl, b8⟩ ⟨rfl, rfl⟩
                have hi : i < 2 := hi
                refine ⟨c, n + 100 - 10 * (i + 1), bs, b8.v3, ?_, by omega, hnn, b8.st.mono (by omega), fun H9 pb bs' hnn' hl' hpb b9 => ?_⟩
                · obtain ⟨body, hb⟩ := pressBy_head hp
                  rw [hb]
                  simp
                · have b9a := b8.draw b9.same b9.st
                  refine ⟨bs', hnn', .inl b9.hd, ?_⟩
                  cases hu' : unpressed bs' with
                  | none => exact fun H10 s10 => ⟨fun c => absurd c (by decide), fun _ => ⟨(nomatch ·), fun _ => ⟨_, _, _, _, rfl, b9a.keep s10⟩⟩⟩
                  | some cs' =>
                    intro H10 q s10 hq d10
                    obtain ⟨_, hg', hs', way', n', hw', hh', hp'⟩ := reads_of hu'
                    have gp' := hg'.pos
                    have d9 := s10 _ _ b9.hd
                    obtain ⟨b, hb1, rfl⟩ := head_byte hnn' hh'
                    refine ⟨fun _ => ⟨_, .inl (SqL.of d10), rfl, ⟨fun c => ?_, fun _ => ?_⟩⟩, fun c => absurd c (by simp)⟩
                    · have c := ieqT c
                      rw [List.length_map] at c
                      omega
                    · refine ⟨_, .int (way' : Nat), .inl (SqL.of d9), atN (n := 0) (by rw [List.getElem?_map, hb1]; rfl), way', cs', rfl, d10, hg', ?_⟩
                      rw [hp']
                      intro H11 q2 s11 hq2 d11
                      refine ⟨_, _, d11, s11 _ _ d9, ⟨fun c => by simp at c, fun _ => ⟨_, _, _, _, rfl, b9a.keep (s10.trans s11)⟩⟩⟩
              · rintro _ H8 ⟨x, y, z, u, rfl, b8⟩
                exact ⟨_, _, b8.hd3, b8.hd, by simpa using h _ b8.same (b8.st.mono (by omega))⟩
    · exact h.elim
end
end K90
namespace K90
open PySem PySem.Spec PyProof.Rows L2 RT RZ
theorem rowsOf_five (cs : List Cell) : (rowsOf cs).length ≤ 5 := by
  unfold rowsOf
  exact Nat.le_trans (List.length_filterMap_le _ _) (by simp)
theorem SameV.ints {H : Hp} {n : Nat} {a b : Addr} {xs : List Int} (ha : H a = some (.lst (xs.map V.int))) (hb : H b = some (.lst (xs.map V.int))) (hl : xs.length ≤ 100000) : SameV H (n + 1) (.ref a) (.ref b) :=
  .lst ha hb rfl (by rw [List.length_map]; exact hl) fun i x y hx hy => by
    rw [hx] at hy
    cases hy
    rw [List.getElem?_map] at hx
    cases e : xs[i]? with
    | none =>
      rw [e] at hx
      cases hx
    | some c =>
      rw [e] at hx
      cases hx
      exact .int n c
theorem take_filter {α : Type} {l : List α} {i : Nat} {x : α} {f : α → Bool} (h : l[i]? = some x) : (l.take (i + 1)).filter f = (l.take i).filter f ++ if f x = true then [x] else [] := by
  rw [take_snoc h, List.filter_append]
  by_cases c : f x = true <;> simp [c]
theorem cut_three {xs : List V} (h : 3 ≤ xs.length) : cutV xs none (some 3) = xs.take 3 := by
  have h1 : HT.sIx xs.length xs.length (some ((3 : Nat) : Int)) = min 3 xs.length := HT.sIx_nat _ _ _
  have h0 : HT.sIx xs.length 0 none = 0 := HT.sIx_none _ _
  unfold cutV
  rw [h0, show HT.sIx xs.length xs.length (some 3) = min 3 xs.length from h1, Nat.sub_zero, List.drop_zero, Nat.min_eq_left h]
section
variable {P : Program} {w : World} {K : PySem.W.Frag} {mg : Str → Option Value} {base : Heap}
def sp_law_stretch (K : PySem.W.Frag) : Sp := fun vs H Q E => match vs with
  | [.ref d] => ∃ c n, St d c (n + 4000) H ∧ Dr d c n H (Q (.bl true))
  | _ => False
theorem sc_law_stretch : FnScope ["_law_state", "_law_kind_here", "_law_cells_here", "_law_rows_here", "_law_least", "_law_way", "_law_cell", "_law_row"] ["_law_state"] (defScope s_law_stretch) := ⟨rfl, rfl, rfl, by decide +kernel, rfl, by decide +kernel, by decide +kernel⟩
theorem ok_law_stretch (T : Txt K mg) : Cal P w K mg base 15 "_law_stretch" (sp_law_stretch K) := by
  obtain ⟨fd, F⟩ := D_law_stretch T
  refine cal_mk (g_law_stretch T) F sc_law_stretch (fun _ _ _ _ _ _ us hl => match us, hl with | [_], _ => rfl) (fun vs H Q E h => ?len) (fun cdv A outer s H vs Q E hr h => ⟨_, (pss_cons (ps_set (i := 1) sc_law_stretch.nd rfl (by first | exact Or.inl rfl | exact Or.inr rfl) (u_call (ok_law_kind T) hr (by decide) (pa_cons (uv 0) pa_nil)))
      (pss_cons (ps_set (i := 2) sc_law_stretch.nd rfl (by first | exact Or.inl rfl | exact Or.inr rfl) (u_call (ok_law_some_cells T) hr (by decide) (pa_cons (uv 0) (pa_cons (uv 1) (pa_cons (pe_op o_add pe_int (u_call (ok_law_take T) hr (by decide) (pa_cons (uv 0) (pa_cons (pe_ix (q_seq (K := K)) (pe_lst (pa_cons pe_int (pa_cons pe_int (pa_cons pe_int (pa_cons pe_int pa_nil))))) (u_call (ok_law_take T) hr (by decide) (pa_cons (uv 0) (pa_cons pe_int pa_nil))) (fun _ _ => rfl)) pa_nil)))) pa_nil)))))
      (pss_cons (us_lc (i := 3) (own := [("_law_way", 5)]) rfl sc_law_stretch.nd rfl rfl (sw_true rfl rfl rfl (by decide +kernel)) (j_rng (b_range T) (pa_cons pe_int pa_nil)) rfl (fun _ _ _ _ _ => (pg_name (i := 5) sc_law_stretch.nd rfl (by first | exact Or.inl rfl | exact Or.inr rfl))) (fun _ _ _ _ _ => pts_nil) (fun _ _ _ _ _ => (u_call (ok_press_by T) hr (by decide) (pa_cons (uv 5) (pa_cons (uv 2) pa_nil)))))
      (pss_cons (us_if (PW.pt (uw_or (ut_cmp (o_ne hr.units) (pe_cmpR (o_inN hr.units) pe_non (uv 3) (by rfl)) (ue_not (pe_callB (q_all (K := K)) rfl (b_all T) (by decide +kernel) (pa_cons (ue_lc (own := [("_law_cell", 6)]) rfl sc_law_stretch.nd (j_list (uv 2)) rfl (fun _ _ _ _ _ => (pg_name (i := 6) sc_law_stretch.nd rfl (by first | exact Or.inl rfl | exact Or.inr rfl))) (fun _ _ _ _ _ => pts_nil) (fun _ _ _ _ _ => (pe_callB (q_isi (K := K)) rfl (b_isinstance T) (by decide +kernel) (pa_cons (uv 6) (pa_cons (pe_bltn (v := .ty "int") rfl (b_int T) (by decide +kernel) rfl) pa_nil))))) pa_nil))) (nomark _)) (pw_or1 (ut_cmp (o_inN hr.units) pe_non (pe_slice (q_sl (K := K)) (uv 3) po_none (u_some pe_int)) (by rfl))))) (pss_one (ps_ret pe_bl)) pss_nil)
      (pss_cons (us_lc (i := 3) (own := [("_law_row", 7)]) rfl sc_law_stretch.nd rfl rfl (sw_true rfl rfl rfl (by decide +kernel)) (j_list (uv 3)) rfl (fun _ _ _ _ _ => (pg_name (i := 7) sc_law_stretch.nd rfl (by first | exact Or.inl rfl | exact Or.inr rfl))) (fun _ _ _ _ _ => (pts_one (ut_cmp o_isnot (uv 7) pe_non (nomark _)))) (fun _ _ _ _ _ => (uv 7)))
      (pss_cons (ps_set (i := 4) sc_law_stretch.nd rfl (by first | exact Or.inl rfl | exact Or.inr rfl) (pe_callB c_min rfl (b_min T) (by decide +kernel) (pa_cons (ue_lc (own := [("_law_row", 7)]) rfl sc_law_stretch.nd (j_list (uv 3)) rfl (fun _ _ _ _ _ => (pg_name (i := 7) sc_law_stretch.nd rfl (by first | exact Or.inl rfl | exact Or.inr rfl))) (fun _ _ _ _ _ => pts_nil) (fun _ _ _ _ _ => (pe_callB (q_len (K := K)) rfl (b_len T) (by decide +kernel) (pa_cons (uv 7) pa_nil)))) pa_nil)))
      (pss_cons (us_if (pt_not (ut_val (u_call (ok_law_same T 4) hr (by decide) (pa_cons (u_call (ok_pressed T) hr (by decide) (pa_cons (uv 2) pa_nil)) (pa_cons (pe_ix (q_seq (K := K)) (ue_lc (own := [("_law_row", 7)]) rfl sc_law_stretch.nd (j_list (uv 3)) rfl (fun _ _ _ _ _ => (pg_name (i := 7) sc_law_stretch.nd rfl (by first | exact Or.inl rfl | exact Or.inr rfl))) (fun _ _ _ _ _ => (pts_one (ut_cmp (o_eq hr.units) (pe_callB (q_len (K := K)) rfl (b_len T) (by decide +kernel) (pa_cons (uv 7) pa_nil)) (uv 4) (nomark _)))) (fun _ _ _ _ _ => (uv 7))) pe_int (fun _ _ => rfl)) pa_nil))))) (pss_one (ps_ret pe_bl)) pss_nil)
      (pss_one (ps_ret (pe_callB (q_all (K := K)) rfl (b_all T) (by decide +kernel) (pa_cons (ue_lc (own := [("_law_row", 7)]) rfl sc_law_stretch.nd (j_list (uv 3)) rfl (fun _ _ _ _ _ => (pg_name (i := 7) sc_law_stretch.nd rfl (by first | exact Or.inl rfl | exact Or.inr rfl))) (fun _ _ _ _ _ => pts_nil) (fun _ _ _ _ _ => (u_call (ok_law_one_row T) hr (by decide) (pa_cons (uv 0) (pa_cons (uv 2) (pa_cons (uv 7) pa_nil)))))) pa_nil))))))))))), ?body⟩)
  case len => unfold sp_law_stretch at h; (split at h) <;> first | rfl | exact h.elim
  case body =>
    unfold sp_law_stretch at h
    split at h
    · rename_i d
      obtain ⟨c, n, hst, h⟩ := h
      refine ⟨c, n + 3999, hst, fun t H1 s1 st1 => ?_⟩
      have b1 := (Bun.start hst).draw s1 st1
      refine ⟨len4, fun p0 hp0 => ?_⟩
      have b2 := b1.new hp0 (o := .lst [V.int 12, V.int 12, V.int 12, V.int 64])
      refine ⟨c, n + 3998, b2.st, by decide, by decide, fun a a0 a1 H3 s3 st3 => ?_⟩
      have b3 := b2.draw s3 st3
      obtain ⟨m, hm, hmi⟩ := pickI [12, 12, 12, 64] a0 a1
      have hm : 1 ≤ m ∧ m ≤ 64 := by
        simp only [List.mem_cons, List.mem_nil_iff, or_false] at hm
        omega
      refine ⟨_, _, .inl (SqL.of b3.hd), hmi, c, n + 3997, b3.st, by omega, by omega, fun r r0 r1 H4 s4 st4 => ?_⟩
      have b4 := (b3.draw s4 st4).sub (os' := []) (fun _ h => nomatch h)
      obtain ⟨r, rfl⟩ := Int.eq_ofNat_of_zero_le r0
      refine ⟨c, n + 2900, t, 1 + r, rfl, by omega, by omega, b4.st.mono (by omega), fun H5 pc cs hcl hk hpc b5 => ?_⟩
      have b5 : Bun d c H [(pc, .lst (cs.map cv))] (n + 2900) H5 := ⟨b4.same.trans b5.same, b5.own, b5.st⟩
      have hg := kin_good hk (by omega) (by omega)
      have hs := kin_stretch hk
      have gl := hg.len
      have gp := hg.pos
      dsimp only [gName]
      refine ⟨by decide, by decide, fun D hD => ?_⟩
      have hl5 := b5.hd
      refine LcGoes.by .range hD (fun i acc H' => ORows (hid H5 D H') acc ((List.range i).map fun way => pressBy way cs)) trivial (fun _ _ _ _ _ _ _ => trivial) (fun i acc v H6 _ hi ha s6 d6 e6 it => ?_) (fun acc H6 ha s6 d6 e6 => ?_)
      · obtain ⟨rfl, rfl⟩ := it
        have hi : i < 5 := hi
        refine ⟨rfl, ⟨fun _ => ⟨i, cs, by omega, s6 _ _ hl5, hg, ?_⟩, (nomatch ·)⟩⟩
        have put : ∀ (v : V) (H7 : Hp), Same H6 H7 → (match pressBy i cs with
            | some bs => ∃ p, v = V.ref p ∧ hid H5 D H7 p = some (.lst (bs.map V.int))
            | none => v = V.non) → LcPut D (LcP H5 D (fun i acc H' => ORows (hid H5 D H') acc ((List.range i).map fun way => pressBy way cs)) (i + 1)) v H7 := fun v H7 s7 hv => by
          have d7 := s7 _ _ d6
          refine LcP.put hD (by rw [sizeLine_eq]; omega) ha (s6.trans s7) d7 ?_
          rw [List.range_succ, List.map_append, hid_upd]
          exact ORows.snoc hv (ORows.same (hid_same s7) e6)
        unfold NewO
        cases e : pressBy i cs with
        | none =>
          rw [e] at put
          exact fun H7 s7 => put _ H7 s7 rfl
        | some bs =>
          rw [e] at put
          exact fun H7 p s7 hp d7 => put _ H7 s7 ⟨p, rfl, (hid_eq (Ne.symm (ne_of_none d6 hp)) (s6.free hp)).trans d7⟩
      · have e6 : ORows (hid H5 D H6) acc ((List.range 5).map fun way => pressBy way cs) := e6
        have e6h := ORows.same hid_le e6
        have hal := ORows.len e6
        have hal : acc.length = 5 := by simpa using hal
        have hl6 := s6 _ _ hl5
        dsimp only [gName]
        refine seq_par (fun σ H' => σ = [some (.ref d), some (.str (kindS t)), some (.ref pc), some (.ref D), none, none, none, none] ∧ Same H6 H') (fun N hN => ?_) ?_
        · refine if_par (fun k H' => k = false ∧ Same H6 H') (fun Q' hQ => ?_) (fun H' hb => nomatch hb.1) (fun H7 hb => hN _ _ ⟨rfl, hb.2⟩)
          refine ⟨acc, SqL.of d6, ORows.all e6h, ⟨_, SqL.of hl6⟩, fun D2 hD2 => ?_⟩
          refine LcGoes.by (.list (xs := cs.map cv)) hD2 (fun i acc H' => acc = ((cs.take i).map Cell.isInt).map V.bl) rfl (fun i acc H' _ s' _ _ => SqL.of (s' _ _ hl6)) ?_ ?_
          · rintro i _ v H7 _ hi ha s7 d7 rfl ⟨hv, rfl⟩
            rw [List.length_map] at hi
            obtain ⟨x, hx⟩ := get_lt hi
            rw [List.getElem?_map, hx] at hv
            cases hv
            have fin : LcPut D2 (LcP H6 D2 (fun i acc H' => acc = ((cs.take i).map Cell.isInt).map V.bl) (i + 1)) (.bl x.isInt) H7 := LcP.put hD2 (by rw [sizeLine_eq]; omega) ha s7 d7 (by rw [take_snoc hx]; simp)
            refine ⟨rfl, ⟨fun _ => ?_, (nomatch ·)⟩⟩
            cases x with
            | non => exact ⟨_, _, .base .non, rfl, fin⟩
            | int i => exact ⟨_, _, .base (.int _), rfl, fin⟩
            | str z => exact ⟨_, _, .base (.str _), rfl, fin⟩
          · rintro _ H7 ha s7 d7 rfl
            have e7 : cs.take (cs.map cv).length = cs := List.take_of_length_le (by simp)
            rw [e7] at d7
            have ea : (cs.map Cell.isInt).all id = allInt cs := by rw [List.all_map]; rfl
            have eb : (acc.any fun v => decide (v = V.non)) = !allInt cs := (ORows.any e6).trans (rows_any cs)
            have d67 := s7 _ _ d6
            refine ⟨_, SqL.of d7, rfl, ⟨fun c1 => ?_, fun _ => ?_⟩⟩
            · rw [ea, eb] at c1
              exact absurd c1 (by simp)
            · refine .inl ⟨_, SqL.of d67, fun p8 hp8 => ?_⟩
              rw [cut_three (by omega)]
              have s8 : Same H7 (upd H7 p8 (.lst (acc.take 3))) := same_new hp8 (Same.refl _)
              have e3 := ORows.take 3 e6h
              refine ⟨_, SqL.of upd_same, ORows.all (ORows.same (s7.trans s8) e3), hQ _ _ ⟨?_, s7.trans s8⟩⟩
              exact (ORows.any e3).trans (rows_any3 cs)
        · rintro _ H7 ⟨rfl, s7⟩
          have e7 := ORows.same (hid_same (H0 := H5) (D := D) s7) e6
          have d7 := s7 _ _ d6
          have s57 := s6.trans s7
          refine ⟨⟨_, SqL.of d7⟩, fun D2 hD2 => ?_⟩
          refine LcGoes.by (.list (xs := acc)) hD2 (fun i out H' => ∃ ps : List Addr, out = ps.map V.ref ∧ LRows (hid H5 D2 H') ps (((List.range 5).map fun way => pressBy way cs).take i |>.filterMap id)) ⟨[], rfl, trivial⟩ (fun i out H' _ s' _ _ => SqL.of (s' _ _ d7)) (fun i out v H8 _ hi ha3 s8 d8 e8 it => ?_) (fun out H8 ha3 s8 d8 e8 => ?_)
          · obtain ⟨hv, rfl⟩ := it
            obtain ⟨ps, rfl, hps⟩ := e8
            rcases ORows.get e7 hv with ⟨p, bs, rfl, dp, eo⟩ | ⟨rfl, eo⟩
            · refine ⟨rfl, ⟨fun _ => ?_, fun x => by simp at x⟩⟩
              refine LcP.put hD2 (by rw [sizeLine_eq]; omega) ha3 s8 d8 ⟨ps ++ [p], by simp, ?_⟩
              rw [hid_upd, take_snoc eo, List.filterMap_append]
              refine LRows.snoc ?_ hps
              have dp2 := hid_le _ _ dp
              have hpD : p ≠ D2 := ne_of_none dp2 hD2
              rw [hid_eq hpD (hid_new dp)]
              exact s8 _ _ dp2
            · refine ⟨rfl, ⟨fun x => absurd x (by decide), fun _ => ?_⟩⟩
              refine LcP.skip ha3 s8 d8 ⟨ps, rfl, ?_⟩
              rw [take_snoc eo, List.filterMap_append]
              simpa using hps
          · obtain ⟨ps, rfl, hps⟩ := e8
            have et : ((List.range 5).map fun way => pressBy way cs).take acc.length = (List.range 5).map fun way => pressBy way cs := List.take_of_length_le (by simp; omega)
            rw [et, List.filterMap_map] at hps
            have hps : LRows (hid H5 D2 H8) ps (rowsOf cs) := hps
            have hps8 := LRows.same hid_le hps
            have hpl := LRows.len hps
            have h3 := rowsOf_len cs
            have h5 := rowsOf_five cs
            have s58 := s57.trans s8
            have hpn : ∀ p ∈ ps, H5 p = none := fun p hp => by
              obtain ⟨bs, _, d⟩ := LRows.all hps p hp
              exact hid_new d
            have getr : ∀ {i : Nat} {v : V}, (ps.map V.ref)[i]? = some v → ∃ p bs, v = .ref p ∧ ps[i]? = some p ∧ (rowsOf cs)[i]? = some bs ∧ H8 p = some (.lst (bs.map V.int)) := fun {i v} hv => by
              rw [List.getElem?_map] at hv
              cases ep : ps[i]? with
              | none =>
                rw [ep] at hv
                cases hv
              | some p =>
                rw [ep] at hv
                cases hv
                obtain ⟨bs, h1, h2⟩ := LRows.get hps8 ep
                exact ⟨p, bs, rfl, rfl, h1, h2⟩
            have hD25 : H5 D2 = none := s57.free hD2
            have b8 : Bun d c H [(D2, .lst (ps.map V.ref)), (pc, .lst (cs.map cv))] (n + 2900) H8 := (b5.keep s58).add ((vw_at (b5.st.ned hD25) (b5.st.nec hD25)).trans d8)
            have hv8 : LRows (vw d c H8) ps (rowsOf cs) := LRows.imp (fun p hp o e => (vw_at (b5.st.ned (hpn p hp)) (b5.st.nec (hpn p hp))).trans e) hps8
            refine ⟨⟨_, SqL.of d8⟩, fun D3 hD3 => ?_⟩
            refine LcGoes.by (.list (xs := ps.map V.ref)) hD3 (fun i acc H' => acc = (((rowsOf cs).take i).map fun b => (b.length : Int)).map V.int) rfl (fun i acc H' _ s' _ _ => SqL.of (s' _ _ d8)) ?_ ?_
            · rintro i _ v H9 _ hi ha s9 d9 rfl ⟨hv, rfl⟩
              rw [List.length_map] at hi
              obtain ⟨p, bs, rfl, hp1, hp2, hp3⟩ := getr hv
              refine ⟨rfl, ⟨fun _ => ⟨_, .inl (SqL.of (s9 _ _ hp3)), ?_⟩, (nomatch ·)⟩⟩
              rw [List.length_map]
              refine LcP.put hD3 (by rw [sizeLine_eq]; omega) ha s9 d9 ?_
              rw [take_snoc hp2]
              simp
            · rintro _ H9 ha s9 d9 rfl
              have e9 : (rowsOf cs).take (ps.map V.ref).length = rowsOf cs := List.take_of_length_le (by rw [List.length_map]; omega)
              rw [e9] at d9
              refine ⟨_, SqL.of d9, by rw [List.length_map]; omega, fun least hm hle => ?_⟩
              have hleast : least = ((pressed cs).length : Int) := by
                obtain ⟨b, hb, rfl⟩ := List.mem_map.mp hm
                have h1 := firstMin_le (pressed_first cs) hb
                have h2 := hle _ (List.mem_map.mpr ⟨_, firstMin_mem (pressed_first cs), rfl⟩)
                omega
              subst hleast
              dsimp only [gName]
              refine seq_par (fun σ H' => σ = [some (.ref d), some (.str (kindS t)), some (.ref pc), some (.ref D2), some (.int ((pressed cs).length : Nat)), none, none, none] ∧ Same H8 H') (fun N hN => ?_) ?_
              · refine if_par (fun k H' => k = false ∧ Same H8 H') (fun Q' hQ => ?_) (fun H' hb => nomatch hb.1) (fun H10 hb => hN _ _ ⟨rfl, hb.2⟩)
                have b9 := b8.keep s9
                refine ⟨cs, b9.hd2, hg, fun H10 q s10 hq d10 => ?_⟩
                have b10 := b9.keep s10
                have s810 := s9.trans s10
                refine ⟨⟨_, SqL.of b10.hd⟩, fun D4 hD4 => ?_⟩
                refine LcGoes.by (.list (xs := ps.map V.ref)) hD4 (fun i acc H' => ∃ us : List Addr, acc = us.map V.ref ∧ LRows H8 us (((rowsOf cs).take i).filter fun b => decide (b.length = (pressed cs).length))) ⟨[], rfl, trivial⟩ (fun i acc H' _ s' _ _ => SqL.of (s' _ _ b10.hd)) ?_ ?_
                · rintro i _ v H11 _ hi ha s11 d11 ⟨us, rfl, hus⟩ ⟨hv, rfl⟩
                  rw [List.length_map] at hi
                  obtain ⟨p, bs, rfl, hp1, hp2, hp3⟩ := getr hv
                  refine ⟨rfl, _, .inl (SqL.of (s11 _ _ (s810 _ _ hp3))), rfl, ⟨fun c1 => ?_, fun c1 => ?_⟩⟩
                  · have c1 := ieqT c1
                    rw [List.length_map] at c1
                    refine LcP.put hD4 (by rw [sizeLine_eq]; omega) ha s11 d11 ⟨us ++ [p], by simp, ?_⟩
                    rw [take_filter hp2, if_pos (decide_eq_true (by omega))]
                    exact LRows.snoc hp3 hus
                  · have c1 := ieqF c1
                    rw [List.length_map] at c1
                    refine LcP.skip ha s11 d11 ⟨us, rfl, ?_⟩
                    rw [take_filter hp2, if_neg (by simp; omega), List.append_nil]
                    exact hus
                · rintro _ H11 ha s11 d11 ⟨us, rfl, hus⟩
                  have e11 : (rowsOf cs).take (ps.map V.ref).length = rowsOf cs := List.take_of_length_le (by rw [List.length_map]; omega)
                  rw [e11] at hus
                  have hff := firstMin_filter (pressed_first cs)
                  have hul := LRows.len hus
                  obtain ⟨u0, hu0⟩ := get_lt (l := us) (i := 0) (by
                    have := (List.getElem?_eq_some_iff.mp hff).1
                    omega)
                  obtain ⟨bs, hb1, hb2⟩ := LRows.get hus hu0
                  rw [hff] at hb1
                  cases hb1
                  refine ⟨_, .ref u0, .inl (SqL.of d11), atN (n := 0) (by rw [List.getElem?_map, hu0]; rfl), ?_⟩
                  have hplen := pressed_len hg
                  refine ⟨SameV.ints (s11 _ _ d10) (s11 _ _ (s810 _ _ hb2)) (by omega), fun H12 s12 => hQ _ _ ⟨rfl, (s810.trans s11).trans s12⟩⟩
              · rintro _ H10 ⟨rfl, s10⟩
                have b10 := b8.keep s10
                refine ⟨⟨_, SqL.of b10.hd⟩, fun D5 hD5 => ?_⟩
                have fD5 := b10.fresh hD5
                have hne5 : ∀ p ∈ ps, p ≠ D5 := fun p hp z => by
                  obtain ⟨bs, _, dd⟩ := LRows.all hps8 p hp
                  have := s10 _ _ dd
                  rw [z, hD5] at this
                  cases this
                have hv10 : LRows (vw d c H10) ps (rowsOf cs) := LRows.same (vw_same s10) hv8
                have b11 := b10.new hD5 (o := .lst [])
                refine LcGoes.byV (.list (xs := ps.map V.ref)) (fun i acc H' => acc = (List.replicate i true).map V.bl ∧ LRows (vw d c H') ps (rowsOf cs) ∧ Bun d c H [(D5, .lst acc), (D2, .lst (ps.map V.ref)), (pc, .lst (cs.map cv))] (n + 2900 - 500 * i) H') ⟨rfl, LRows.same (vw_same (same_new hD5 (Same.refl _))) hv10, b11⟩ (fun i acc H' _ d' r => SqL.of r.2.2.hd2) ?_ ?_
                · rintro i _ v H12 _ hi ha d12 ⟨rfl, hv12, b12⟩ ⟨hv, rfl⟩
                  rw [List.length_map] at hi
                  obtain ⟨p, bs, rfl, hp1, hp2, hp3⟩ := getr hv
                  obtain ⟨bs', hb1, hb2⟩ := LRows.get hv12 hp1
                  rw [hp2] at hb1
                  cases hb1
                  obtain ⟨way, hw, hp⟩ := rowsOf_mem (List.mem_of_getElem? hp2)
                  refine ⟨rfl, ⟨fun _ => ⟨c, n + 2900 - 500 * (i + 1), t, way, cs, bs, hw, hp, pressBy_nn hp, hg, hk, press_round hg hs hw hp, b12.v3, hb2, b12.st.mono (by omega), fun H13 s13 st13 => ?_⟩, (nomatch ·)⟩⟩
                  have b13 := b12.draw s13 st13
                  have ne := vw_ne b13.v1
                  refine LcV.put (by rw [sizeLine_eq]; omega) ha b13.hd ⟨by simp [List.replicate_succ'], ?_, b13.put fD5.1 fD5.2⟩
                  rw [vw_put ne.1 ne.2]
                  exact LRows.imp (fun p hp o e => (upd_ne (hne5 p hp)).trans (s13 _ _ e)) hv12
                · rintro _ H12 ha d12 ⟨rfl, hv12, b12⟩
                  refine ⟨_, SqL.of d12, ?_⟩
                  rw [List.all_eq_true.mpr (fun b hb => by rw [List.eq_of_mem_replicate hb]; rfl)]
                  exact h _ b12.same (b12.st.mono (by rw [List.length_map]; omega))
    · exact h.elim
end
end K90
namespace K90
open PySem PySem.Spec PyProof.Rows L2 RT RZ
/-- the heap's things, hidden from the state -/
structure HB (K : PySem.W.Frag) (d c : Addr) (H0 : Hp) (pr pe pk x : Addr) (ps : List Addr) (kinds : List Bool) (long : Nat) (es : List Entry) (os : List (Addr × HO)) (n : Nat) (H : Hp) : Prop where
  b : Bun d c H0 ((pr, .lst ((heapBytes kinds long es).map V.int)) :: (pe, .lst (ps.map V.ref)) :: (pk, .lst (kindsV kinds)) :: os) n H
  e : Pts EntAt (vw d c H) ps es
  h : HeapAt K (vw d c H) x kinds long es
section
variable {K : PySem.W.Frag} {d c : Addr} {H0 H H' : Hp} {pr pe pk x : Addr} {ps : List Addr} {kinds : List Bool} {long : Nat} {es : List Entry} {os : List (Addr × HO)} {n m : Nat}
theorem HB.draw (a : HB K d c H0 pr pe pk x ps kinds long es os n H) (s : Same (vw d c H) (vw d c H')) (st : St d c m H') : HB K d c H0 pr pe pk x ps kinds long es os m H' :=
  ⟨a.b.draw s st, Pts.mono (fun _ _ h => EntAt.same s h) a.e, HeapAt.same s a.h⟩
theorem HB.keep (a : HB K d c H0 pr pe pk x ps kinds long es os n H) (s : Same H H') : HB K d c H0 pr pe pk x ps kinds long es os n H' := a.draw (vw_same s) (a.b.st.same s)
theorem HB.hat (a : HB K d c H0 pr pe pk x ps kinds long es os n H) : HeapAt K H x kinds long es := HeapAt.same vw_le a.h
theorem HB.hpr (a : HB K d c H0 pr pe pk x ps kinds long es os n H) : H pr = some (.lst ((heapBytes kinds long es).map V.int)) := a.b.hd
theorem HB.hpe (a : HB K d c H0 pr pe pk x ps kinds long es os n H) : H pe = some (.lst (ps.map V.ref)) := a.b.hd2
theorem HB.hpk (a : HB K d c H0 pr pe pk x ps kinds long es os n H) : H pk = some (.lst (kindsV kinds)) := a.b.hd3
theorem HB.hes (a : HB K d c H0 pr pe pk x ps kinds long es os n H) : Pts EntAt H ps es := Pts.mono (fun _ _ h => EntAt.same vw_le h) a.e
theorem HB.ents (a : HB K d c H0 pr pe pk x ps kinds long es os n H) : EntsAt H pe es := ⟨ps, a.hpe, a.hes⟩
end
theorem make_same {H8 H10 : Hp} {x dx : Addr} {o1 o2 : HO} (hx : H8 x = none) (hdx : H8 dx = none) (s : SB x (upd (upd H8 dx o1) x o2) H10) : Same H8 H10 := fun b o e => by
  have n1 : b ≠ x := ne_of_none e hx
  have n2 : b ≠ dx := ne_of_none e hdx
  exact s b o n1 (by rw [upd_ne n1, upd_ne n2]; exact e)
theorem HeapAt.hide {K : PySem.W.Frag} {d c : Addr} {n : Nat} {H : Hp} {x : Addr} {kinds : List Bool} {long : Nat} {es : List Entry} (st : St d c n H) (k1 : 1 ≤ kinds.length) (e1 : 1 ≤ es.length) (h : HeapAt K H x kinds long es) : HeapAt K (vw d c H) x kinds long es := by
  obtain ⟨dx, kl, el, h1, h2, ps, h3, h4⟩ := h
  obtain ⟨xs, t, st1, st2, _⟩ := st
  have ne : ∀ {b : Addr} {o : HO}, H b = some o → o ≠ .dK [(.inr "cells", .ref c), (.inr "turn", .int t)] → o ≠ .lst (xs.map V.int) → vw d c H b = some o := fun {b o} e n1 n2 => by
    rw [vw_at]
    · exact e
    · intro z
      rw [z, st1] at e
      cases e
      exact n1 rfl
    · intro z
      rw [z, st2] at e
      cases e
      exact n2 rfl
  refine ⟨dx, kl, el, ne h1 (by simp) (by simp), ne h2 (by simp) ?_, ps, ne h3 (by simp) ?_, Pts.mono (fun p x h => ?_) h4⟩
  · intro z
    injection z with z
    cases kinds with
    | nil => simp at k1
    | cons a r =>
      cases xs with
      | nil => cases z
      | cons b q => cases z
  · intro z
    injection z with z
    have hl := Pts.len h4
    cases ps with
    | nil => simp at hl; omega
    | cons a r =>
      cases xs with
      | nil => cases z
      | cons b q => cases z
  · obtain ⟨t, h5, h6⟩ := h
    exact ⟨t, ne h5 (by simp) (by simp), ne h6 (by simp) (by simp)⟩
theorem SameV.tupC {H : Hp} {n : Nat} {a b : Addr} {cs : List Cell} (ha : H a = some (.tup (cs.map K90.cv))) (hb : H b = some (.tup (cs.map K90.cv))) (hl : cs.length ≤ 100000) : SameV H (n + 1) (.ref a) (.ref b) :=
  .tup ha hb rfl (by rw [List.length_map]; exact hl) fun i x y hx hy => by
    rw [hx] at hy
    cases hy
    rw [List.getElem?_map] at hx
    cases e : cs[i]? with
    | none =>
      rw [e] at hx
      cases hx
    | some c =>
      rw [e] at hx
      cases hx
      exact .cv n c
theorem SameV.ents {H : Hp} {a b : Addr} {es : List Entry} (ha : EntsAt H a es) (hb : EntsAt H b es) (hl : es.length ≤ 100000) (hr : ∀ e ∈ es, e.row.length ≤ 100000) : SameV H 3 (.ref a) (.ref b) := by
  obtain ⟨ps, h1, h2⟩ := ha
  obtain ⟨qs, h3, h4⟩ := hb
  have l1 := Pts.len h2
  have l2 := Pts.len h4
  refine .lst h1 h3 (by simp [l1, l2]) (by rw [List.length_map]; omega) fun i x y hx hy => ?_
  rw [List.getElem?_map] at hx hy
  cases ep : ps[i]? with
  | none => rw [ep] at hx; cases hx
  | some p =>
    cases eq : qs[i]? with
    | none => rw [eq] at hy; cases hy
    | some q =>
      rw [ep] at hx
      rw [eq] at hy
      cases hx
      cases hy
      obtain ⟨e, g1, t, g2, g3⟩ := Pts.get h2 ep
      obtain ⟨e', g1', t', g2', g3'⟩ := Pts.get h4 eq
      rw [g1] at g1'
      cases g1'
      refine .tup g2 g2' rfl (by simp) fun i x y hx hy => ?_
      match i, hx, hy with
      | 0, hx, hy => cases hx; cases hy; exact .int 1 _
      | 1, hx, hy => cases hx; cases hy; exact .int 1 _
      | 2, hx, hy => cases hx; cases hy; exact .tupC g3 g3' (hr e (List.mem_of_getElem? g1))
      | i + 3, hx, hy => simp at hx
theorem SameV.kinds {H : Hp} {n : Nat} {a b : Addr} {ks : List Bool} (ha : H a = some (.lst (kindsV ks))) (hb : H b = some (.lst (kindsV ks))) (hl : ks.length ≤ 100000) : SameV H (n + 1) (.ref a) (.ref b) :=
  .lst ha hb rfl (by simp [kindsV]; exact hl) fun i x y hx hy => by
    rw [hx] at hy
    cases hy
    unfold kindsV at hx
    rw [List.getElem?_map] at hx
    cases e : ks[i]? with
    | none =>
      rw [e] at hx
      cases hx
    | some c =>
      rw [e] at hx
      cases hx
      exact .str n _
section
variable {P : Program} {w : World} {K : PySem.W.Frag} {mg : Str → Option Value} {base : Heap}
def sp_law_heap (K : PySem.W.Frag) : Sp := fun vs H Q E => match vs with
  | [.ref d] => ∃ c n, St d c (n + 9000) H ∧ Dr d c n H (Q (.bl true))
  | _ => False
theorem sc_law_heap : FnScope ["_law_state", "_law_kinds_here", "_law_long", "_law_entries_here", "_law_row", "_law_heap_here", "_law_columns", "_law_pillar", "_law_cells_here", "_law_told", "_law_some", "_law_bent_here", "_law_other", "_law_entry", "_law_place"] ["_law_state"] (defScope s_law_heap) := ⟨rfl, rfl, rfl, by decide +kernel, rfl, by decide +kernel, by decide +kernel⟩
theorem ok_law_heap (T : Txt K mg) : Cal P w K mg base 20 "_law_heap" (sp_law_heap K) := by
  obtain ⟨fd, F⟩ := D_law_heap T
  refine cal_mk (g_law_heap T) F sc_law_heap (fun _ _ _ _ _ _ us hl => match us, hl with | [_], _ => rfl) (fun vs H Q E h => ?len) (fun cdv A outer s H vs Q E hr h => ⟨_, (pss_cons (ps_set (i := 1) sc_law_heap.nd rfl (by first | exact Or.inl rfl | exact Or.inr rfl) (u_call (ok_law_kinds T) hr (by decide) (pa_cons (uv 0) pa_nil)))
      (pss_cons (ps_set (i := 2) sc_law_heap.nd rfl (by first | exact Or.inl rfl | exact Or.inr rfl) (pe_ix (q_seq (K := K)) (pe_lst (pa_cons (pe_op o_add pe_int (u_call (ok_law_take T) hr (by decide) (pa_cons (uv 0) (pa_cons pe_int pa_nil)))) (pa_cons pe_int pa_nil))) (u_call (ok_law_take T) hr (by decide) (pa_cons (uv 0) (pa_cons pe_int pa_nil))) (fun _ _ => rfl)))
      (pss_cons (ps_set (i := 3) sc_law_heap.nd rfl (by first | exact Or.inl rfl | exact Or.inr rfl) (u_call (ok_law_entries T) hr (by decide) (pa_cons (uv 0) (pa_cons (uv 1) pa_nil))))
      (pss_cons (ps_set (i := 4) sc_law_heap.nd rfl (by first | exact Or.inl rfl | exact Or.inr rfl) (u_call (ok_heap_bytes T) hr (by decide) (pa_cons (uv 1) (pa_cons (uv 2) (pa_cons (uv 3) pa_nil)))))
      (pss_cons (ps_set (i := 5) sc_law_heap.nd rfl (by first | exact Or.inl rfl | exact Or.inr rfl) (u_make (ok_Heap_init T) hr (by decide) (pa_cons (pe_ix (q_seq (K := K)) (pe_lst (pa_cons (uv 4) (pa_cons (pe_callTy (q_tuple (K := K)) rfl (b_tuple T) (by decide +kernel) (pa_cons (uv 4) pa_nil)) pa_nil))) (u_call (ok_law_take T) hr (by decide) (pa_cons (uv 0) (pa_cons pe_int pa_nil))) (fun _ _ => rfl)) pa_nil)))
      (pss_cons (us_if (pt_not (ut_val (u_call (ok_law_same T 4) hr (by decide) (pa_cons (pe_lst (pa_cons (u_meth0 (ok_Heap_kinds T) hr (by decide) (uv 5)) (pa_cons (u_meth0 (ok_Heap_long T) hr (by decide) (uv 5)) (pa_cons (u_meth0 (ok_Heap_entries T) hr (by decide) (uv 5)) pa_nil)))) (pa_cons (pe_lst (pa_cons (uv 1) (pa_cons (uv 2) (pa_cons (uv 3) pa_nil)))) pa_nil))))) (pss_one (ps_ret pe_bl)) pss_nil)
      (pss_cons (ps_set (i := 6) sc_law_heap.nd rfl (by first | exact Or.inl rfl | exact Or.inr rfl) (pe_lst (pa_cons (ue_lc (own := [("_law_entry", 13)]) rfl sc_law_heap.nd (j_list (uv 3)) rfl (fun _ _ _ _ _ => (pg_name (i := 13) sc_law_heap.nd rfl (by first | exact Or.inl rfl | exact Or.inr rfl))) (fun _ _ _ _ _ => pts_nil) (fun _ _ _ _ _ => (pe_ix (q_seq (K := K)) (uv 13) pe_int (fun _ _ => rfl)))) (pa_cons (ue_lc (own := [("_law_entry", 13)]) rfl sc_law_heap.nd (j_list (uv 3)) rfl (fun _ _ _ _ _ => (pg_name (i := 13) sc_law_heap.nd rfl (by first | exact Or.inl rfl | exact Or.inr rfl))) (fun _ _ _ _ _ => pts_nil) (fun _ _ _ _ _ => (pe_ix (q_seq (K := K)) (uv 13) pe_int (fun _ _ => rfl)))) pa_nil))))
      (pss_cons (ps_set (i := 6) sc_law_heap.nd rfl (by first | exact Or.inl rfl | exact Or.inr rfl) (pe_op o_add (uv 6) (ue_lc (own := [("_law_place", 14)]) rfl sc_law_heap.nd (j_rng (b_range T) (pa_cons (pe_callB (q_len (K := K)) rfl (b_len T) (by decide +kernel) (pa_cons (uv 1) pa_nil)) pa_nil)) rfl (fun _ _ _ _ _ => (pg_name (i := 14) sc_law_heap.nd rfl (by first | exact Or.inl rfl | exact Or.inr rfl))) (fun _ _ _ _ _ => pts_nil) (fun _ _ _ _ _ => (ue_lc (own := [("_law_entry", 13)]) rfl sc_law_heap.nd (j_listK (K := K) (uv 3)) rfl (fun _ _ _ _ _ => (pg_name (i := 13) sc_law_heap.nd rfl (by first | exact Or.inl rfl | exact Or.inr rfl))) (fun _ _ _ _ _ => pts_nil) (fun _ _ _ _ _ => (pe_ix (q_seq (K := K)) (pe_ix (q_seq (K := K)) (uv 13) pe_int (fun _ _ => rfl)) (uv 14) (fun _ _ => rfl))))))))
      (pss_cons (us_for (passes_of rfl) rfl (j_zip (b_zip T) (pa_cons (u_meth0 (ok_Heap_pillars T) hr (by decide) (uv 5)) (pa_cons (uv 6) pa_nil))) (q_tup (K := K) (n := 2) rfl (hg_cons (pg_name (i := 7) sc_law_heap.nd rfl (by first | exact Or.inl rfl | exact Or.inr rfl)) (hg_cons (pg_name (i := 8) sc_law_heap.nd rfl (by first | exact Or.inl rfl | exact Or.inr rfl)) hg_nil))) (pss_cons (ps_set (i := 9) sc_law_heap.nd rfl (by first | exact Or.inl rfl | exact Or.inr rfl) (pe_lst pa_nil))
      (pss_cons (us_for (passes_of rfl) rfl (j_list (u_meth0 (ok_Pillar_rows T) hr (by decide) (uv 7))) (pg_name (i := 10) sc_law_heap.nd rfl (by first | exact Or.inl rfl | exact Or.inr rfl)) (pss_one (ps_set (i := 9) sc_law_heap.nd rfl (by first | exact Or.inl rfl | exact Or.inr rfl) (pe_op o_add (uv 9) (u_call (ok_unpressed T) hr (by decide) (pa_cons (uv 10) pa_nil))))))
      (pss_one (us_if (PW.pt (uw_or (pt_not (ut_val (u_call (ok_law_same T 4) hr (by decide) (pa_cons (uv 9) (pa_cons (uv 8) pa_nil))))) (pw_or1 (pt_not (ut_val (u_call (ok_law_same T 4) hr (by decide) (pa_cons (u_meth0 (ok_Pillar_many T) hr (by decide) (uv 7)) (pa_cons (pe_callB (q_len (K := K)) rfl (b_len T) (by decide +kernel) (pa_cons (uv 8) pa_nil)) pa_nil)))))))) (pss_one (ps_ret pe_bl)) pss_nil)))))
      (pss_cons (ps_set (i := 11) sc_law_heap.nd rfl (by first | exact Or.inl rfl | exact Or.inr rfl) (u_call (ok_law_bent T) hr (by decide) (pa_cons (uv 0) (pa_cons (uv 4) pa_nil))))
      (pss_cons (us_try T (takes_of rfl rfl rfl rfl) (fun W pn xe tk _ => (pss_one (ps_set (i := 12) sc_law_heap.nd rfl (by first | exact Or.inl rfl | exact Or.inr rfl) (u_makeX (ok_Heap_init T) tk hr (by decide) (pa_cons (uv 11) pa_nil))))) (fun a oe cls d pn _ _ => (pss_one (ps_set (i := 12) sc_law_heap.nd rfl (by first | exact Or.inl rfl | exact Or.inr rfl) pe_non))))
      (pss_cons (us_if (ut_cmp o_is (uv 12) pe_non (nomark _)) (pss_one (ps_ret (pe_cmpR (o_eq hr.units) (pe_callB (q_len (K := K)) rfl (b_len T) (by decide +kernel) (pa_cons (u_meth0 (ok_Heap_pillars T) hr (by decide) (uv 5)) pa_nil)) (pe_callB (q_len (K := K)) rfl (b_len T) (by decide +kernel) (pa_cons (uv 6) pa_nil)) (nomark _)))) pss_nil)
      (pss_one (ps_ret (pe_cmpR (o_eq hr.units) (u_call (ok_heap_bytes T) hr (by decide) (pa_cons (u_meth0 (ok_Heap_kinds T) hr (by decide) (uv 12)) (pa_cons (u_meth0 (ok_Heap_long T) hr (by decide) (uv 12)) (pa_cons (u_meth0 (ok_Heap_entries T) hr (by decide) (uv 12)) pa_nil)))) (uv 11) (nomark _)))))))))))))))), ?body⟩)
  case len => unfold sp_law_heap at h; (split at h) <;> first | rfl | exact h.elim
  case body =>
    unfold sp_law_heap at h
    split at h
    · rename_i d
      obtain ⟨c, n, hst, h⟩ := h
      refine ⟨c, n + 8980, hst, fun H1 pk kinds k1 k8 hpk b1 => ?_⟩
      refine ⟨c, n + 8979, b1.st, by decide, by decide, fun a a0 a1 H2 s2 st2 => ⟨len2, fun p hp => ?_⟩⟩
      have b2 := (b1.draw s2 st2).new hp (o := .lst [V.int (1 + a), V.int 64])
      refine ⟨c, n + 8978, b2.st, by decide, by decide, fun u u0 u1 H3 s3 st3 => ?_⟩
      have b3 := b2.draw s3 st3
      obtain ⟨lg, hlg, hlgi⟩ := pickI [1 + a, 64] u0 u1
      have hlg : 1 ≤ lg ∧ lg ≤ 64 := by
        simp only [List.mem_cons, List.mem_nil_iff, or_false] at hlg
        omega
      refine ⟨_, _, .inl (SqL.of b3.hd), hlgi, ?_⟩
      have b3 := b3.sub (os' := [(pk, .lst (kindsV kinds))]) (fun x hx => List.mem_cons_of_mem _ hx)
      obtain ⟨long, rfl⟩ := Int.eq_ofNat_of_zero_le (show 0 ≤ lg by omega)
      have l1 : 1 ≤ long := by omega
      have l64 : long ≤ 64 := by omega
      refine ⟨c, n + 700, kinds, b3.v1, k8, b3.st.mono (by omega), fun H5 pe ps es hdr hpe be hes => ?_⟩
      have hok := hdr.ok k1 k8 l1 l64
      have hbl := hok.body_len
      have b5 := (b3.draw be.same be.st).add be.v1
      have hke : (kinds.length + 2) * es.length ≤ 10 * 20 := Nat.mul_le_mul (by omega) hdr.e2
      have hrl : (heapBytes kinds long es).length = (heapBody kinds long es).length + 4 := by
        unfold heapBytes summed
        rw [List.length_append, sumOf_len]
      have he1 := hdr.e1
      have he2 := hdr.e2
      refine ⟨kinds, es, long, rfl, l1, l64, b5.hd2, by omega, ⟨ps, b5.hd, Pts.mono (fun _ _ h => EntAt.same vw_le h) hes⟩, by omega, hok.ent, by omega, fun H6 pr s6 hpr d6 => ?_⟩
      have v6 : vw d c H6 pr = some (.lst ((heapBytes kinds long es).map V.int)) := (vw_at (b5.st.ned hpr) (b5.st.nec hpr)).trans d6
      have b6 := (b5.keep s6).add v6
      have hes6 : Pts EntAt (vw d c H6) ps es := Pts.mono (fun _ _ h => EntAt.same (vw_same s6) h) hes
      refine ⟨_, SqL.of d6, fun pt hpt => ⟨len2, fun pl hpl => ?_⟩⟩
      have b7 := b6.new hpt (o := .tup ((heapBytes kinds long es).map V.int))
      have b8 := b7.new hpl (o := .lst [V.ref pr, V.ref pt])
      refine ⟨c, n + 690, b8.st.mono (by omega), by decide, by decide, fun u u0 u1 H9 s9 st9 => ?_⟩
      have b9 := b8.draw s9 st9
      have hes9 : Pts EntAt (vw d c H9) ps es := Pts.mono (fun _ _ h => EntAt.same s9 (EntAt.same (vw_same (same_new hpl (Same.refl _))) (EntAt.same (vw_same (same_new hpt (Same.refl _))) h))) hes6
      have hr0 : ∃ r0 : Addr, atI [V.ref pr, V.ref pt] u = some (.ref r0) ∧ RowAt H9 r0 (heapBytes kinds long es) := by
        have : u = 0 ∨ u = 1 := by omega
        rcases this with e | e <;> rw [e]
        · exact ⟨pr, atN (n := 0) rfl, .inl b9.hd3⟩
        · exact ⟨pt, atN (n := 1) rfl, .inr b9.hd2⟩
      obtain ⟨r0, hr1, hr2⟩ := hr0
      refine ⟨_, _, .inl (SqL.of b9.hd), hr1, fun x dx hx hdx hne => ?_⟩
      refine ⟨dx, heapBytes kinds long es, upd_same, heap_nn _ _ _, ?_, by omega, ?_⟩
      · exact hr2.same fun b o e => by
          rw [upd_ne (ne_of_none e hx), upd_ne (ne_of_none e hdx)]
          exact e
      rw [heap_round hok]
      intro H10 sb10 hat10
      have s10 := make_same hx hdx sb10
      have b10 := (b9.keep s10).sub (os' := [(pr, .lst ((heapBytes kinds long es).map V.int)), (pe, .lst (ps.map V.ref)), (pk, .lst (kindsV kinds))]) (fun x hx => by
        simp only [List.mem_cons, List.mem_nil_iff, or_false] at hx ⊢
        rcases hx with h | h | h <;> simp [h])
      have hb : HB K d c H pr pe pk x ps kinds long es [] (n + 690) H10 := ⟨b10, Pts.mono (fun _ _ h => EntAt.same (vw_same s10) h) hes9, hat10.hide b10.st k1 he1⟩
      refine ⟨rfl, ?_⟩
      clear b9 b8 b7 b6 b5 be
      dsimp only [gName]
      have hrw : ∀ e ∈ es, e.row.length ≤ 100000 := fun e he => by rw [hok.row e he]; omega
      refine seq_par (fun σ H' => σ = [some (.ref d), some (.ref pk), some (.int (long : Nat)), some (.ref pe), some (.ref pr), some (.ref x), none, none, none, none, none, none, none, none, none] ∧ HB K d c H pr pe pk x ps kinds long es [] (n + 690) H') (fun N hN => ?_) ?_
      · refine if_par (fun k H' => k = false ∧ HB K d c H pr pe pk x ps kinds long es [] (n + 690) H') (fun Q' hQ => ?_) (fun H' hb => nomatch hb.1) (fun H7 hb => hN _ _ ⟨rfl, hb.2⟩)
        have hat := hb.hat
        obtain ⟨dx1, kl, el, g1, g2, g3⟩ := id hat
        refine ⟨dx1, _, g1, rfl, kinds, long, es, hat, fun p11 hp11 => ?_⟩
        have s11 : Same H10 (upd H10 p11 (.lst (kindsV kinds))) := same_new hp11 (Same.refl _)
        have d11 := upd_same (H := H10) (a := p11) (o := .lst (kindsV kinds))
        generalize upd H10 p11 (.lst (kindsV kinds)) = H11 at *
        have hb11 := hb.keep s11
        refine ⟨dx1, _, s11 _ _ g1, rfl, kinds, long, es, hb11.hat, ?_⟩
        refine ⟨dx1, _, s11 _ _ g1, rfl, kinds, long, es, hb11.hat, fun H12 p12 s12 hp12 he12 => ?_⟩
        have hb12 := hb11.keep s12
        refine ⟨len3, fun p13 hp13 => ⟨len3, fun p14 hp14 => ?_⟩⟩
        have s13 : Same H12 (upd H12 p13 (.lst [V.ref p11, V.int (long : Nat), V.ref p12])) := same_new hp13 (Same.refl _)
        have d13 := upd_same (H := H12) (a := p13) (o := .lst [V.ref p11, V.int (long : Nat), V.ref p12])
        generalize upd H12 p13 (.lst [V.ref p11, V.int (long : Nat), V.ref p12]) = H13 at *
        have s14 : Same H13 (upd H13 p14 (.lst [V.ref pk, V.int (long : Nat), V.ref pe])) := same_new hp14 (Same.refl _)
        have d14 := upd_same (H := H13) (a := p14) (o := .lst [V.ref pk, V.int (long : Nat), V.ref pe])
        generalize upd H13 p14 (.lst [V.ref pk, V.int (long : Nat), V.ref pe]) = H14 at *
        have hb14 := (hb12.keep s13).keep s14
        have s1214 := s13.trans s14
        have k1 : SameV H14 3 (.ref p11) (.ref pk) := SameV.kinds (s1214 _ _ (s12 _ _ d11)) hb14.hpk (by omega)
        have k2 : SameV H14 3 (.ref p12) (.ref pe) := SameV.ents (EntsAt.same s1214 he12) hb14.ents (by omega) hrw
        refine ⟨.lst (s14 _ _ d13) d14 rfl (by simp) (fun i x y hx hy => ?_), fun H15 s15 => hQ _ _ ⟨rfl, hb14.keep s15⟩⟩
        match i, hx, hy with
        | 0, hx, hy => cases hx; cases hy; exact k1
        | 1, hx, hy => cases hx; cases hy; exact .int 3 _
        | 2, hx, hy => cases hx; cases hy; exact k2
        | i + 3, hx, hy => simp at hx
      · clear hb b10 hat10
        rintro _ H11 ⟨rfl, hb⟩
        have hpl := Pts.len hb.hes
        have get2 : ∀ {H2 : Hp}, Same H11 H2 → ∀ {i : Nat} {v : V}, (ps.map V.ref)[i]? = some v → ∃ e x t, v = .ref e ∧ es[i]? = some x ∧ H2 e = some (.tup [.int x.num, .int x.cnt, .ref t]) ∧ H2 t = some (.tup (x.row.map cv)) := fun {H2} s2 {i v} hv => by
          rw [List.getElem?_map] at hv
          cases ep : ps[i]? with
          | none =>
            rw [ep] at hv
            cases hv
          | some e =>
            rw [ep] at hv
            cases hv
            obtain ⟨x, hxi, t, h1, h2⟩ := Pts.get hb.hes ep
            exact ⟨e, x, t, rfl, hxi, s2 _ _ h1, s2 _ _ h2⟩
        have hl := hb.hpe
        refine ⟨⟨_, SqL.of hl⟩, fun D1 hD1 => ?_⟩
        refine LcGoes.by (.list (xs := ps.map V.ref)) hD1 (fun i acc H' => acc = ((colN es).take i).map cv) rfl (fun i acc H' _ s' _ _ => SqL.of (s' _ _ hl)) (fun i acc v H3 _ hi ha s3 d3 e3 it => ?_) (fun acc H3 ha s3 d3 e3 => ?_)
        · obtain ⟨hv, rfl⟩ := it
          obtain ⟨e, x, t, rfl, hxi, h1, h2⟩ := get2 s3 hv
          have hc : (colN es)[i]? = some (.int x.num) := by
            unfold colN
            rw [List.getElem?_map, hxi]
            rfl
          refine ⟨rfl, ⟨fun _ => ⟨_, .int x.num, .inr (SqT.of h1), rfl, ?_⟩, (nomatch ·)⟩⟩
          refine LcP.put hD1 (by rw [sizeLine_eq]; rw [List.length_map] at hi; omega) ha s3 d3 ?_
          rw [e3, take_snoc hc]
          simp [cv]
        · have e4 : (colN es).take (ps.map V.ref).length = colN es := List.take_of_length_le (by unfold colN; rw [List.length_map, List.length_map]; omega)
          rw [e4] at e3
          rw [e3] at d3
          have hl3 := s3 _ _ hl
          refine ⟨⟨_, SqL.of hl3⟩, fun D2 hD2 => ?_⟩
          refine LcGoes.by (.list (xs := ps.map V.ref)) hD2 (fun i acc H' => acc = ((colC es).take i).map cv) rfl (fun i acc H' _ s' _ _ => SqL.of (s' _ _ hl3)) (fun i acc v H4 _ hi ha s4 d4 e4 it => ?_) (fun acc H4 ha s4 d4 e4 => ?_)
          · obtain ⟨hv, rfl⟩ := it
            obtain ⟨e, x, t, rfl, hxi, h1, h2⟩ := get2 (s3.trans s4) hv
            have hc : (colC es)[i]? = some (.int x.cnt) := by
              unfold colC
              rw [List.getElem?_map, hxi]
              rfl
            refine ⟨rfl, ⟨fun _ => ⟨_, .int x.cnt, .inr (SqT.of h1), rfl, ?_⟩, (nomatch ·)⟩⟩
            refine LcP.put hD2 (by rw [sizeLine_eq]; rw [List.length_map] at hi; omega) ha s4 d4 ?_
            rw [e4, take_snoc hc]
            simp [cv]
          · have e5 : (colC es).take (ps.map V.ref).length = colC es := List.take_of_length_le (by unfold colC; rw [List.length_map, List.length_map]; omega)
            rw [e5] at e4
            rw [e4] at d4
            have s04 := s3.trans s4
            have d14 := s4 _ _ d3
            refine ⟨len2, fun col hcol => ?_⟩
            have s05 : Same H11 (upd H4 col (.lst [V.ref D1, V.ref D2])) := same_new (s04.free hcol) s04
            have d5 := upd_same (H := H4) (a := col) (o := .lst [V.ref D1, V.ref D2])
            have d15 := (same_new (o := .lst [V.ref D1, V.ref D2]) hcol (Same.refl _)) _ _ d14
            have d25 := (same_new (o := .lst [V.ref D1, V.ref D2]) hcol (Same.refl _)) _ _ d4
            generalize upd H4 col (.lst [V.ref D1, V.ref D2]) = H5' at *
            have hb5 := hb.keep s05
            have hkl : (kindsV kinds).length = kinds.length := by simp [kindsV]
            refine ⟨_, .inl (SqL.of hb5.hpk), by rw [hkl]; omega, by rw [hkl]; omega, fun D3 hD3 => ?_⟩
            refine LcGoes.by .range hD3 (fun i acc H' => ∃ qs : List Addr, acc = qs.map V.ref ∧ Pts ColAt (hid H5' D3 H') qs ((List.range i).map (colR es))) ⟨[], rfl, trivial⟩ (fun _ _ _ _ _ _ _ => trivial) ?_ ?_
            · rintro i _ _ H6 _ hi ha6 s6 d6 ⟨qs, rfl, hqs⟩ ⟨rfl, rfl⟩
              have hi : i < kinds.length := by
                have : i < (((kindsV kinds).length : Nat) : Int).toNat := hi
                rw [hkl] at this
                simpa using this
              have hl6 := s6 _ _ hb5.hpe
              refine ⟨rfl, ⟨fun _ => ⟨⟨_, SqL.of hl6⟩, fun D4 hD4 => ?_⟩, (nomatch ·)⟩⟩
              refine LcGoes.by (.list (xs := ps.map V.ref)) hD4 (fun j acc H' => acc = ((colR es i).take j).map cv) rfl (fun j acc H' _ s' _ _ => SqL.of (s' _ _ hl6)) (fun j acc v H7 _ hj ha s7 d7 e7 it => ?_) (fun acc H7 ha s7 d7 e7 => ?_)
              · obtain ⟨hv, rfl⟩ := it
                obtain ⟨e, x, t, rfl, hxi, h1, h2⟩ := get2 ((s05.trans s6).trans s7) hv
                have hr := hok.row x (List.mem_of_getElem? hxi)
                obtain ⟨y, hy⟩ := get_lt (l := x.row) (i := i) (by omega)
                have hcc := colR_get (j := i) hxi
                rw [hy] at hcc
                have e0 : (0 : Int) + (i : Nat) = ((i : Nat) : Int) := by omega
                refine ⟨rfl, ⟨fun _ => ⟨_, .ref t, .inr (SqT.of h1), rfl, ⟨_, cv y, .inr (SqT.of h2), ?_, ?_⟩⟩, (nomatch ·)⟩⟩
                · rw [e0]
                  exact atN (by rw [List.getElem?_map, hy]; rfl)
                · refine LcP.put hD4 (by rw [sizeLine_eq]; rw [List.length_map] at hj; omega) ha s7 d7 ?_
                  rw [e7, take_snoc hcc]
                  simp
              · have e8 : (colR es i).take (ps.map V.ref).length = colR es i := List.take_of_length_le (by unfold colR; rw [List.length_map, List.length_map]; omega)
                rw [e8] at e7
                rw [e7] at d7
                refine LcP.put hD3 (by rw [sizeLine_eq]; omega) ha6 (s6.trans s7) (s7 _ _ d6) ⟨qs ++ [D4], by simp, ?_⟩
                rw [hid_upd, List.range_succ, List.map_append]
                refine Pts.snoc ?_ (Pts.mono (fun p x h => hid_same s7 _ _ h) hqs)
                exact (hid_eq (Ne.symm (ne_of_none d6 hD4)) (s6.free hD4)).trans d7
            · rintro _ H6 ha6 s6 d6 ⟨qs, rfl, hqs⟩
              have hkN : (((kindsV kinds).length : Nat) : Int).toNat = kinds.length := by rw [hkl]; exact Int.toNat_natCast _
              rw [hkN] at hqs
              have hq6 : Pts ColAt H6 (D1 :: D2 :: qs) (columns kinds.length es) := ⟨s6 _ _ d15, s6 _ _ d25, Pts.imp (fun _ _ h => hid_le _ _ h) hqs⟩
              have hql := Pts.len hqs
              have hql : qs.length = kinds.length := by simpa using hql
              refine ⟨[V.ref D1, V.ref D2], qs.map V.ref, s6 _ _ d5, d6, by rw [sizeLine_eq, List.length_map]; simp; omega, fun pc hpc => ?_⟩
              have hb6 := (hb5.keep s6)
              have e12 : [V.ref D1, V.ref D2] ++ qs.map V.ref = (D1 :: D2 :: qs).map V.ref := rfl
              rw [e12]
              have s7 : Same H6 (upd H6 pc (.lst ((D1 :: D2 :: qs).map V.ref))) := same_new hpc (Same.refl _)
              have hb7 : HB K d c H pr pe pk x ps kinds long es [(pc, .lst ((D1 :: D2 :: qs).map V.ref))] (n + 690) (upd H6 pc (.lst ((D1 :: D2 :: qs).map V.ref))) := by
                have k := hb6.keep s7
                refine ⟨⟨k.b.same, fun y hy => ?_, k.b.st⟩, k.e, k.h⟩
                simp only [List.mem_cons, List.mem_nil_iff, or_false] at hy
                rcases hy with rfl | rfl | rfl | rfl
                · exact k.b.v1
                · exact k.b.v2
                · exact k.b.v3
                · exact hb6.b.st.new hpc
              have hq7 : Pts ColAt (upd H6 pc (.lst ((D1 :: D2 :: qs).map V.ref))) (D1 :: D2 :: qs) (columns kinds.length es) := Pts.mono (fun _ _ h => s7 _ _ h) hq6
              have hqa : (D1 :: D2 :: qs).length = kinds.length + 2 := by simp [hql]
              clear hb6 hb5 hq6 hqs hql s7 d6 s6 d25 d15 d5 s05 hb
              generalize upd H6 pc (.lst ((D1 :: D2 :: qs).map V.ref)) = H12 at *
              generalize D1 :: D2 :: qs = qa at *
              dsimp only [gName]
              refine seq_par (fun σ H' => ∃ y7 y8 y9 y10 : Option V, σ = [some (.ref d), some (.ref pk), some (.int (long : Nat)), some (.ref pe), some (.ref pr), some (.ref x), some (.ref pc), y7, y8, y9, y10, none, none, none, none] ∧ HB K d c H pr pe pk x ps kinds long es [(pc, .lst (qa.map V.ref))] (n + 690) H') (fun N hN => ?_) ?_
              · have hat := hb7.hat
                obtain ⟨dx1, kl, el, g1, g2, g3⟩ := id hat
                have hpc7 : H12 pc = some (.lst (qa.map V.ref)) := vw_le _ _ (hb7.b.own (pc, .lst (qa.map V.ref)) (by simp))
                refine ⟨dx1, _, g1, rfl, kinds, long, es, hat, l1, l64, by omega, by omega, hok.ent, fun H13 pp qp s13 hpp d13 hpil => ?_⟩
                have hpc13 := s13 _ _ hpc7
                have hcols13 : Pts ColAt H13 qa (columns kinds.length es) := Pts.mono (fun _ _ h => s13 _ _ h) hq7
                have hpil13 : Pts (fun H x cs => PillarAt K H x long cs) H13 qp (columns kinds.length es) := Pts.mono (fun _ _ h => PillarAt.same hid_le h) hpil
                refine ⟨qp.map V.ref, qa.map V.ref, .inl ⟨SqL.of d13, SqL.of hpc13, ?_⟩⟩
                refine ForGoes.by (.zip (xs := qp.map V.ref) (ys := qa.map V.ref)) (fun i σ H' => ∃ y7 y8 y9 y10 : Option V, σ = [some (.ref d), some (.ref pk), some (.int (long : Nat)), some (.ref pe), some (.ref pr), some (.ref x), some (.ref pc), y7, y8, y9, y10, none, none, none, none] ∧ Same H13 H') ⟨_, _, _, _, rfl, Same.refl _⟩ ?_ ?_ ?_
                · rintro i _ H' _ ⟨_, _, _, _, _, s'⟩
                  exact ⟨SqL.of (s' _ _ d13), SqL.of (s' _ _ hpc13)⟩
                · rintro i _ _ H14 _ hi ⟨y7, y8, y9, y10, rfl, s14⟩ ⟨T1, v1, v2, rfl, hT, rfl, h1, h2⟩
                  rw [List.getElem?_map] at h1 h2
                  cases ep1 : qp[i]? with
                  | none => rw [ep1] at h1; cases h1
                  | some pil =>
                  cases ep2 : qa[i]? with
                  | none => rw [ep2] at h2; cases h2
                  | some q =>
                  rw [ep1] at h1
                  rw [ep2] at h2
                  cases h1
                  cases h2
                  obtain ⟨cs, hcs1, hpl1⟩ := Pts.get hpil13 ep1
                  obtain ⟨cs', hcs2, hcol⟩ := Pts.get hcols13 ep2
                  rw [hcs1] at hcs2
                  cases hcs2
                  have hcm := List.mem_of_getElem? hcs1
                  have hfit := hok.fit cs hcm
                  have hkind := hok.kind cs hcm
                  have hcl := column_len hcm
                  have s15 : Same H14 (upd H14 T1 (.tup [V.ref pil, V.ref q])) := same_new hT (Same.refl _)
                  have dT := upd_same (H := H14) (a := T1) (o := .tup [V.ref pil, V.ref q])
                  generalize upd H14 T1 (.tup [V.ref pil, V.ref q]) = H15 at *
                  refine ⟨_, SqT.of dT, rfl, by rw [sizeLine_eq]; decide, fun t0 ht0 => ?_⟩
                  have s16 : Same H15 (upd H15 t0 (.lst [])) := same_new ht0 (Same.refl _)
                  have dt0 := upd_same (H := H15) (a := t0) (o := .lst [])
                  generalize upd H15 t0 (.lst []) = H16 at *
                  have s1316 := (s14.trans s15).trans s16
                  have hpl16 := PillarAt.same s1316 hpl1
                  obtain ⟨dx2, rl, nl, rps, f1, f2, f3⟩ := id hpl16
                  refine ⟨dx2, _, f1, rfl, long, cs, hpl16, by omega, l64, fun H17 lr rws s17 hlr d17 hrows => ?_⟩
                  have hr17 : LRows H17 rws ((chunks long cs).map pressed) := LRows.same hid_le hrows
                  have hrl := LRows.len hr17
                  rw [List.length_map] at hrl
                  have hchf := chunks_flat (cs := cs) l1
                  refine ⟨⟨_, SqL.of d17⟩, ?_⟩
                  refine ForGoes.by (.list (xs := rws.map V.ref)) (fun j σ H' => ∃ (tl : Addr) (y10 : Option V), σ = [some (.ref d), some (.ref pk), some (.int (long : Nat)), some (.ref pe), some (.ref pr), some (.ref x), some (.ref pc), some (.ref pil), some (.ref q), some (.ref tl), y10, none, none, none, none] ∧ Same H17 H' ∧ H' tl = some (.lst ((((chunks long cs).take j).flatten).map cv))) ⟨t0, _, rfl, Same.refl _, s17 _ _ dt0⟩ ?_ ?_ ?_
                  · rintro j _ H' _ ⟨_, _, _, s', _⟩
                    exact SqL.of (s' _ _ d17)
                  · rintro j _ _ H18 _ hj ⟨tl, y10, rfl, s18, dtl⟩ ⟨hv, rfl⟩
                    rw [List.getElem?_map] at hv
                    cases ep : rws[j]? with
                    | none => rw [ep] at hv; cases hv
                    | some p =>
                    rw [ep] at hv
                    cases hv
                    obtain ⟨bs, hb1, hb2⟩ := LRows.get hr17 ep
                    rw [List.getElem?_map] at hb1
                    cases ec : (chunks long cs)[j]? with
                    | none => rw [ec] at hb1; cases hb1
                    | some ck =>
                    rw [ec] at hb1
                    cases hb1
                    have hckm := List.mem_of_getElem? ec
                    have hck : Good ck ∧ isStretch ck = true := by
                      obtain ⟨u, hu, rfl⟩ := List.mem_map.mp hckm
                      have g := chunk_good l1 l64 hfit (List.mem_range.mp hu)
                      exact ⟨g, stretch_of (onekind_chunk hkind long u) g.fit⟩
                    refine ⟨pressed ck, pressed_nn ck, .inl (s18 _ _ hb2), ?_⟩
                    rw [un_pressed hck.1 hck.2]
                    intro H19 u s19 hu du
                    have hfl := flat_take_le (chunks long cs) j
                    rw [hchf] at hfl
                    have hckl := hck.1.len
                    refine ⟨_, _, s19 _ _ dtl, du, by rw [sizeLine_eq, List.length_map, List.length_map]; omega, fun t2 ht2 => ?_⟩
                    refine ⟨t2, _, rfl, (s18.trans s19).trans (same_new ht2 (Same.refl _)), ?_⟩
                    rw [upd_same, take_snoc ec]
                    simp
                  · rintro _ H18 ⟨tl, y10, rfl, s18, dtl⟩
                    have e18 : (chunks long cs).take (rws.map V.ref).length = chunks long cs := List.take_of_length_le (by rw [List.length_map]; omega)
                    rw [e18, hchf] at dtl
                    have s1318 := (s1316.trans s17).trans s18
                    refine ⟨SameV.cells dtl (s1318 _ _ hcol) (by omega), fun H19 s19 => ⟨fun c => absurd c (by decide), fun _ => ?_⟩⟩
                    have s1319 := s1318.trans s19
                    have hpl19 := PillarAt.same s1319 hpl1
                    obtain ⟨dx3, rl3, nl3, rps3, f13, _, _⟩ := id hpl19
                    refine ⟨dx3, _, f13, rfl, long, cs, hpl19, _, .inl (SqL.of (s1319 _ _ hcol)), ?_⟩
                    rw [List.length_map]
                    exact ⟨.int 4 _, fun H20 s20 => ⟨fun c => absurd c (by decide), fun _ => ⟨_, _, _, _, rfl, s1319.trans s20⟩⟩⟩
                · rintro _ H14 ⟨y7, y8, y9, y10, rfl, s14⟩
                  exact hN _ _ ⟨_, _, _, _, rfl, hb7.keep (s13.trans s14)⟩
              · rintro _ H13 ⟨y7, y8, y9, y10, rfl, hb⟩
                clear hb7 hq7
                refine ⟨c, n + 600, heapBytes kinds long es, hb.b.v1, by omega, by omega, heap_nn _ _ _, hb.b.st.mono (by omega), fun H14 pb bs' hnn' hl' hpb b14 => ?_⟩
                have hb14 := hb.draw b14.same b14.st
                have hRb := b14.hd
                refine fun x2 dx2 hx2 hdx2 hne2 => ?_
                refine ⟨dx2, bs', upd_same, hnn', .inl (by rw [upd_ne (ne_of_none hRb hx2), upd_ne (ne_of_none hRb hdx2)]; exact hRb), by omega, ?_⟩
                cases ho : heapOf bs' with
                | none =>
                  intro H15 sb15 d1 H16 s16
                  have s1416 := (make_same hx2 hdx2 sb15).trans s16
                  refine ⟨true, exm_bad T, fun _ a ha => ?_, (nomatch ·)⟩
                  have hb16 := hb14.keep s1416
                  refine ⟨fun _ => ?_, fun c => absurd c (by decide)⟩
                  have hat := hb16.hat
                  obtain ⟨dx1, kl, el, g1, g2, g3⟩ := id hat
                  refine ⟨dx1, _, g1, rfl, kinds, long, es, hat, l1, l64, by omega, by omega, hok.ent, fun H17 pp qp s17 hpp d17 hpil => ?_⟩
                  have hb17 := hb16.keep s17
                  have hpc17 : H17 pc = some (.lst (qa.map V.ref)) := vw_le _ _ (hb17.b.own (pc, .lst (qa.map V.ref)) (by simp))
                  have hl1 := Pts.len hpil
                  rw [columns_len] at hl1
                  refine ⟨_, .inl (SqL.of d17), _, .inl (SqL.of hpc17), rfl, ?_⟩
                  rw [List.length_map, List.length_map, hl1, hqa]
                  simpa using h _ hb17.b.same (hb17.b.st.mono (by omega))
                | some z =>
                  obtain ⟨kinds', long', es'⟩ := z
                  intro H15 sb15 hat15
                  have s15 := make_same hx2 hdx2 sb15
                  have hok' := heap_read_ok (by omega) ho
                  have hrd := heap_read ho
                  have hbd' : (heapBody kinds' long' es').length ≤ 12000 := by
                    have e := congrArg List.length hrd
                    unfold heapBytes summed at e
                    rw [List.length_append] at e
                    omega
                  refine ⟨rfl, ⟨fun c => absurd c (by simp), fun _ => ?_⟩⟩
                  obtain ⟨dx1, kl, el, g1, g2, g3⟩ := id hat15
                  refine ⟨dx1, _, g1, rfl, kinds', long', es', hat15, fun p16 hp16 => ?_⟩
                  have s16 : Same H15 (upd H15 p16 (.lst (kindsV kinds'))) := same_new hp16 (Same.refl _)
                  have d16 := upd_same (H := H15) (a := p16) (o := .lst (kindsV kinds'))
                  generalize upd H15 p16 (.lst (kindsV kinds')) = H16 at *
                  have hat16 := HeapAt.same s16 hat15
                  refine ⟨dx1, _, s16 _ _ g1, rfl, kinds', long', es', hat16, ?_⟩
                  refine ⟨dx1, _, s16 _ _ g1, rfl, kinds', long', es', hat16, fun H17 p17 s17 hp17 he17 => ?_⟩
                  have k8' := hok'.k8
                  refine ⟨kinds', es', long', rfl, hok'.l1, hok'.l64, s17 _ _ d16, by omega, he17, hok'.e2, hok'.ent, by omega, fun H18 p18 s18 hp18 d18 => ?_⟩
                  have sall := ((s15.trans s16).trans s17).trans s18
                  have hb18 := hb14.keep sall
                  refine ⟨_, _, d18, sall _ _ hRb, ?_⟩
                  rw [hrd]
                  simpa using h _ hb18.b.same (hb18.b.st.mono (by omega))
    · exact h.elim
end
end K90
namespace K90
open PySem PySem.Spec PyProof.Rows L2 RT RZ
theorem cut_hi {xs : List V} (n : Nat) : cutV xs none (some ((n : Nat) : Int)) = xs.take n := by
  have h1 : HT.sIx xs.length xs.length (some ((n : Nat) : Int)) = min n xs.length := HT.sIx_nat _ _ _
  have h0 : HT.sIx xs.length 0 none = 0 := HT.sIx_none _ _
  unfold cutV
  rw [h0, h1, Nat.sub_zero, List.drop_zero, List.take_eq_take_iff]
  omega
theorem merge_state (c : Addr) : mergeK [] [((.inr "cells" : Key), V.ref c), (.inr "turn", V.int 0)] = [(.inr "cells", .ref c), (.inr "turn", .int 0)] := rfl
section
variable {P : Program} {w : World} {K : PySem.W.Frag} {mg : Str → Option Value} {base : Heap}
def sp_law_begin (K : PySem.W.Frag) : Sp := fun vs H Q E => match vs with
  | [.ref s] => ∃ xs : List Int, SqL K H s (xs.map V.int) ∧ xs.length ≤ 63 ∧ ∀ H' d c, Same H H' → St d c 900000000 H' → Q (.ref d) H'
  | _ => False
theorem sc_law_begin : FnScope ["_law_script", "_law_cells_here"] ["_law_script"] (defScope s_law_begin) := ⟨rfl, rfl, rfl, by decide +kernel, rfl, by decide +kernel, by decide +kernel⟩
theorem ok_law_begin (T : Txt K mg) : Cal P w K mg base 1 "_law_begin" (sp_law_begin K) := by
  obtain ⟨fd, F⟩ := D_law_begin T
  refine cal_mk (g_law_begin T) F sc_law_begin (fun _ _ _ _ _ _ us hl => match us, hl with | [_], _ => rfl) (fun vs H Q E h => ?len) (fun cdv A outer s H vs Q E hr h => ⟨_, (pss_cons (ps_set (i := 1) sc_law_begin.nd rfl (by first | exact Or.inl rfl | exact Or.inr rfl) (pe_callTy (q_list (K := K)) rfl (b_list T) (by decide +kernel) (pa_cons (pe_slice (q_sl (K := K)) (uv 0) po_none (u_some pe_int)) pa_nil)))
      (pss_cons (us_if (ut_cmp (o_eq hr.units) (uv 1) (pe_lst pa_nil) (nomark _)) (pss_one (ps_set (i := 1) sc_law_begin.nd rfl (by first | exact Or.inl rfl | exact Or.inr rfl) (pe_lst (pa_cons pe_int pa_nil)))) pss_nil)
      (pss_one (ps_ret (pe_disp (pps_cons pe_str (uv 1) (pps_cons pe_str pe_int pps_nil)) (by rfl) (by rfl) (fun z => by cases z) (by decide)))))), ?body⟩)
  case len => unfold sp_law_begin at h; (split at h) <;> first | rfl | exact h.elim
  case body =>
    unfold sp_law_begin at h
    split at h
    · rename_i s
      obtain ⟨xs, hs, hl, h⟩ := h
      refine .inl ⟨_, hs, fun p hp => ?_⟩
      have e1 : cutV (xs.map V.int) none (some 63) = (xs.take 63).map V.int := (cut_hi 63).trans (by rw [List.map_take])
      rw [e1]
      have s1 : Same H (upd H p (.lst ((xs.take 63).map V.int))) := same_new hp (Same.refl _)
      have d1 := upd_same (H := H) (a := p) (o := .lst ((xs.take 63).map V.int))
      generalize upd H p (.lst ((xs.take 63).map V.int)) = H1 at *
      have hxl : (xs.take 63).length ≤ 63 := by rw [List.length_take]; omega
      generalize xs.take 63 = ys at *
      refine ⟨_, .inl (SqL.of d1), fun q hq => ?_⟩
      have s2 : Same H1 (upd H1 q (.lst (ys.map V.int))) := same_new hq (Same.refl _)
      have d2 := upd_same (H := H1) (a := q) (o := .lst (ys.map V.int))
      generalize upd H1 q (.lst (ys.map V.int)) = H2 at *
      dsimp only [gName]
      refine seq_par (fun σ H' => ∃ (q : Addr) (ys : List Int), σ = [some (.ref s), some (.ref q)] ∧ Same H H' ∧ H' q = some (.lst (ys.map V.int)) ∧ ys ≠ [] ∧ ys.length ≤ 63) (fun N hN => ?_) ?_
      · refine ⟨by rw [sizeLine_eq]; decide, fun p3 hp3 => ?_⟩
        have s3 : Same H2 (upd H2 p3 (.lst (([] : List Int).map V.int))) := same_new hp3 (Same.refl _)
        refine ⟨ys, [], s3 _ _ d2, upd_same, ⟨fun c => ?_, fun c => ?_⟩⟩
        · refine ⟨len1, fun p4 hp4 => hN _ _ ⟨p4, [7], rfl, ?_, upd_same, by simp, by simp⟩⟩
          exact ((s1.trans s2).trans s3).trans (same_new hp4 (Same.refl _))
        · have c : ys ≠ [] := by simpa using c
          exact hN _ _ ⟨q, ys, rfl, (s1.trans s2).trans s3, s3 _ _ d2, c, hxl⟩
      · rintro _ H3 ⟨q, ys, rfl, s3, d3, hne, hl3⟩
        refine fun dd hdd => ⟨upd_same, [((.inr "cells" : Key), V.ref q), (.inr "turn", V.int 0)], rfl, (by simp), ?_⟩
        rw [merge_state, upd_upd]
        have s4 : Same H3 (upd H3 dd (.dK [((.inr "cells" : Key), V.ref q), (.inr "turn", V.int 0)])) := same_new hdd (Same.refl _)
        exact h _ dd q (s3.trans s4) ⟨ys, 0, upd_same, s4 _ _ d3, hne, hl3, by decide, by decide⟩
    · exact h.elim
def sp_law (K : PySem.W.Frag) : Sp := fun vs H Q E => match vs with
  | [.ref s] => ∃ xs : List Int, SqL K H s (xs.map V.int) ∧ xs.length ≤ 63 ∧ ∀ H', Q (.bl true) H'
  | _ => False
theorem sc_law : FnScope ["_law_script", "_law_state", "_law_turn"] ["_law_script"] (defScope s_law) := ⟨rfl, rfl, rfl, by decide +kernel, rfl, by decide +kernel, by decide +kernel⟩
theorem fn_law (T : Txt K mg) : ∃ fd : FuncData, (∀ (s : Shared) (v : Value), BindsTo s fd ⟨[v], []⟩ [("_law_script", v)]) ∧ ∀ base : Heap, FnOk P w K mg base (L2.CX P w) 21 (He.ga K "law") fd ["_law_script"] (sp_law K) := by
  obtain ⟨fd, F⟩ := D_law T
  have b := FunD.bindsA (ps := ["_law_script"]) F fun _ _ _ _ _ _ us hl => match us, hl with | [_], _ => rfl
  refine ⟨fd, fun s v => b s [v] rfl, fun base => F.ok (k := 20) sc_law (fun vs H Q E h => ?len) (fun cdv A outer s H vs Q E hr h => ⟨_,
(pss_cons (ps_set (i := 1) sc_law.nd rfl (by first | exact Or.inl rfl | exact Or.inr rfl) (u_call (ok_law_begin T) hr (by decide) (pa_cons (uv 0) pa_nil)))
      (pss_cons (us_for (passes_of rfl) rfl (j_rng (b_range T) (pa_cons pe_int pa_nil)) (pg_name (i := 2) sc_law.nd rfl (by first | exact Or.inl rfl | exact Or.inr rfl)) (pss_one (us_if (pt_not (ut_val (u_call (ok_law_stretch T) hr (by decide) (pa_cons (uv 1) pa_nil)))) (pss_one (ps_ret pe_bl)) pss_nil)))
      (pss_one (ps_ret (u_call (ok_law_heap T) hr (by decide) (pa_cons (uv 1) pa_nil))))))
    , ?body⟩)⟩
  case len => unfold sp_law at h; (split at h) <;> first | rfl | exact h.elim
  case body =>
    unfold sp_law at h
    split at h
    · rename_i s
      obtain ⟨xs, hs, hl, h⟩ := h
      refine ⟨xs, hs, hl, fun H1 d c s1 st1 => ?_⟩
      refine ⟨by decide, by decide, ?_⟩
      refine ForGoes.by .range (fun i σ H' => ∃ x : Option V, σ = [some (.ref s), some (.ref d), x] ∧ St d c (900000000 - 10000 * i) H') ⟨none, rfl, st1⟩ (fun _ _ _ _ _ => trivial) ?_ ?_
      · rintro i _ _ H2 _ hi ⟨x, rfl, st2⟩ ⟨rfl, rfl⟩
        have hi : i < 3 := hi
        refine ⟨c, 900000000 - 10000 * (i + 1), st2.mono (by omega), fun H3 s3 st3 => ?_⟩
        exact ⟨fun c => absurd c (by decide), fun _ => ⟨_, rfl, st3⟩⟩
      · rintro _ H2 ⟨x, rfl, st2⟩
        exact ⟨c, 100, st2.mono (by decide), fun H3 s3 st3 => h _⟩
    · exact h.elim
end
end K90
set_option maxHeartbeats 0
namespace K90
open PySem PySem.Spec PyProof.Rows L2
/-- a law whose defs may let errors out, over a head by facts -/
theorem walk_err {lw : PySem.W.OpenLaw} {most lev : Nat} {vw : Program} {ls : List Str} {X1 : (Str → Option Value) → Heap → Prop} {Y1 : World → Heap → Prop} {rec : DefRec} {cx : World → CXT} {arg : Str}
    (h1 : lw.most = some most) (h2 : most ≤ sizeLine) (h3 : rec.params.defaults = []) (h4 : Room lev callerA)
    (tell : ∀ (wd : World) (mg : Str → Option Value) (adr : Addr) (hp : Heap), Y1 wd hp → hp.Ns mainGlobals mg → mg rec.name = some (.ref adr) →
      ∃ (fr : PySem.W.Frag) (dat : FuncData) (pr : Sp), fr.In hp ∧ (∀ (sh : Shared) (v : Value), BindsTo sh dat ⟨[v], []⟩ [(arg, v)]) ∧
        (∀ (hh : Hp) (ad : Addr) (nums : List Int), nums.length ≤ most → Only hh → SqL fr hh ad (nums.map V.int) → pr [.ref ad] hh (fun v _ => v = .bl true) fun _ _ _ => False) ∧
        ∀ bs : Heap, fr.In bs → bs.Ns mainGlobals mg → FnOk lw.prog wd fr mg bs (cx wd) lev adr dat [arg] pr)
    (h5 : ∀ (wd : World) (hh : Hp) (sh : Shared) (er : Value) (sh' : Shared), cx wd [] hh sh (fun _ _ _ => False) er sh' → False) :
    PySem.W.WalkO vw ls X1 Y1 lw.row.toRowW rec [] (fun fn us => PySem.call fn us) := by
  refine Att.attach_call h1 h3 fun wd t0 t1 mg mb adr ob pm cd doc ad us nums G Y g1 g2 g3 g4 g5 g6 g7 g8 => ?_
  obtain ⟨fr, dat, pr, kx, b1, b2, b3⟩ := tell wd mg adr _ Y G.T.g g4
  exact law_call kx G.T.g G.T.b G.T.builtins G.T.nolimit g8 g5 g6 (Nat.le_trans g7 h2) h4 b3 b1 (fun hh ho hs => b2 hh ad nums g7 ho hs) fun hh er sh' => h5 wd hh t1 er sh'
end K90
open PySem PySem.W PySem.Calls PyProof.Rows
theorem PySem.Challenge.cw_pillarstore_k90_whole_pressed_is_read_holds : PySem.Challenge.rw_pillarstore_k90_whole_pressed_is_read.Holds := by
  w_on; o_law
  refine HandSHeadRun.head_any (r := K90.R) (q := view K90.R.prog [110]) (H := K90.hk) (ob := K90.ob) (M := 6000) (loose := K90.names) (d := HandSHeadRun.topDef K90.R.prog 110) (kwd := []) K90.ob_eq
    (by kernel_rfl) (fun s => by kernel_rfl) K90.run (by kernel_rfl) (by kernel_rfl) (by kernel_rfl) (by rfl) (by first | assumption | decide +kernel) (by decide +kernel) ⟨rfl, rfl, rfl, rfl, rfl, by decide +kernel⟩ ?hw ?hc
  case hw => w_witness2
  case hc =>
    refine K90.walk_err (lw := PySem.Challenge.rw_pillarstore_k90_whole_pressed_is_read) (most := 63) (lev := 21) (arg := "_law_script") (cx := fun wd => L2.CX (PySem.Challenge.rw_pillarstore_k90_whole_pressed_is_read).prog wd) rfl (by decide) (by kernel_rfl) ⟨rfl, by decide, by decide⟩ ?F (fun _ _ _ _ _ ⟨_, _, _, _, _, _, _, _, _, _, _, _, z⟩ => z)
    intro w mg fa h Y G hmg0
    obtain ⟨K, KX, c, ex⟩ := Y
    have hmg : mg ("law" : PySem.Str) = some (.ref fa) := by
      have e : (HandSHeadRun.topDef K90.R.prog 110).name = ("law" : PySem.Str) := by kernel_rfl
      rw [← e]
      exact hmg0
    have T : K90.Txt K mg := ⟨c, ex, h, KX, G⟩
    have e := hmg.symm.trans (K90.g_law T)
    cases e
    obtain ⟨fd, hb, hF⟩ := K90.fn_law (P := (PySem.Challenge.rw_pillarstore_k90_whole_pressed_is_read).prog) (w := w) T
    exact ⟨K, fd, K90.sp_law K, KX, hb, fun H a ns hl _ hS => ⟨ns, hS, hl, fun _ => rfl⟩, fun base _ _ => hF base⟩
